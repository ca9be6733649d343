import PyProof.Rows.All
import Wide.All
import OpenK.AllK
import Wide.FinOn
import HandS.ForMost
import HandS.ForExc
import HandS.Lambda
import HandS.TupMul
import HandS.TupAny
import HandS.TupLe
import HandS.Deep
import HandS.Style
import HandS.Flow
import HandS.Dict
import HandS.Text
import HandS.IsInst
import HandS.SortInts
import HandS.SortRule
import HandS.More
import HandS.TupLen
import HandS.SetFor
import HandS.WordsExc
import HandS.Zip
import HandS.Comp
import HandS.NoneIn
import HandS.Small
import HandS.Strs
import HandS.Conv
import HandS.ExcIs
import HandS.HotCalls
import HandS.EndOwn
import HandS.EndTab
import HandS.CallLocal
import PyProof.ReprRoads
import PyProof.StrLawsRepr
import HandS.SortOrd
import KE.KDictSum
import PyProof.WalkInts
import PyProof.WalksMore
import PyProof.DictKeyH
import PyProof.DictFindH
import PyProof.DictRoadsH
import PyProof.TupleOfSeq
import KE.DataMinMax
import PySem.Challenge.RW_leaprings_k41_best_leaps
set_option Elab.async false
set_option linter.all false
set_option maxRecDepth 100000
namespace Pd
open PySem PySem.Spec L2

inductive D where
  | non | bl (b : Bool) | int (i : Int) | str (x : Str) | tup (ds : List D) | lst (ds : List D) | dct (kvs : List (D × D))
  | set (ns : List Int) | scr (ns : List Int) | ref (a : Addr) | ty (n : String)

inductive R (α : Type) where
  | stuck | ok (a : α) | err (n : Str)
namespace R
variable {α β : Type}
def bind (r : R α) (f : α → R β) : R β := match r with
  | stuck => stuck
  | ok a => f a
  | err n => err n
def post (r : R α) (P : α → Prop) (E : Str → Prop) : Prop := match r with
  | stuck => False
  | ok a => P a
  | err n => E n
theorem post_bind {r : R α} {f : α → R β} {P : β → Prop} {E : Str → Prop} (h : (r.bind f).post P E) : r.post (fun a => (f a).post P E) E := by
  cases r <;> exact h
theorem post_mono {r : R α} {P P' : α → Prop} {E E' : Str → Prop} (h : r.post P E) (hp : ∀ a, r = .ok a → P a → P' a) (he : ∀ n, E n → E' n) : r.post P' E' := by
  cases r with
  | stuck => exact h
  | ok a => exact hp a rfl h
  | err n => exact he n h
theorem post_imp {r : R α} {P P' : α → Prop} {E : Str → Prop} (h : r.post P E) (hp : ∀ a, P a → P' a) : r.post P' E := post_mono h (fun a _ => hp a) fun _ x => x
end R

def keyD : Key → D
  | .inl i => .int i
  | .inr x => .str x
def keyT (ks : List Key) : D := .tup (ks.map keyD)

mutual
/-- the value v is the data d, all of whose objects stand in F -/
inductive Rep (K : PySem.W.Frag) (F : Hp) : V → D → Prop where
  | non : Rep K F .non .non
  | bl (b : Bool) : Rep K F (.bl b) (.bl b)
  | int (i : Int) : Rep K F (.int i) (.int i)
  | str (x : Str) : Rep K F (.str x) (.str x)
  | ref (a : Addr) : Rep K F (.ref a) (.ref a)
  | ty (n : String) : Rep K F (.ty n) (.ty n)
  | tup {a : Addr} {xs : List V} {ds : List D} : F a = some (.tup xs) → Reps K F xs ds → ds.length ≤ sizeLine → Rep K F (.ref a) (.tup ds)
  | lst {a : Addr} {xs : List V} {ds : List D} : F a = some (.lst xs) → Reps K F xs ds → ds.length ≤ sizeLine → Rep K F (.ref a) (.lst ds)
  | dctK {a : Addr} {kvs : List (Key × V)} {ds : List (D × D)} : F a = some (.dK kvs) → RepK K F kvs ds → ds.length ≤ sizeLine → Rep K F (.ref a) (.dct ds)
  | dctT {a : Addr} {kvs : List (List Key × V)} {ds : List (D × D)} : F a = some (.dT kvs) → RepT K F kvs ds → ds.length ≤ sizeLine → Rep K F (.ref a) (.dct ds)
  | scr {a : Addr} {ns : List Int} : SqL K F a (ns.map V.int) → ns.length ≤ sizeLine → Rep K F (.ref a) (.scr ns)
inductive Reps (K : PySem.W.Frag) (F : Hp) : List V → List D → Prop where
  | nil : Reps K F [] []
  | cons {v : V} {d : D} {vs : List V} {ds : List D} : Rep K F v d → Reps K F vs ds → Reps K F (v :: vs) (d :: ds)
inductive RepK (K : PySem.W.Frag) (F : Hp) : List (Key × V) → List (D × D) → Prop where
  | nil : RepK K F [] []
  | cons {k : Key} {v : V} {d : D} {vs : List (Key × V)} {ds : List (D × D)} : Rep K F v d → RepK K F vs ds → RepK K F ((k, v) :: vs) ((keyD k, d) :: ds)
inductive RepT (K : PySem.W.Frag) (F : Hp) : List (List Key × V) → List (D × D) → Prop where
  | nil : RepT K F [] []
  | cons {k : List Key} {v : V} {d : D} {vs : List (List Key × V)} {ds : List (D × D)} : Rep K F v d → RepT K F vs ds → RepT K F ((k, v) :: vs) ((keyT k, d) :: ds)
end

section
variable {K : PySem.W.Frag} {F F' H H' : Hp}
theorem Same.rd {a : Addr} {u : HO} (e : Same F F') (h : Rd F a u) : Rd F' a u := by
  rcases h with h | ⟨o, h⟩
  · exact .inl (e _ _ h)
  · exact .inr ⟨o, e _ _ h⟩
mutual
theorem Rep.mono (e : Same F F') : ∀ {v : V} {d : D}, Rep K F v d → Rep K F' v d
  | _, _, .non => .non
  | _, _, .bl b => .bl b
  | _, _, .int i => .int i
  | _, _, .str x => .str x
  | _, _, .ref a => .ref a
  | _, _, .ty n => .ty n
  | _, _, .tup h r l => .tup (e _ _ h) (Reps.mono e r) l
  | _, _, .lst h r l => .lst (e _ _ h) (Reps.mono e r) l
  | _, _, .dctK h r l => .dctK (e _ _ h) (RepK.mono e r) l
  | _, _, .dctT h r l => .dctT (e _ _ h) (RepT.mono e r) l
  | _, _, .scr h l => .scr (e.seq h) l
theorem Reps.mono (e : Same F F') : ∀ {vs : List V} {ds : List D}, Reps K F vs ds → Reps K F' vs ds
  | _, _, .nil => .nil
  | _, _, .cons r t => .cons (Rep.mono e r) (Reps.mono e t)
theorem RepK.mono (e : Same F F') : ∀ {vs : List (Key × V)} {ds : List (D × D)}, RepK K F vs ds → RepK K F' vs ds
  | _, _, .nil => .nil
  | _, _, .cons r t => .cons (Rep.mono e r) (RepK.mono e t)
theorem RepT.mono (e : Same F F') : ∀ {vs : List (List Key × V)} {ds : List (D × D)}, RepT K F vs ds → RepT K F' vs ds
  | _, _, .nil => .nil
  | _, _, .cons r t => .cons (Rep.mono e r) (RepT.mono e t)
end

theorem Reps.length : ∀ {vs : List V} {ds : List D}, Reps K F vs ds → vs.length = ds.length
  | _, _, .nil => rfl
  | _, _, .cons _ t => by rw [List.length_cons, List.length_cons, Reps.length t]
theorem RepK.length : ∀ {vs : List (Key × V)} {ds : List (D × D)}, RepK K F vs ds → vs.length = ds.length
  | _, _, .nil => rfl
  | _, _, .cons _ t => by rw [List.length_cons, List.length_cons, RepK.length t]
theorem RepT.length : ∀ {vs : List (List Key × V)} {ds : List (D × D)}, RepT K F vs ds → vs.length = ds.length
  | _, _, .nil => rfl
  | _, _, .cons _ t => by rw [List.length_cons, List.length_cons, RepT.length t]
theorem Reps.append : ∀ {vs ws : List V} {ds es : List D}, Reps K F vs ds → Reps K F ws es → Reps K F (vs ++ ws) (ds ++ es)
  | _, _, _, _, .nil, s => s
  | _, _, _, _, .cons r t, s => .cons r (Reps.append t s)
theorem Reps.get : ∀ {vs : List V} {ds : List D} {i : Nat} {d : D}, Reps K F vs ds → ds[i]? = some d → ∃ v, vs[i]? = some v ∧ Rep K F v d
  | _, _, _, _, .nil, e => by simp at e
  | _, _, 0, _, .cons r _, e => by simp at e; subst e; exact ⟨_, rfl, r⟩
  | _, _, i + 1, d, .cons _ t, e => by
    obtain ⟨v, h1, h2⟩ := Reps.get (i := i) (d := d) t (by simpa using e)
    exact ⟨v, by simpa using h1, h2⟩
theorem Reps.set {v : V} {d : D} (r : Rep K F v d) : ∀ {vs : List V} {ds : List D} (i : Nat), Reps K F vs ds → Reps K F (vs.set i v) (ds.set i d)
  | _, _, _, .nil => .nil
  | _, _, 0, .cons _ t => .cons r t
  | _, _, i + 1, .cons q t => .cons q (Reps.set r i t)
theorem Reps.take : ∀ {vs : List V} {ds : List D} (n : Nat), Reps K F vs ds → Reps K F (vs.take n) (ds.take n)
  | _, _, 0, _ => .nil
  | _, _, _ + 1, .nil => .nil
  | _, _, n + 1, .cons r t => .cons r (Reps.take n t)
theorem Reps.drop : ∀ {vs : List V} {ds : List D} (n : Nat), Reps K F vs ds → Reps K F (vs.drop n) (ds.drop n)
  | _, _, 0, r => r
  | _, _, _ + 1, .nil => .nil
  | _, _, n + 1, .cons _ t => Reps.drop n t
theorem Reps.ints : ∀ ns : List Int, Reps K F (ns.map V.int) (ns.map D.int)
  | [] => .nil
  | n :: r => .cons (.int n) (Reps.ints r)
theorem Reps.ints_of : ∀ {ns : List Int} {vs : List V}, Reps K F vs (ns.map D.int) → vs = ns.map V.int
  | [], _, .nil => rfl
  | n :: r, _, .cons (.int _) t => by rw [Reps.ints_of (ns := r) t]; rfl
theorem Reps.bls_of : ∀ {ns : List Bool} {vs : List V}, Reps K F vs (ns.map D.bl) → vs = ns.map V.bl
  | [], _, .nil => rfl
  | n :: r, _, .cons (.bl _) t => by rw [Reps.bls_of (ns := r) t]; rfl
end

structure Fz (T : List (Addr × Str)) where
  fn : Hp
instance {T : List (Addr × Str)} : CoeFun (Fz T) fun _ => Hp := ⟨Fz.fn⟩
instance {T : List (Addr × Str)} : CoeOut (Fz T) Hp := ⟨Fz.fn⟩
structure Ex (T : List (Addr × Str)) where
  e : XK
instance {T : List (Addr × Str)} : CoeFun (Ex T) fun _ => XK := ⟨Ex.e⟩
def updF (F : Fz T) (p : Addr) (o : HO) : Fz T := ⟨upd F.fn p o⟩
theorem updF_same {F : Fz T} {p : Addr} {o : HO} : updF F p o p = some o := upd_same
theorem updF_ne {F : Fz T} {p q : Addr} {o : HO} (h : q ≠ p) : updF F p o q = F q := upd_ne h
def noT (o : HO) : Prop := ∀ ps, o ≠ .tbl ps
def Ext (H H' : Hp) : Prop := ∀ a o, H a = some o → noT o → H' a = some o
theorem Ext.refl (H : Hp) : Ext H H := fun _ _ h _ => h
theorem Ext.trans {H H' H'' : Hp} (a : Ext H H') (b : Ext H' H'') : Ext H H'' := fun c o h n => b c o (a c o h n) n
theorem Ext.of {H H' : Hp} (s : Same H H') : Ext H H' := fun a o h _ => s a o h
def Fre (H : Hp) (p : Addr) : Prop := ∀ o, H p = some o → ¬ noT o
theorem Fre.of {H : Hp} {p : Addr} (h : H p = none) : Fre H p := fun o e => by rw [h] at e; cases e
theorem Fre.back {H H' : Hp} {p : Addr} (h : Fre H' p) (e : Ext H H') : Fre H p := fun o q n => h o (e _ _ q n) n
def isDct : HO → Bool
  | .dK _ => true
  | .dT _ => true
  | _ => false
structure Sub (F : Fz T) (H : Hp) : Prop where
  at_ : ∀ a o, F a = some o → H a = some o ∨ (isDct o = true ∧ ∃ x, H a = some (.frz x o))
  nt : ∀ a ps, F a ≠ some (.tbl ps)
  tb : LamX.Tabs T H
theorem Sub.lst {F : Fz T} {H : Hp} (s : Sub F H) {a : Addr} {xs : List V} (e : F a = some (.lst xs)) : H a = some (.lst xs) := (s.at_ a _ e).elim id fun h => by cases h.1
theorem Sub.tup {F : Fz T} {H : Hp} (s : Sub F H) {a : Addr} {xs : List V} (e : F a = some (.tup xs)) : H a = some (.tup xs) := (s.at_ a _ e).elim id fun h => by cases h.1
theorem Sub.rd {F : Fz T} {H : Hp} (s : Sub F H) {a : Addr} {o : HO} (e : F a = some o) : Rd H a o := (s.at_ a _ e).elim .inl fun h => .inr h.2
theorem Sub.seq {K : PySem.W.Frag} {F : Fz T} {H : Hp} (s : Sub F H) {a : Addr} {xs : List V} (h : SqL K F a xs) : SqL K H a xs := by
  rcases h with (h | ⟨o, h⟩) | h
  · exact .inl (.inl (s.lst h))
  · rcases s.at_ _ _ h with q | ⟨q, _⟩
    · exact .inl (.inr ⟨o, q⟩)
    · cases q
  · exact .inr h
theorem Sub.free {F : Fz T} {H : Hp} (s : Sub F H) {a : Addr} (e : H a = none) : F a = none := by
  cases q : F a with
  | none => rfl
  | some o =>
    rcases s.at_ a o q with h | ⟨_, x, h⟩
    · rw [e] at h; cases h
    · rw [e] at h; cases h
theorem Sub.on {F : Fz T} {H H' : Hp} (s : Sub F H) (e : Same H H') : Sub F H' := ⟨fun a o q => (s.at_ a o q).imp (e _ _) fun ⟨h, x, h'⟩ => ⟨h, x, e _ _ h'⟩, s.nt, s.tb.ext e⟩
def plO (o : HO) : Prop := (∀ ps, o ≠ .tbl ps) ∧ ∀ f, o ≠ .ext f
theorem tabs_upd {T : List (Addr × Str)} {H : Hp} {p : Addr} {o u : HO} (t : LamX.Tabs T H) (e : H p = some o) (n : plO o) : LamX.Tabs T (upd H p u) := fun q hq => by
  obtain ⟨ps, h1, h2, h3⟩ := t q hq
  refine ⟨ps, ?_, h2, fun pos cv hc => ?_⟩
  · rw [upd_ne (fun z => by rw [z, e] at h1; exact n.1 _ (Option.some.inj h1))]; exact h1
  · obtain ⟨c, e1, e2⟩ := h3 pos cv hc
    refine ⟨c, e1, ?_⟩
    rw [upd_ne (fun z => by rw [z, e] at e2; exact n.2 _ (Option.some.inj e2))]; exact e2
theorem Sub.upd {F : Fz T} {H : Hp} {p : Addr} {o u : HO} (s : Sub F H) (e : H p = some o) (n : plO o) (nF : F p = none) : Sub F (L2.upd H p u) :=
  ⟨fun b v q => by rw [upd_ne (fun z => by rw [z, nF] at q; cases q)]; exact s.at_ _ _ q, s.nt, tabs_upd s.tb e n⟩
inductive OwnAt (K : PySem.W.Frag) (F H : Hp) (p : Addr) : D → Prop where
  | lst {xs : List V} {ds : List D} : H p = some (.lst xs) → Reps K F xs ds → ds.length ≤ sizeLine → OwnAt K F H p (.lst ds)
  | dctK {kvs : List (Key × V)} {ds : List (D × D)} : H p = some (.dK kvs) → RepK K F kvs ds → ds.length ≤ sizeLine → OwnAt K F H p (.dct ds)
  | dctT {kvs : List (List Key × V)} {ds : List (D × D)} : H p = some (.dT kvs) → RepT K F kvs ds → ds.length ≤ sizeLine → OwnAt K F H p (.dct ds)
  | set {ns : List Int} : H p = some (.set (fun i => decide (i ∈ ns)) ns.eraseDups.length) → OwnAt K F H p (.set ns)

inductive Cont (K : PySem.W.Frag) (F H : Hp) : V → D → Prop where
  | rep {v : V} {d : D} : Rep K F v d → Cont K F H v d
  | own {p : Addr} {d : D} : OwnAt K F H p d → Cont K F H (.ref p) d

theorem Same.keep {H H' : Hp} {p : Addr} (e : Same H H') (h : H p ≠ none) : H' p = H p := by
  cases q : H p with
  | none => exact absurd q h
  | some o => exact e _ _ q
section
variable {K : PySem.W.Frag} {F F' F'' : Hp} {H H' H'' : Hp} {p : Addr} {d : D} {v : V}
theorem OwnAt.there (h : OwnAt K F H p d) : ∃ o, H p = some o ∧ noT o := by
  cases h with
  | lst h _ _ => exact ⟨_, h, fun _ z => nomatch z⟩
  | dctK h _ _ => exact ⟨_, h, fun _ z => nomatch z⟩
  | dctT h _ _ => exact ⟨_, h, fun _ z => nomatch z⟩
  | set h => exact ⟨_, h, fun _ z => nomatch z⟩
theorem OwnAt.pl (h : OwnAt K F H p d) : ∃ o, H p = some o ∧ plO o := by
  cases h with
  | lst h _ _ => exact ⟨_, h, (fun _ z => nomatch z), fun _ z => nomatch z⟩
  | dctK h _ _ => exact ⟨_, h, (fun _ z => nomatch z), fun _ z => nomatch z⟩
  | dctT h _ _ => exact ⟨_, h, (fun _ z => nomatch z), fun _ z => nomatch z⟩
  | set h => exact ⟨_, h, (fun _ z => nomatch z), fun _ z => nomatch z⟩
theorem OwnAt.fre (h : OwnAt K F H p d) (f : Fre H p) : False := let ⟨_, e, n⟩ := h.there; f _ e n
theorem OwnAt.mono (h : OwnAt K F H p d) (e : Same F F') (k : H' p = H p) : OwnAt K F' H' p d := by
  cases h with
  | lst h r l => exact .lst (k.trans h) (r.mono e) l
  | dctK h r l => exact .dctK (k.trans h) (r.mono e) l
  | dctT h r l => exact .dctT (k.trans h) (r.mono e) l
  | set h => exact .set (k.trans h)
theorem OwnAt.ext (h : OwnAt K F H p d) (e : Same F F') (k : Ext H H') : OwnAt K F' H' p d := by
  obtain ⟨o, q, n⟩ := h.there
  exact h.mono e ((k _ _ q n).trans q.symm)
end
section
variable {K : PySem.W.Frag} {F F' F'' : Fz T} {H H' H'' : Hp} {p : Addr} {d : D} {v : V}
structure Grow (F : Fz T) (H : Hp) (F' : Fz T) (H' : Hp) : Prop where
  hh : Ext H H'
  ff : Same F F'
  sub : Sub F' H'
  old : ∀ a o, H a = some o → noT o → F' a = F a
theorem Grow.refl (s : Sub F H) : Grow F H F H := ⟨Ext.refl _, Same.refl _, s, fun _ _ _ _ => rfl⟩
theorem Grow.trans (a : Grow F H F' H') (b : Grow F' H' F'' H'') : Grow F H F'' H'' :=
  ⟨a.hh.trans b.hh, a.ff.trans b.ff, b.sub, fun c o h n => (b.old c o (a.hh c o h n) n).trans (a.old c o h n)⟩
theorem OwnAt.grow (h : OwnAt K F H p d) (g : Grow F H F' H') : OwnAt K F' H' p d := h.ext g.ff g.hh
theorem Cont.grow (h : Cont K F H v d) (g : Grow F H F' H') : Cont K F' H' v d := by
  cases h with
  | rep r => exact .rep (r.mono g.ff)
  | own o => exact .own (o.grow g)
theorem same_new {o : HO} (n : H p = none) : Same H (upd H p o) := fun b u e => by rw [upd_ne (ne_of_none e n)]; exact e
theorem Grow.newF {a : Addr} {o : HO} (s : Sub F H) (n : H a = none) (ho : noT o) : Grow F H (updF F a o) (upd H a o) := by
  have nF : F a = none := s.free n
  have z : Same H (upd H a o) := same_new n
  refine ⟨.of z, same_new nF, ⟨fun b u e => ?_, fun b ps e => ?_, s.tb.ext z⟩, fun b u h _ => ?_⟩
  · by_cases hb : b = a
    · subst hb
      rw [updF_same] at e
      rw [upd_same]; exact .inl e
    · rw [updF_ne hb] at e
      rw [upd_ne hb]; exact s.at_ _ _ e
  · by_cases hb : b = a
    · subst hb
      rw [updF_same] at e
      exact ho ps (Option.some.inj e)
    · rw [updF_ne hb] at e
      exact s.nt b ps e
  · have hb : b ≠ a := fun e => by rw [e, n] at h; cases h
    exact updF_ne hb
theorem Grow.newO {a : Addr} {o : HO} (s : Sub F H) (n : H a = none) : Grow F H F (upd H a o) := by
  have z : Same H (upd H a o) := same_new n
  exact ⟨.of z, Same.refl _, s.on z, fun _ _ _ _ => rfl⟩
theorem Grow.freeze {G : Fz T} {J : Hp} {o : HO} (g : Grow G J F H) (nJ : Fre J p) (e : H p = some o ∨ (isDct o = true ∧ ∃ x, H p = some (.frz x o))) (ho : noT o) (n : F p = none) : Grow G J (updF F p o) H := by
  refine ⟨g.hh, fun b u q => ?_, ⟨fun b u q => ?_, fun b ps q => ?_, g.sub.tb⟩, fun b u h nt => ?_⟩
  · have q' := g.ff _ _ q
    show updF F p o b = _
    rw [updF_ne (ne_of_none q' n)]; exact q'
  · by_cases hb : b = p
    · subst hb; rw [updF_same] at q; cases q; exact e
    · rw [updF_ne hb] at q; exact g.sub.at_ _ _ q
  · by_cases hb : b = p
    · subst hb; rw [updF_same] at q; exact ho ps (Option.some.inj q)
    · rw [updF_ne hb] at q; exact g.sub.nt _ _ q
  · have hb : b ≠ p := fun z => by subst z; exact nJ u h nt
    rw [updF_ne hb]; exact g.old _ u h nt
theorem OwnAt.frozen (h : OwnAt K F H p d) (n : F p = none) (hd : ∀ ns, d ≠ .set ns) : ∃ o, (H p = some o ∨ (isDct o = true ∧ ∃ x, H p = some (.frz x o))) ∧ noT o ∧ Rep K (updF F p o) (.ref p) d := by
  cases h with
  | lst h r l => exact ⟨_, .inl h, (fun _ z => nomatch z), .lst updF_same (r.mono (same_new n)) l⟩
  | dctK h r l => exact ⟨_, .inl h, (fun _ z => nomatch z), .dctK updF_same (r.mono (same_new n)) l⟩
  | dctT h r l => exact ⟨_, .inl h, (fun _ z => nomatch z), .dctT updF_same (r.mono (same_new n)) l⟩
  | set h => exact absurd rfl (hd _)
end

inductive Sl where
  | un | val (d : D) | own (d : D) | bor (d : D)
abbrev Gm := List Sl
def SlOk (K : PySem.W.Frag) (H0 F H : Hp) (o : Option V) : Sl → Prop
  | .un => True
  | .val d => ∃ v, o = some v ∧ Rep K F v d
  | .own d => ∃ p, o = some (.ref p) ∧ Fre H0 p ∧ F p = none ∧ OwnAt K F H p d
  | .bor d => ∃ p, o = some (.ref p) ∧ OwnAt K F H0 p d

structure EnvOk (K : PySem.W.Frag) (F0 : Fz T) (H0 : Hp) (F : Fz T) (H : Hp) (σ : St) (Γ : Gm) : Prop where
  hH : Ext H0 H
  hF : Same F0 F
  sub : Sub F H
  old : ∀ a o, H0 a = some o → noT o → F a = F0 a
  len : σ.length = Γ.length
  slot : ∀ (i : Nat) (s : Sl), Γ[i]? = some s → SlOk K H0 F H (σ.getD i none) s
  apart : ∀ (i j : Nat) (p : Addr) (d e : D), Γ[i]? = some (.own d) → Γ[j]? = some (.own e) → σ.getD i none = some (.ref p) → σ.getD j none = some (.ref p) → i = j

section
variable {K : PySem.W.Frag} {F0 F F' : Fz T} {H0 H H' : Hp} {σ : St} {Γ : Gm}
theorem SlOk.grow {o : Option V} {s : Sl} (h : SlOk K H0 F H o s) (g : Grow F H F' H') : SlOk K H0 F' H' o s := by
  cases s with
  | un => trivial
  | val d => obtain ⟨v, e, r⟩ := h; exact ⟨v, e, r.mono g.ff⟩
  | own d =>
    obtain ⟨p, e, n0, nF, ow⟩ := h
    obtain ⟨u, q, n⟩ := ow.there
    exact ⟨p, e, n0, (g.old p u q n).trans nF, ow.grow g⟩
  | bor d =>
    obtain ⟨p, e, ow⟩ := h
    exact ⟨p, e, ow.mono g.ff rfl⟩
theorem EnvOk.grow (I : EnvOk K F0 H0 F H σ Γ) (g : Grow F H F' H') : EnvOk K F0 H0 F' H' σ Γ :=
  ⟨I.hH.trans g.hh, I.hF.trans g.ff, g.sub, fun a o h n => (g.old a o (I.hH a o h n) n).trans (I.old a o h n), I.len,
    fun i s e => (I.slot i s e).grow g, I.apart⟩
theorem EnvOk.all (I : EnvOk K F0 H0 F H σ Γ) : Grow F0 H0 F H := ⟨I.hH, I.hF, I.sub, I.old⟩
theorem EnvOk.setVal {i : Nat} {v : V} {d : D} (I : EnvOk K F0 H0 F H σ Γ) (r : Rep K F v d) : EnvOk K F0 H0 F H (σ.set i (some v)) (Γ.set i (.val d)) := by
  refine ⟨I.hH, I.hF, I.sub, I.old, by simp [I.len], fun j s e => ?_, fun j k p d1 d2 e1 e2 q1 q2 => ?_⟩
  · by_cases hj : i = j
    · subst hj
      have hl : i < Γ.length := by
        rw [List.getElem?_eq_some_iff] at e; obtain ⟨h, _⟩ := e; simpa using h
      rw [List.getElem?_set_self hl] at e
      cases e
      refine ⟨v, ?_, r⟩
      rw [List.getD_eq_getElem?_getD, List.getElem?_set_self (by rw [I.len]; exact hl)]
      rfl
    · rw [List.getElem?_set_ne hj] at e
      have := I.slot j s e
      rw [List.getD_eq_getElem?_getD] at this ⊢
      rw [List.getElem?_set_ne hj]; exact this
  · have hj : i ≠ j := by
      rintro rfl
      have hl : i < Γ.length := by
        rw [List.getElem?_eq_some_iff] at e1; obtain ⟨h, _⟩ := e1; simpa using h
      rw [List.getElem?_set_self hl] at e1; cases e1
    have hk : i ≠ k := by
      rintro rfl
      have hl : i < Γ.length := by
        rw [List.getElem?_eq_some_iff] at e2; obtain ⟨h, _⟩ := e2; simpa using h
      rw [List.getElem?_set_self hl] at e2; cases e2
    rw [List.getElem?_set_ne hj] at e1
    rw [List.getElem?_set_ne hk] at e2
    rw [List.getD_eq_getElem?_getD, List.getElem?_set_ne hj, ← List.getD_eq_getElem?_getD] at q1
    rw [List.getD_eq_getElem?_getD, List.getElem?_set_ne hk, ← List.getD_eq_getElem?_getD] at q2
    exact I.apart j k p d1 d2 e1 e2 q1 q2
theorem getD_set_ne {α : Type} {l : List α} {i j : Nat} {a x : α} (h : i ≠ j) : (l.set i a).getD j x = l.getD j x := by
  rw [List.getD_eq_getElem?_getD, List.getElem?_set_ne h, ← List.getD_eq_getElem?_getD]
theorem getD_set_self {α : Type} {l : List α} {i : Nat} {a x : α} (h : i < l.length) : (l.set i a).getD i x = a := by
  rw [List.getD_eq_getElem?_getD, List.getElem?_set_self h]; rfl
theorem lt_of_get {α : Type} {l : List α} {i : Nat} {a : α} (h : l[i]? = some a) : i < l.length := by
  rw [List.getElem?_eq_some_iff] at h; exact h.1
theorem EnvOk.setOwn {i : Nat} {p : Addr} {d : D} (I : EnvOk K F0 H0 F H σ Γ) (n0 : Fre H0 p) (nF : F p = none) (o : OwnAt K F H p d)
    (no : ∀ (j : Nat) (e : D), Γ[j]? = some (.own e) → j ≠ i → σ.getD j none ≠ some (.ref p)) : EnvOk K F0 H0 F H (σ.set i (some (.ref p))) (Γ.set i (.own d)) := by
  refine ⟨I.hH, I.hF, I.sub, I.old, by simp [I.len], fun j s e => ?_, fun j k q d1 d2 e1 e2 q1 q2 => ?_⟩
  · by_cases hj : i = j
    · subst hj
      have hl : i < Γ.length := by have := lt_of_get e; simpa using this
      rw [List.getElem?_set_self hl] at e
      cases e
      exact ⟨p, getD_set_self (by rw [I.len]; exact hl), n0, nF, o⟩
    · rw [List.getElem?_set_ne hj] at e
      rw [getD_set_ne hj]; exact I.slot j s e
  · by_cases hj : i = j
    · subst hj
      by_cases hk : i = k
      · exact hk
      · have hl : i < Γ.length := by have := lt_of_get e1; simpa using this
        rw [List.getElem?_set_ne hk] at e2
        rw [getD_set_ne hk] at q2
        rw [getD_set_self (by rw [I.len]; exact hl)] at q1
        cases q1
        exact absurd q2 (no k d2 e2 (Ne.symm hk))
    · rw [List.getElem?_set_ne hj] at e1
      rw [getD_set_ne hj] at q1
      by_cases hk : i = k
      · subst hk
        have hl : i < Γ.length := by have := lt_of_get e2; simpa using this
        rw [getD_set_self (by rw [I.len]; exact hl)] at q2
        cases q2
        exact absurd q1 (no j d1 e1 (Ne.symm hj))
      · rw [List.getElem?_set_ne hk] at e2
        rw [getD_set_ne hk] at q2
        exact I.apart j k q d1 d2 e1 e2 q1 q2
theorem EnvOk.setUn {i : Nat} {o : Option V} (I : EnvOk K F0 H0 F H σ Γ) : EnvOk K F0 H0 F H (σ.set i o) (Γ.set i .un) := by
  have ne : ∀ {j : Nat} {d : D}, (Γ.set i .un)[j]? = some (.own d) → i ≠ j := fun {j d} e => by
    rintro rfl
    have hl : i < Γ.length := by have := lt_of_get e; simpa using this
    rw [List.getElem?_set_self hl] at e; cases e
  refine ⟨I.hH, I.hF, I.sub, I.old, by simp [I.len], fun j s e => ?_, fun j k q d1 d2 e1 e2 q1 q2 => ?_⟩
  · by_cases hj : i = j
    · subst hj
      have hl : i < Γ.length := by have := lt_of_get e; simpa using this
      rw [List.getElem?_set_self hl] at e
      cases e
      trivial
    · rw [List.getElem?_set_ne hj] at e
      rw [getD_set_ne hj]; exact I.slot j s e
  · have hj := ne e1
    have hk := ne e2
    rw [List.getElem?_set_ne hj] at e1
    rw [List.getElem?_set_ne hk] at e2
    rw [getD_set_ne hj] at q1
    rw [getD_set_ne hk] at q2
    exact I.apart j k q d1 d2 e1 e2 q1 q2
theorem EnvOk.freeze {i : Nat} {d : D} (I : EnvOk K F0 H0 F H σ Γ) (e : Γ[i]? = some (.own d)) (hd : ∀ ns, d ≠ .set ns) : ∃ F' : Fz T, Same F F' ∧ EnvOk K F0 H0 F' H σ (Γ.set i (.val d)) := by
  obtain ⟨p, ep, n0, nF, ow⟩ := I.slot i _ e
  obtain ⟨o, eo, ho, rp⟩ := ow.frozen nF hd
  have g : Grow F0 H0 (updF F p o) H := I.all.freeze n0 eo ho nF
  have sF : Same F (updF F p o) := same_new nF
  have hl : i < Γ.length := lt_of_get e
  refine ⟨updF F p o, sF, g.hh, g.ff, g.sub, g.old, by simp [I.len], fun j s ej => ?_, fun j k q d1 d2 e1 e2 q1 q2 => ?_⟩
  · by_cases hj : i = j
    · subst hj
      rw [List.getElem?_set_self hl] at ej
      cases ej
      exact ⟨_, ep, rp⟩
    · rw [List.getElem?_set_ne hj] at ej
      have z := I.slot j s ej
      cases s with
      | un => trivial
      | val d => obtain ⟨v, a, b⟩ := z; exact ⟨v, a, b.mono sF⟩
      | own d' =>
        obtain ⟨q, eq, m0, mF, ow'⟩ := z
        have hne : q ≠ p := fun z => by
          subst z
          exact hj (I.apart i j q d d' e ej ep eq)
        exact ⟨q, eq, m0, by rw [updF_ne hne]; exact mF, ow'.mono sF rfl⟩
      | bor d' => obtain ⟨q, eq, ow'⟩ := z; exact ⟨q, eq, ow'.mono sF rfl⟩
  · have hj : i ≠ j := by
      rintro rfl
      rw [List.getElem?_set_self hl] at e1; cases e1
    have hk : i ≠ k := by
      rintro rfl
      rw [List.getElem?_set_self hl] at e2; cases e2
    rw [List.getElem?_set_ne hj] at e1
    rw [List.getElem?_set_ne hk] at e2
    exact I.apart j k q d1 d2 e1 e2 q1 q2
end

inductive O where
  | v (d : D) | o (d : D)
def O.d : O → D
  | .v d => d
  | .o d => d
def ORep (K : PySem.W.Frag) (H F' H' : Hp) (v : V) : O → Prop
  | .v d => Rep K F' v d
  | .o d => ∃ p, v = .ref p ∧ Fre H p ∧ F' p = none ∧ OwnAt K F' H' p d
def Erp (mg : Str → Option Value) (E : Ex T) (F : Fz T) (H : Hp) (n : Str) : Prop := ∀ C H', mg n = some (.ref C) → Ext H H' → LamX.Tabs T H' → E (.ref C) none H'
theorem Erp.on {mg : Str → Option Value} {E : Ex T} {F F' : Fz T} {H H' : Hp} {n : Str} (h : Erp mg E F H n) (g : Grow F H F' H') : Erp mg E F' H' n := fun C J c s t => h C J c (g.hh.trans s) t

def GE (K : PySem.W.Frag) (mg : Str → Option Value) (E : Ex T) (t : TE) (f : Gm → R O) : Prop :=
  ∀ (Γ : Gm) (F0 : Fz T) (H0 : Hp) (F : Fz T) (H : Hp) (σ : St) (Q : VK), EnvOk K F0 H0 F H σ Γ → (f Γ).post (fun o => ∀ v F' H', Grow F H F' H' → ORep K H F' H' v o → Q v H') (Erp mg E F H) → t σ H Q
def GR (K : PySem.W.Frag) (mg : Str → Option Value) (E : Ex T) (t : TE) (f : Gm → R D) : Prop :=
  ∀ (Γ : Gm) (F0 : Fz T) (H0 : Hp) (F : Fz T) (H : Hp) (σ : St) (Q : VK), EnvOk K F0 H0 F H σ Γ → (f Γ).post (fun d => ∀ v F' H', Grow F H F' H' → Cont K F' H' v d → Q v H') (Erp mg E F H) → t σ H Q
def GT (K : PySem.W.Frag) (mg : Str → Option Value) (E : Ex T) (t : TT) (f : Gm → R Bool) : Prop :=
  ∀ (Γ : Gm) (F0 : Fz T) (H0 : Hp) (F : Fz T) (H : Hp) (σ : St) (Q : Bool → Hp → Prop), EnvOk K F0 H0 F H σ Γ → (f Γ).post (fun b => ∀ F' H', Grow F H F' H' → Q b H') (Erp mg E F H) → t σ H Q
inductive Conts (K : PySem.W.Frag) (F H : Hp) : List V → List D → Prop where
  | nil : Conts K F H [] []
  | cons {v : V} {d : D} {vs : List V} {ds : List D} : Cont K F H v d → Conts K F H vs ds → Conts K F H (v :: vs) (d :: ds)
def GA (K : PySem.W.Frag) (mg : Str → Option Value) (E : Ex T) (t : TA) (f : Gm → R (List D)) : Prop :=
  ∀ (Γ : Gm) (F0 : Fz T) (H0 : Hp) (F : Fz T) (H : Hp) (σ : St) (Q : List V → Hp → Prop), EnvOk K F0 H0 F H σ Γ → (f Γ).post (fun ds => ∀ vs F' H', Grow F H F' H' → Conts K F' H' vs ds → Q vs H') (Erp mg E F H) → t σ H Q
def GI (K : PySem.W.Frag) (mg : Str → Option Value) (E : Ex T) (t : TA) (f : Gm → R (List D)) : Prop :=
  ∀ (Γ : Gm) (F0 : Fz T) (H0 : Hp) (F : Fz T) (H : Hp) (σ : St) (Q : List V → Hp → Prop), EnvOk K F0 H0 F H σ Γ → (f Γ).post (fun ds => ∀ vs F' H', Grow F H F' H' → Reps K F' vs ds → Q vs H') (Erp mg E F H) → t σ H Q

section
variable {K : PySem.W.Frag} {mg : Str → Option Value} {E : Ex T} {F F' : Fz T} {H H' J : Hp} {v : V}
theorem Conts.grow (g : Grow F H F' H') : ∀ {vs : List V} {ds : List D}, Conts K F H vs ds → Conts K F' H' vs ds
  | _, _, .nil => .nil
  | _, _, .cons c t => .cons (c.grow g) (Conts.grow g t)
theorem ORep.cont {o : O} (h : ORep K J F' H' v o) : Cont K F' H' v o.d := by
  cases o with
  | v d => exact .rep h
  | o d =>
    obtain ⟨p, rfl, _, _, w⟩ := h
    exact .own w
theorem ORep.back {o : O} (h : ORep K J F' H' v o) (e : Ext H J) : ORep K H F' H' v o := by
  cases o with
  | v d => exact h
  | o d =>
    obtain ⟨p, a, b, c, w⟩ := h
    exact ⟨p, a, b.back e, c, w⟩
def O.canVal : O → Bool
  | .o (.set _) => false
  | _ => true
theorem ORep.frozen {o : O} (h : ORep K H F' H' v o) (g : Grow F H F' H') (hc : o.canVal = true) : ∃ F'', Grow F H F'' H' ∧ Rep K F'' v o.d := by
  cases o with
  | v d => exact ⟨F', g, h⟩
  | o d =>
    obtain ⟨p, rfl, nH, nF, w⟩ := h
    obtain ⟨u, eu, hu, r⟩ := w.frozen nF (fun ns e => by subst e; cases hc)
    exact ⟨_, g.freeze nH eu hu nF, r⟩
theorem GE.read {t : TE} {f : Gm → R O} (h : GE K mg E t f) : GR K mg E t (fun Γ => (f Γ).bind fun o => .ok o.d) := fun Γ F0 H0 F H σ Q I p =>
  h Γ F0 H0 F H σ Q I (R.post_imp (R.post_bind p) fun o q v F' H' g r => q v F' H' g r.cont)
def O.val (o : O) : R D := if o.canVal then .ok o.d else .stuck
def GV (K : PySem.W.Frag) (mg : Str → Option Value) (E : Ex T) (t : TE) (f : Gm → R D) : Prop :=
  ∀ (Γ : Gm) (F0 : Fz T) (H0 : Hp) (F : Fz T) (H : Hp) (σ : St) (Q : VK), EnvOk K F0 H0 F H σ Γ → (f Γ).post (fun d => ∀ v F' H', Grow F H F' H' → Rep K F' v d → Q v H') (Erp mg E F H) → t σ H Q
theorem GE.val {t : TE} {f : Gm → R O} (h : GE K mg E t f) : GV K mg E t (fun Γ => (f Γ).bind O.val) := fun Γ F0 H0 F H σ Q I p =>
  h Γ F0 H0 F H σ Q I (R.post_imp (R.post_bind p) fun o q v F' H' g r => by
    unfold O.val at q
    by_cases hc : o.canVal = true
    · rw [if_pos hc] at q
      obtain ⟨F'', g', r'⟩ := r.frozen g hc
      exact q v F'' H' g' r'
    · rw [if_neg hc] at q
      exact q.elim)
end
end Pd

set_option Elab.async false
set_option linter.all false
set_option maxRecDepth 100000
set_option maxHeartbeats 1000000
namespace Pd
open PySem PySem.Spec L2

mutual
def pyD : D → PyData
  | .non => .none
  | .bl b => .bool b
  | .int i => .int i
  | .str x => .str x
  | .tup ds => .tuple (pyDs ds)
  | .lst ds => .list (pyDs ds)
  | _ => .dict []
def pyDs : List D → List PyData
  | [] => []
  | d :: ds => pyD d :: pyDs ds
end
def shp (d : D) : Bool := SeqAt.shaped (pyD d)
section
variable {K : PySem.W.Frag} {F F' : Fz T} {H H' : Hp}
theorem lay_cons {x : PyData} {xs : List PyData} (h : PyData.canLayAll0 (x :: xs) = true) : x.canLay0 = true ∧ PyData.canLayAll0 xs = true := by
  simpa [PyData.canLayAll0] using h
mutual
theorem Rep.dp (s : Sub F H) : ∀ {v : V} {d : D}, Rep K F v d → (pyD d).canLay0 = true → Dp K H v (pyD d)
  | _, _, .non, _ => .non
  | _, _, .bl b, _ => .bl b
  | _, _, .int i, _ => .int i
  | _, _, .str x, _ => .str x
  | _, _, .tup (ds := ds) h r _, l => by
    have l' : PyData.canLayAll0 (pyDs ds) = true := by simpa [pyD, PyData.canLay0] using l
    rw [pyD]
    exact .tup (.of (s.tup h)) (Reps.dp s r l')
  | _, _, .lst (ds := ds) h r _, l => by
    have l' : PyData.canLayAll0 (pyDs ds) = true := by simpa [pyD, PyData.canLay0] using l
    rw [pyD]
    exact .lst (.of (s.lst h)) (Reps.dp s r l')
  | _, _, .ref a, l => by simp [pyD, PyData.canLay0] at l
  | _, _, .ty n, l => by simp [pyD, PyData.canLay0] at l
  | _, _, .dctK _ _ _, l => by simp [pyD, PyData.canLay0] at l
  | _, _, .dctT _ _ _, l => by simp [pyD, PyData.canLay0] at l
  | _, _, .scr _ _, l => by simp [pyD, PyData.canLay0] at l
theorem Reps.dp (s : Sub F H) : ∀ {vs : List V} {ds : List D}, Reps K F vs ds → PyData.canLayAll0 (pyDs ds) = true → DpAll K H vs (pyDs ds)
  | _, _, .nil, _ => .nil
  | _, _, .cons r t, l => by
    have l' := lay_cons (show PyData.canLayAll0 (pyD _ :: pyDs _) = true from l)
    exact .cons (Rep.dp s r l'.1) (Reps.dp s t l'.2)
end
theorem Cont.dp {v : V} {d : D} (c : Cont K F H v d) (s : Sub F H) (l : shp d = true) : Dp K H v (pyD d) := by
  have l0 := SeqAt.canLay_of_shaped l
  cases c with
  | rep r => exact r.dp s l0
  | own o =>
    cases o with
    | @lst _ ds h r _ =>
      have l' : PyData.canLayAll0 (pyDs ds) = true := by simpa [pyD, PyData.canLay0] using l0
      rw [pyD]
      exact .lst (.of h) (r.dp s l')
    | dctK _ _ _ => simp [pyD, PyData.canLay0] at l0
    | dctT _ _ _ => simp [pyD, PyData.canLay0] at l0
    | set _ => simp [pyD, PyData.canLay0] at l0
end
def eqD (a b : D) : Option Bool := if shp a = true ∧ shp b = true then some (PyData.eqv (pyD a) (pyD b)) else none

def OpD (K : PySem.W.Frag) (r : R2) (op : D → D → Option O) : Prop :=
  ∀ {T : List (Addr × Str)} (x y : V) (a b : D) (o : O) (F : Fz T) (H : Hp) (Q : VK), Sub F H → Cont K F H x a → Cont K F H y b → op a b = some o → (∀ v F' H', Grow F H F' H' → ORep K H F' H' v o → Q v H') → r x y H Q
def R.of {α : Type} : Option α → R α
  | some a => .ok a
  | none => .stuck
theorem of_post {α : Type} {o : Option α} {P : α → Prop} {E : Str → Prop} (h : (R.of o).post P E) : ∃ a, o = some a ∧ P a := by
  cases o with
  | none => exact h.elim
  | some a => exact ⟨a, rfl, h⟩
def e2 (op : D → D → Option O) (fa fb : Gm → R D) : Gm → R O := fun Γ => (fa Γ).bind fun a => (fb Γ).bind fun b => R.of (op a b)
section
variable {K : PySem.W.Frag} {mg : Str → Option Value} {E : Ex T}
theorem ge_op {r : R2} {op : D → D → Option O} {ta tb : TE} {fa fb : Gm → R D} (h : OpD K r op) (ha : GR K mg E ta fa) (hb : GR K mg E tb fb) : GE K mg E (tOp r ta tb) (e2 op fa fb) := fun Γ F0 H0 F H σ Q I p =>
  ha Γ F0 H0 F H σ _ I (R.post_imp (R.post_bind p) fun a p1 x F1 H1 g1 c1 =>
    hb Γ F0 H0 F1 H1 σ _ (I.grow g1) (R.post_mono (R.post_bind p1) (fun b _ p2 y F2 H2 g2 c2 => by
      obtain ⟨o, eo, q⟩ := of_post p2
      exact h x y a b o F2 H2 Q g2.sub (c1.grow g2) c2 eo fun v F3 H3 g3 r3 => q v F3 H3 ((g1.trans g2).trans g3) (r3.back (g1.trans g2).hh)) fun n e => e.on g1))
theorem OpD.or {r r' : R2} {op op' op'' : D → D → Option O} (h : OpD K r op) (h' : OpD K r' op') (e : ∀ a b o, op'' a b = some o → op a b = some o ∨ op' a b = some o) : OpD K (fun x y H Q => r x y H Q ∨ r' x y H Q) op'' :=
  fun x y a b o F H Q s ca cb eo q => by
    rcases e a b o eo with e | e
    · exact .inl (h x y a b o F H Q s ca cb e q)
    · exact .inr (h' x y a b o F H Q s ca cb e q)
end
section
variable {K : PySem.W.Frag} {F F' : Fz T} {H H' : Hp} {v : V}
theorem Cont.int {i : Int} (c : Cont K F H v (.int i)) : v = .int i := by
  cases c with
  | rep r => cases r; rfl
  | own o => cases o
theorem Cont.bl {i : Bool} (c : Cont K F H v (.bl i)) : v = .bl i := by
  cases c with
  | rep r => cases r; rfl
  | own o => cases o
theorem Cont.str {i : Str} (c : Cont K F H v (.str i)) : v = .str i := by
  cases c with
  | rep r => cases r; rfl
  | own o => cases o
theorem Cont.non (c : Cont K F H v .non) : v = .non := by
  cases c with
  | rep r => cases r; rfl
  | own o => cases o
theorem Cont.ty {n : String} (c : Cont K F H v (.ty n)) : v = .ty n := by
  cases c with
  | rep r => cases r; rfl
  | own o => cases o
theorem Cont.ref {a : Addr} (c : Cont K F H v (.ref a)) : v = .ref a := by
  cases c with
  | rep r => cases r; rfl
  | own o => cases o
theorem Cont.lst {ds : List D} (c : Cont K F H v (.lst ds)) (s : Sub F H) : ∃ a xs, v = .ref a ∧ H a = some (.lst xs) ∧ Reps K F xs ds ∧ ds.length ≤ sizeLine := by
  cases c with
  | rep r =>
    cases r with
    | lst h r l => exact ⟨_, _, rfl, s.lst h, r, l⟩
  | own o =>
    cases o with
    | lst h r l => exact ⟨_, _, rfl, h, r, l⟩
theorem Cont.tup {ds : List D} (c : Cont K F H v (.tup ds)) (s : Sub F H) : ∃ a xs, v = .ref a ∧ H a = some (.tup xs) ∧ Reps K F xs ds ∧ ds.length ≤ sizeLine ∧ Rep K F v (.tup ds) := by
  cases c with
  | rep r =>
    have r0 := r
    cases r with
    | tup h r l => exact ⟨_, _, rfl, s.tup h, r, l, r0⟩
  | own o => cases o
theorem Cont.scr {ns : List Int} (c : Cont K F H v (.scr ns)) (s : Sub F H) : ∃ a, v = .ref a ∧ SqL K H a (ns.map V.int) ∧ ns.length ≤ sizeLine := by
  cases c with
  | rep r =>
    cases r with
    | scr h l => exact ⟨_, rfl, s.seq h, l⟩
  | own o => cases o
theorem Cont.set {ns : List Int} (c : Cont K F H v (.set ns)) : ∃ a, v = .ref a ∧ H a = some (.set (fun i => decide (i ∈ ns)) ns.eraseDups.length) := by
  cases c with
  | rep r => cases r
  | own o =>
    cases o with
    | set h => exact ⟨_, rfl, h⟩
theorem Cont.dct {ds : List (D × D)} (c : Cont K F H v (.dct ds)) (s : Sub F H) : ds.length ≤ sizeLine ∧ ∃ a, v = .ref a ∧ ((∃ kvs, Rd H a (.dK kvs) ∧ RepK K F kvs ds) ∨ ∃ kvs, Rd H a (.dT kvs) ∧ RepT K F kvs ds) := by
  cases c with
  | rep r =>
    cases r with
    | dctK h r l => exact ⟨l, _, rfl, .inl ⟨_, s.rd h, r⟩⟩
    | dctT h r l => exact ⟨l, _, rfl, .inr ⟨_, s.rd h, r⟩⟩
  | own o =>
    cases o with
    | dctK h r l => exact ⟨l, _, rfl, .inl ⟨_, .inl h, r⟩⟩
    | dctT h r l => exact ⟨l, _, rfl, .inr ⟨_, .inl h, r⟩⟩
theorem new_lst {xs : List V} {ds : List D} {p : Addr} (s : Sub F H) (n : H p = none) (r : Reps K F xs ds) (l : ds.length ≤ sizeLine) : Grow F H F (upd H p (.lst xs)) ∧ ORep K H F (upd H p (.lst xs)) (.ref p) (.o (.lst ds)) :=
  ⟨.newO s n, p, rfl, .of n, s.free n, .lst upd_same r l⟩
theorem new_tup {xs : List V} {ds : List D} {p : Addr} (s : Sub F H) (n : H p = none) (r : Reps K F xs ds) (l : ds.length ≤ sizeLine) : Grow F H (updF F p (.tup xs)) (upd H p (.tup xs)) ∧ ORep K H (updF F p (.tup xs)) (upd H p (.tup xs)) (.ref p) (.v (.tup ds)) :=
  ⟨.newF s n (fun _ z => nomatch z), .tup updF_same (r.mono (same_new (s.free n))) l⟩
end

abbrev line : Nat := 16777216
theorem line_eq : (sizeLine : Nat) = line := sizeLine_eq
def dAdd : D → D → Option O
  | .int i, .int j => some (.v (.int (i + j)))
  | .str i, .str j => if i.length + j.length ≤ line then some (.v (.str (i ++ j))) else none
  | .lst i, .lst j => if i.length + j.length ≤ line then some (.o (.lst (i ++ j))) else none
  | .tup i, .tup j => if i.length + j.length ≤ line then some (.v (.tup (i ++ j))) else none
  | _, _ => none
def dSub : D → D → Option O
  | .int i, .int j => some (.v (.int (i - j)))
  | _, _ => none
def dMul : D → D → Option O
  | .int i, .int j => if (-(2 ^ 64) < i ∧ i < 2 ^ 64) ∨ (-(2 ^ 64) < j ∧ j < 2 ^ 64) then some (.v (.int (i * j))) else none
  | .lst xs, .int k => if -(2 ^ 63) ≤ k ∧ k < 2 ^ 63 ∧ xs.length * k.toNat ≤ line then some (.o (.lst (List.replicate k.toNat xs).flatten)) else none
  | .tup xs, .int k => if k = 1 then some (.v (.tup xs)) else if 2 ≤ k ∧ k ≤ 1000 ∧ xs ≠ [] ∧ xs.length ≤ 1000 then some (.v (.tup (List.replicate k.toNat xs).flatten)) else none
  | _, _ => none
def dDiv : D → D → Option O
  | .int i, .int j => if 0 < j ∧ j.natAbs.log2 < 9000 then some (.v (.int (i / j))) else none
  | _, _ => none
def dMod : D → D → Option O
  | .int i, .int j => if 0 < j then some (.v (.int (i % j))) else none
  | _, _ => none
def dPow : D → D → Option O
  | .int i, .int j => if 0 ≤ j ∧ j ≤ 1000000 ∧ i.natAbs < 2 ^ 64 then some (.v (.int (i ^ j.toNat))) else none
  | _, _ => none
def dShl : D → D → Option O
  | .int i, .int j => if 0 ≤ j ∧ j ≤ 1000000 ∧ i.natAbs < 2 ^ 64 then some (.v (.int (i * 2 ^ j.toNat))) else none
  | _, _ => none
def dShr : D → D → Option O
  | .int i, .int j => if 0 ≤ j then some (.v (.int (i / 2 ^ j.toNat))) else none
  | _, _ => none
def dAnd : D → D → Option O
  | .int i, .int j => some (.v (.int (Builtin.bitAnd i j)))
  | _, _ => none
section
variable {K : PySem.W.Frag} {F F' : Fz T} {H H' : Hp} {v : V}
theorem opd_rI {C : Int → Int → Prop} [∀ i j, Decidable (C i j)] {g : Int → Int → Int} {op : D → D → Option O} (h : ∀ a b o, op a b = some o → ∃ i j, a = .int i ∧ b = .int j ∧ C i j ∧ o = .v (.int (g i j))) : OpD K (rI C fun i j => .int (g i j)) op :=
  fun x y a b o F H Q s ca cb eo q => by
    obtain ⟨i, j, rfl, rfl, c, rfl⟩ := h a b o eo
    obtain rfl := ca.int
    obtain rfl := cb.int
    exact ⟨i, j, rfl, rfl, c, q _ F H (.refl s) (.int _)⟩
theorem opd_rI0 {g : Int → Int → Int} {op : D → D → Option O} (h : ∀ a b o, op a b = some o → ∃ i j, a = .int i ∧ b = .int j ∧ o = .v (.int (g i j))) : OpD K (rI0 fun i j => .int (g i j)) op :=
  fun x y a b o F H Q s ca cb eo q => by
    obtain ⟨i, j, rfl, rfl, rfl⟩ := h a b o eo
    obtain rfl := ca.int
    obtain rfl := cb.int
    exact ⟨i, j, rfl, rfl, q _ F H (.refl s) (.int _)⟩
def rAddD (K : PySem.W.Frag) : R2 := fun x y H Q => rI0 (fun i j => .int (i + j)) x y H Q ∨ (∃ i j, x = .str i ∧ y = .str j ∧ i.length + j.length ≤ sizeLine ∧ Q (.str (i ++ j)) H) ∨ rCat x y H Q ∨ rCatA K x y H Q
theorem op_addD {X : Cx} : OpR X (binaryOp .Add) (rAddD X.K) := op_add.or (op_add_str.or (op_cat.or op_catA))
theorem nil_of_len {α β : Type} {xs : List α} {ds : List β} (e : xs.length = ds.length) : xs = [] ↔ ds = [] := by
  rw [← List.length_eq_zero_iff, ← List.length_eq_zero_iff, e]
theorem opd_add : OpD K (rAddD K) dAdd := fun x y a b o F H Q s ca cb eo q => by
  unfold dAdd at eo
  split at eo
  · obtain rfl := ca.int
    obtain rfl := cb.int
    cases eo
    exact .inl ⟨_, _, rfl, rfl, q _ F H (.refl s) (.int _)⟩
  · obtain rfl := ca.str
    obtain rfl := cb.str
    split at eo
    · rename_i hl
      cases eo
      exact .inr (.inl ⟨_, _, rfl, rfl, by rw [line_eq]; exact hl, q _ F H (.refl s) (.str _)⟩)
    · cases eo
  · split at eo
    · rename_i hl
      cases eo
      obtain ⟨p, xs, rfl, hp, rp, _⟩ := ca.lst s
      obtain ⟨p', ys, rfl, hp', rp', _⟩ := cb.lst s
      have l1 := rp.length
      have l2 := rp'.length
      refine .inr (.inr (.inl ⟨p, p', xs, ys, rfl, rfl, hp, hp', by rw [line_eq, l1, l2]; exact hl, fun z hz => ?_⟩))
      obtain ⟨g, r⟩ := new_lst s hz (rp.append rp') (by rw [List.length_append, line_eq]; exact hl)
      exact q _ _ _ g r
    · cases eo
  · split at eo
    · rename_i i j hl
      cases eo
      obtain ⟨p, xs, rfl, hp, rp, _, r0⟩ := ca.tup s
      obtain ⟨p', ys, rfl, hp', rp', _, r0'⟩ := cb.tup s
      have l1 := rp.length
      have l2 := rp'.length
      refine .inr (.inr (.inr ⟨p, p', xs, ys, rfl, rfl, .of hp, .of hp', by rw [line_eq, l1, l2]; exact hl, fun e => ?_, fun _ e => ?_, fun _ _ z hz => ?_⟩))
      · rw [nil_of_len l1] at e
        subst e
        exact q _ F H (.refl s) r0'
      · rw [nil_of_len l2] at e
        subst e
        rw [List.append_nil] at q
        exact q _ F H (.refl s) r0
      · obtain ⟨g, r⟩ := new_tup s hz (rp.append rp') (by rw [List.length_append, line_eq]; exact hl)
        exact q _ _ _ g r
    · cases eo
  · cases eo
theorem opd_sub : OpD K (rI0 fun i j => .int (i - j)) dSub := opd_rI0 fun a b o e => by
  unfold dSub at e
  split at e
  · cases e; exact ⟨_, _, rfl, rfl, rfl⟩
  · cases e
theorem tup_mul1 (ad : Addr) (arr : Array Value) (n : Nat) (dd : Option Addr) (sl : Array (Option Value)) (tk : Tok) :
    Meets (Builtin.«tuple.__mul__» ⟨[.ref ad, .int 1 tk], []⟩) (fun _ R sh => sh.heap.get? ad = some { cls := .type "tuple", dict := dd, data := .seq arr n, slots := sl } ∧ R (.ok (.ret (.ref ad))) sh) :=
  .of_wp fun pg wd Ar R sh hyp => by
    obtain ⟨heap, g, d, tks, oss⟩ := sh
    obtain ⟨at_, hyp⟩ := hyp
    have f1 := AutoSeq1.idx_int
    wp_walk using AutoSeq1.wpAny_loadPart' at_
    exact ⟨_, rfl, hyp⟩
def rRepT1 (K : PySem.W.Frag) : R2 := fun x y H Q => ∃ ad xs, x = .ref ad ∧ y = .int 1 ∧ SqT K H ad xs ∧ Q (.ref ad) H
theorem op_repT1 {X : Cx} : OpR X (binaryOp .Mult) (rRepT1 X.K) := by
  intro pins sh σ H x y v u Q I rx ry h
  obtain ⟨ad, xs, rfl, rfl, hT, q⟩ := h
  cases rx
  obtain ⟨tk, rfl⟩ := ry
  obtain ⟨its, rr, ⟨⟨cls, dd, data, sl⟩, ho, hc, n, hd⟩, _⟩ := I.tuple hT
  simp only at hc hd
  subst hc hd
  refine wpAny_binaryOp_repeat_ref (T := "tuple") (U := "int") (by decide) ⟨_, ho, rfl⟩ (fun sh' => typeIs_int sh' 1 tk) noFill_tuple_mul F.fills_int_mul F.slot_int_rmul repeat_tuple F.slot_int_index.lookup ?_
  refine call_meets F.slot_int_rmul (typeIs_int sh 1 tk) F.entry_int_rmul (F.args_int_rmul_2 _ _) (int_rmul_tuple 1 tk ad its.toArray n dd sl) ⟨ho, rfl, ⟨_, ho, rfl⟩, ?_⟩
  exact call_meets F.slot_tuple_mul ⟨_, ho, rfl⟩ F.entry_tuple_mul (F.args_tuple_mul_2 _ _) (tup_mul1 ad its.toArray n dd sl tk) ⟨ho, ⟨.ref ad, H, I, rfl, q⟩⟩
def rMulD (K : PySem.W.Frag) : R2 := fun x y H Q => rI CMul (fun i j => .int (i * j)) x y H Q ∨ rRep x y H Q ∨ rRepT1 K x y H Q ∨ rRepT K x y H Q
theorem op_mulD {X : Cx} : OpR X (binaryOp .Mult) (rMulD X.K) := op_mul.or (op_rep.or (op_repT1.or op_repT))
theorem Reps.flat {vs : List V} {ds : List D} (r : Reps K F vs ds) : ∀ k : Nat, Reps K F (List.replicate k vs).flatten (List.replicate k ds).flatten
  | 0 => .nil
  | k + 1 => by
    rw [List.replicate_succ, List.replicate_succ, List.flatten_cons, List.flatten_cons]
    exact r.append (Reps.flat r k)
theorem len_flat {α : Type} (l : List α) (k : Nat) : (List.replicate k l).flatten.length = l.length * k := by
  induction k with
  | zero => rfl
  | succ k ih => rw [List.replicate_succ, List.flatten_cons, List.length_append, ih, Nat.mul_succ, Nat.add_comm]
theorem opd_mul : OpD K (rMulD K) dMul := fun x y a b o F H Q s ca cb eo q => by
  unfold dMul at eo
  split at eo
  · obtain rfl := ca.int
    obtain rfl := cb.int
    split at eo
    · rename_i c
      cases eo
      exact .inl ⟨_, _, rfl, rfl, c, q _ F H (.refl s) (.int _)⟩
    · cases eo
  · split at eo
    · rename_i c
      cases eo
      obtain rfl := cb.int
      obtain ⟨p, xs, rfl, hp, rp, _⟩ := ca.lst s
      have l1 := rp.length
      refine .inr (.inl ⟨p, _, xs, rfl, rfl, hp, c.1, c.2.1, by rw [line_eq, l1]; exact c.2.2, fun z hz => ?_⟩)
      obtain ⟨g, r⟩ := new_lst s hz (rp.flat _) (by rw [len_flat, line_eq]; exact c.2.2)
      exact q _ _ _ g r
    · cases eo
  · obtain rfl := cb.int
    obtain ⟨p, xs, rfl, hp, rp, hl, r0⟩ := ca.tup s
    have l1 := rp.length
    split at eo
    · rename_i c
      subst c
      cases eo
      exact .inr (.inr (.inl ⟨p, xs, rfl, rfl, .of hp, q _ F H (.refl s) r0⟩))
    · split at eo
      · rename_i c
        obtain ⟨c1, c2, c3, c4⟩ := c
        cases eo
        refine .inr (.inr (.inr ⟨p, _, xs, rfl, rfl, .of hp, fun e => ?_, c1, c2, by omega, fun z hz => ?_⟩))
        · subst e
          cases rp
          exact c3 rfl
        · rename_i xs0 k _
          obtain ⟨g, r⟩ := new_tup s hz (rp.flat k.toNat) (by
            rw [len_flat, line_eq]
            exact Nat.le_trans (Nat.mul_le_mul c4 (show k.toNat ≤ 1000 by omega)) (by decide))
          exact q _ _ _ g r
      · cases eo
  · cases eo
def DivW (_ j : Int) : Prop := 0 < j ∧ j.natAbs.log2 < 9000
instance (i j : Int) : Decidable (DivW i j) := by unfold DivW; infer_instance
theorem op_divW {X : Cx} : OpR X (binaryOp .FloorDiv) (rI DivW fun i j => .int (i / j)) := opI fun i j _ _ _ _ _ hc q => by
  obtain ⟨h1, h2⟩ := hc
  refine PyProof.Rows.floordiv_int (by omega) ?_ (.inl (PyProof.noPylong_of_log2 h2))
  rw [Int.fdiv_eq_ediv_of_nonneg i (Int.le_of_lt h1)]
  exact q
instance (i j : Int) : Decidable (CPow i j) := by unfold CPow; infer_instance
theorem opd_div : OpD K (rI DivW fun i j => .int (i / j)) dDiv := opd_rI fun a b o e => by
  unfold dDiv at e
  split at e
  · split at e
    · rename_i c; cases e; exact ⟨_, _, rfl, rfl, c, rfl⟩
    · cases e
  · cases e
theorem opd_mod : OpD K (rI (fun _ j => 0 < j) fun i j => .int (i % j)) dMod := opd_rI fun a b o e => by
  unfold dMod at e
  split at e
  · split at e
    · rename_i c; cases e; exact ⟨_, _, rfl, rfl, c, rfl⟩
    · cases e
  · cases e
theorem opd_pow : OpD K (rI CPow fun i j => .int (i ^ j.toNat)) dPow := opd_rI fun a b o e => by
  unfold dPow at e
  split at e
  · split at e
    · rename_i c; cases e; exact ⟨_, _, rfl, rfl, c, rfl⟩
    · cases e
  · cases e
theorem opd_shl : OpD K (rI CPow fun i j => .int (i * 2 ^ j.toNat)) dShl := opd_rI fun a b o e => by
  unfold dShl at e
  split at e
  · split at e
    · rename_i c; cases e; exact ⟨_, _, rfl, rfl, c, rfl⟩
    · cases e
  · cases e
theorem opd_shr : OpD K (rI (fun _ j => 0 ≤ j) fun i j => .int (i / 2 ^ j.toNat)) dShr := opd_rI fun a b o e => by
  unfold dShr at e
  split at e
  · split at e
    · rename_i c; cases e; exact ⟨_, _, rfl, rfl, c, rfl⟩
    · cases e
  · cases e
theorem opd_and : OpD K (rI0 fun i j => .int (Builtin.bitAnd i j)) dAnd := opd_rI0 fun a b o e => by
  unfold dAnd at e
  split at e
  · cases e; exact ⟨_, _, rfl, rfl, rfl⟩
  · cases e
end
def dBin : Operator → D → D → Option O
  | .Add => dAdd
  | .Sub => dSub
  | .Mult => dMul
  | .FloorDiv => dDiv
  | .Mod => dMod
  | .Pow => dPow
  | .LShift => dShl
  | .RShift => dShr
  | .BitAnd => dAnd
  | _ => fun _ _ => none
theorem bin_ok {X : Cx} (op : Operator) : ∃ r, OpR X (binaryOp op) r ∧ OpD X.K r (dBin op) := by
  cases op with
  | Add => exact ⟨_, op_addD, opd_add⟩
  | Sub => exact ⟨_, op_sub, opd_sub⟩
  | Mult => exact ⟨_, op_mulD, opd_mul⟩
  | FloorDiv => exact ⟨_, op_divW, opd_div⟩
  | Mod => exact ⟨_, op_mod, opd_mod⟩
  | Pow => exact ⟨_, op_pow, opd_pow⟩
  | LShift => exact ⟨_, op_shl, opd_shl⟩
  | RShift => exact ⟨_, op_shr, opd_shr⟩
  | BitAnd => exact ⟨_, op_and, opd_and⟩
  | _ => exact ⟨fun _ _ _ _ => False, fun _ _ _ _ _ _ _ _ _ _ _ _ h => h.elim, fun _ _ _ _ _ _ _ _ _ _ _ e => by cases e⟩

end Pd

set_option Elab.async false
set_option linter.all false
set_option maxRecDepth 100000
set_option maxHeartbeats 1000000
namespace Pd
open PySem PySem.Spec L2

mutual
def ltP : PyData → PyData → Bool
  | .int i, .int j => decide (i < j)
  | .str i, .str j => decide (i.cps.toList < j.cps.toList)
  | .tuple xs, .tuple ys => ltPs xs ys
  | _, _ => false
def ltPs : List PyData → List PyData → Bool
  | [], [] => false
  | [], _ :: _ => true
  | _ :: _, [] => false
  | x :: xs, y :: ys => if PyData.eqv x y = true then ltPs xs ys else ltP x y
end
mutual
/-- they may be compared -/
def okP : PyData → PyData → Bool
  | .int _, .int _ => true
  | .str _, .str _ => true
  | .tuple xs, .tuple ys => okPs xs ys
  | _, _ => false
def okPs : List PyData → List PyData → Bool
  | x :: xs, y :: ys => okP x y && okPs xs ys
  | _, _ => true
end
theorem okPs_at : ∀ {xs ys : List PyData} (j : Nat), okPs xs ys = true → j < xs.length → j < ys.length → okP (xs.getD j .none) (ys.getD j .none) = true
  | [], _, _, _, h, _ => absurd h (Nat.not_lt_zero _)
  | _ :: _, [], _, _, _, h => absurd h (Nat.not_lt_zero _)
  | x :: xs, y :: ys, 0, h, _, _ => by
    have h' : okP x y = true ∧ okPs xs ys = true := by simpa [okPs] using h
    exact h'.1
  | x :: xs, y :: ys, j + 1, h, h1, h2 => by
    have h' : okP x y = true ∧ okPs xs ys = true := by simpa [okPs] using h
    exact okPs_at (xs := xs) (ys := ys) j h'.2 (Nat.lt_of_succ_lt_succ h1) (Nat.lt_of_succ_lt_succ h2)
theorem lexAt_shift {e r : Nat → Bool} {z : Bool} : ∀ (k i : Nat), Ob.lexAt e r z (i + 1) k = Ob.lexAt (fun j => e (j + 1)) (fun j => r (j + 1)) z i k
  | 0, _ => rfl
  | k + 1, i => by
    rw [Ob.lexAt_succ, Ob.lexAt_succ, lexAt_shift k (i + 1)]
theorem lexAt_ltPs : ∀ (xs ys : List PyData), Ob.lexAt (SeqAt.pairEq xs ys) (fun j => ltP (xs.getD j .none) (ys.getD j .none)) (decide (xs.length < ys.length)) 0 (min xs.length ys.length) = ltPs xs ys
  | [], [] => rfl
  | [], y :: ys => by simp [Ob.lexAt, ltPs]
  | x :: xs, [] => by simp [Ob.lexAt, ltPs]
  | x :: xs, y :: ys => by
    have ih := lexAt_ltPs xs ys
    have em : min (x :: xs).length (y :: ys).length = min xs.length ys.length + 1 := by simp only [List.length_cons]; omega
    have ed : decide ((x :: xs).length < (y :: ys).length) = decide (xs.length < ys.length) := by simp
    rw [em, ed, Ob.lexAt_succ, lexAt_shift]
    show (if PyData.eqv x y = true then Ob.lexAt (SeqAt.pairEq xs ys) (fun j => ltP (xs.getD j .none) (ys.getD j .none)) (decide (xs.length < ys.length)) 0 (min xs.length ys.length) else ltP x y) = ltPs (x :: xs) (y :: ys)
    rw [ih, ltPs]
theorem readsAll_len {h : Heap} : ∀ {vs : List Value} {ds : List PyData} {as : List Addr}, ReadsAll h vs ds as → vs.length = ds.length
  | _, _, _, .nil => rfl
  | _, _, _, .cons _ t => by rw [List.length_cons, List.length_cons, readsAll_len t]
theorem readsAll_at {h : Heap} : ∀ {vs : List Value} {ds : List PyData} {as : List Addr} (j : Nat) (h1 : j < vs.length), ReadsAll h vs ds as → ∃ bs, Reads h vs[j] (ds.getD j .none) bs
  | _, _, _, 0, _, .cons r _ => ⟨_, r⟩
  | _, _, _, j + 1, h1, .cons _ t => readsAll_at j (Nat.lt_of_succ_lt_succ h1) t
theorem canLayAll_at : ∀ {ds : List PyData} (j : Nat), PyData.canLayAll0 ds = true → j < ds.length → (ds.getD j .none).canLay0 = true
  | d :: ds, 0, h, _ => by
    have h' : d.canLay0 = true ∧ PyData.canLayAll0 ds = true := by simpa [PyData.canLayAll0] using h
    exact h'.1
  | d :: ds, j + 1, h, hl => by
    have h' : d.canLay0 = true ∧ PyData.canLayAll0 ds = true := by simpa [PyData.canLayAll0] using h
    exact canLayAll_at (ds := ds) j h'.2 (Nat.lt_of_succ_lt_succ hl)
theorem depth_at : ∀ {ds : List PyData} (j : Nat), j < ds.length → (ds.getD j .none).depth ≤ PyData.depthAll ds
  | d :: ds, 0, _ => by
    show d.depth ≤ PyData.depthAll (d :: ds)
    rw [PyData.depthAll]; exact Nat.le_max_left _ _
  | d :: ds, j + 1, hl => by
    have := depth_at (ds := ds) j (Nat.lt_of_succ_lt_succ hl)
    show (ds.getD j .none).depth ≤ PyData.depthAll (d :: ds)
    rw [PyData.depthAll]; exact Nat.le_trans this (Nat.le_max_right _ _)
theorem rc_lt : ∀ (n : Nat) (da db : PyData) (A : Around) (s : Shared) (a b : Value) (as bs : List Addr), da.depth ≤ n → Reads s.heap a da as → Reads s.heap b db bs → okP da db = true → da.canLay0 = true → db.canLay0 = true →
    A.units + n + 1 < cLine → Ob.RcOp .Lt A s a b (ltP da db) := by
  intro n
  induction n with
  | zero =>
    intro da db A s a b as bs hd ra rb ok ha hb hu
    cases ra with
    | int i t =>
      cases rb with
      | int j u => exact Ob.RcOp.lt_int i j t u
      | _ => cases ok
    | str x t =>
      cases rb with
      | str y u => exact fun _ _ _ _ h => PyProof.Rows.lt_str h
      | _ => cases ok
    | @tuple a o vs n xs as e1 e2 e3 r => simp [PyData.depth] at hd
    | none => cases ok
    | bool _ => cases ok
    | list => cases ok
    | dict => cases ok
  | succ n ih =>
    intro da db A s a b as bs hd ra rb ok ha hb hu
    cases ra with
    | int i t =>
      cases rb with
      | int j u => exact Ob.RcOp.lt_int i j t u
      | _ => cases ok
    | str x t =>
      cases rb with
      | str y u => exact fun _ _ _ _ h => PyProof.Rows.lt_str h
      | _ => cases ok
    | @tuple a o vs n1 xs as e1 e2 e3 r =>
      cases rb with
      | @tuple b o2 ws n2 ys bs f1 f2 f3 r2 =>
        have ok' : okPs xs ys = true := by simpa [okP] using ok
        have ha' : PyData.canLayAll0 xs = true := by simpa [PyData.canLay0] using ha
        have hb' : PyData.canLayAll0 ys = true := by simpa [PyData.canLay0] using hb
        have l1 := readsAll_len r
        have l2 := readsAll_len r2
        have hd' : PyData.depthAll xs ≤ n := by
          rw [PyData.depth] at hd; omega
        have hl : s.heap.IsTuple a vs := ⟨o, e1, e2, n1, e3⟩
        have hl2 : s.heap.IsTuple b ws := ⟨o2, f1, f2, n2, f3⟩
        have R := Ob.RcOp.tuples_lt (A := A) (s := s) (e := SeqAt.pairEq xs ys) (r := fun j => ltP (xs.getD j .none) (ys.getD j .none)) hl hl2 (by omega)
          (fun j h1 h2 => by
            have q := SeqAt.eqAt_readsAll xs ys A.in1 s vs.toList ws.toList as bs r r2 ha' hb' (by
              show A.units + 1 + _ < _
              have := Nat.min_le_left (PyData.depthAll xs) (PyData.depthAll ys)
              omega) j (by simpa using h1) (by simpa using h2)
            simpa using q)
          (fun j h1 h2 _ => by
            have h1' : j < vs.toList.length := by simpa using h1
            have h2' : j < ws.toList.length := by simpa using h2
            obtain ⟨as', ra⟩ := readsAll_at j h1' r
            obtain ⟨bs', rb⟩ := readsAll_at j h2' r2
            have k1 : j < xs.length := by omega
            have k2 : j < ys.length := by omega
            have q := ih (xs.getD j .none) (ys.getD j .none) A.in1 s _ _ _ _ (Nat.le_trans (depth_at j k1) hd') ra rb (okPs_at j ok' k1 k2) (canLayAll_at j ha' k1) (canLayAll_at j hb' k2) (by show A.units + 1 + n + 1 < _; omega)
            simpa using q)
        have e1 : vs.size = xs.length := by rw [← l1]; simp
        have e2 : ws.size = ys.length := by rw [← l2]; simp
        rw [e1, e2, lexAt_ltPs] at R
        rw [ltP]
        exact R
      | _ => cases ok
    | none => cases ok
    | bool _ => cases ok
    | list => cases ok
    | dict => cases ok
def ltD (a b : D) : Option Bool := if shp a = true ∧ shp b = true ∧ okP (pyD a) (pyD b) = true then some (ltP (pyD a) (pyD b)) else none
def rLtD (K : PySem.W.Frag) : R2 := fun x y H Q => ∃ d e, Dp K H x d ∧ Dp K H y e ∧ SeqAt.shaped d = true ∧ SeqAt.shaped e = true ∧ okP d e = true ∧ Q (.bl (ltP d e)) H
theorem op_ltD {X : Cx} (hu : X.A.units + 100 < cLine) : OpR X (compareOp .Lt) (rLtD X.K) := by
  intro pins s σ H x y v u Q I rx ry h
  obtain ⟨d, e, hd, he, sd, se, ok, q⟩ := h
  obtain ⟨as, r1⟩ := Dp.reads I d x v hd rx
  obtain ⟨bs, r2⟩ := Dp.reads I e y u he ry
  have R := rc_lt 64 d e X.A s v u as bs (SeqAt.depth_of_shaped sd) r1 r2 ok (SeqAt.canLay_of_shaped sd) (SeqAt.canLay_of_shaped se) (by omega)
  exact R X.prog X.w X.xe (EP X pins σ Q) ⟨.bl _, H, I, rfl, q⟩

def bO (b : Bool) : O := .v (.bl b)
def dEq (a b : D) : Option O := (eqD a b).map bO
def dNe (a b : D) : Option O := (eqD a b).map fun c => bO (!c)
def dLt (a b : D) : Option O := (ltD a b).map bO
def numsT : List D → Option (List Int)
  | [] => some []
  | .int i :: r => (numsT r).map fun l => i :: l
  | _ => none
theorem numsT_some : ∀ {ds : List D} {ns : List Int}, numsT ds = some ns → ds = ns.map D.int
  | [], ns, h => by cases h; rfl
  | d :: r, ns, h => by
    cases d <;> simp [numsT] at h
    obtain ⟨l, hl, rfl⟩ := h
    rw [numsT_some hl]; rfl
def leT (ns ms : List Int) : Bool := Ob.lexAt (fun j => decide (ns.getD j 0 = ms.getD j 0)) (fun j => decide (ns.getD j 0 ≤ ms.getD j 0)) (decide (ns.length ≤ ms.length)) 0 (min ns.length ms.length)
def dLe : D → D → Option O
  | .int i, .int j => some (bO (decide (i ≤ j)))
  | .tup xs, .tup ys => (numsT xs).bind fun ns => (numsT ys).map fun ms => bO (leT ns ms)
  | _, _ => none
def dGt : D → D → Option O
  | .int i, .int j => some (bO (decide (j < i)))
  | _, _ => none
def dGe : D → D → Option O
  | .int i, .int j => some (bO (decide (j ≤ i)))
  | _, _ => none
def isNonD : D → Bool
  | .non => true
  | _ => false
def dIs : D → D → Option O
  | a, .non => some (bO (isNonD a))
  | .bl a, .bl b => some (bO (decide (a = b)))
  | _, _ => none
def dIsNot : D → D → Option O
  | a, .non => some (bO (!isNonD a))
  | .bl a, .bl b => some (bO (!decide (a = b)))
  | _, _ => none
def keyOf? : D → Option Key
  | .int i => some (.inl i)
  | .str x => some (.inr x)
  | _ => none
def keysOf? : List D → Option (List Key)
  | [] => some []
  | d :: ds => (keyOf? d).bind fun k => (keysOf? ds).map fun ks => k :: ks
def isKey : D → Bool
  | .int _ => true
  | .str _ => true
  | .tup ds => (keysOf? ds).isSome
  | _ => false
def keyEq : D → D → Bool
  | .int i, .int j => decide (i = j)
  | .str i, .str j => decide (i = j)
  | .tup xs, .tup ys => decide (keysOf? xs = keysOf? ys)
  | _, _ => false
def getK (kvs : List (D × D)) (k : D) : Option D := (kvs.find? fun kv => keyEq kv.1 k).map (·.2)
def inKeys (kvs : List (D × D)) (k : D) : Bool := kvs.any fun kv => keyEq kv.1 k
def kindK (kvs : List (D × D)) (k : D) : Bool := match k, kvs with
  | .tup _, (.tup _, _) :: _ => true
  | .tup _, [] => true
  | .int _, (.tup _, _) :: _ => false
  | .str _, (.tup _, _) :: _ => false
  | .int _, _ => true
  | .str _, _ => true
  | _, _ => false
section
variable {K : PySem.W.Frag} {F F' : Fz T} {H H' : Hp} {v : V}
theorem isNon_eq {a : D} (c : Cont K F H v a) : decide (v = .non) = isNonD a := by
  cases c with
  | rep r => cases r <;> rfl
  | own o => cases o <;> rfl
theorem opd_eq : OpD K (rEqD K) dEq := fun x y a b o F H Q s ca cb eo q => by
  unfold dEq eqD at eo
  split at eo
  · rename_i h
    cases eo
    exact ⟨_, _, ca.dp s h.1, cb.dp s h.2, h.1, h.2, q _ F H (.refl s) (.bl _)⟩
  · cases eo
theorem opd_ne : OpD K (rNeD K) dNe := fun x y a b o F H Q s ca cb eo q => by
  unfold dNe eqD at eo
  split at eo
  · rename_i h
    cases eo
    exact ⟨_, _, ca.dp s h.1, cb.dp s h.2, h.1, h.2, q _ F H (.refl s) (.bl _)⟩
  · cases eo
theorem opd_lt : OpD K (rLtD K) dLt := fun x y a b o F H Q s ca cb eo q => by
  unfold dLt ltD at eo
  split at eo
  · rename_i h
    cases eo
    exact ⟨_, _, ca.dp s h.1, cb.dp s h.2.1, h.1, h.2.1, h.2.2, q _ F H (.refl s) (.bl _)⟩
  · cases eo
theorem opd_B0 {g : Int → Int → Bool} {op : D → D → Option O} (h : ∀ a b o, op a b = some o → ∃ i j, a = .int i ∧ b = .int j ∧ o = bO (g i j)) : OpD K (rI0 fun i j => .bl (g i j)) op :=
  fun x y a b o F H Q s ca cb eo q => by
    obtain ⟨i, j, rfl, rfl, rfl⟩ := h a b o eo
    obtain rfl := ca.int
    obtain rfl := cb.int
    exact ⟨i, j, rfl, rfl, q _ F H (.refl s) (.bl _)⟩
theorem opd_le : OpD K (fun x y H Q => (rI0 fun i j => .bl (decide (i ≤ j))) x y H Q ∨ rLeT K x y H Q) dLe := fun x y a b o F H Q s ca cb eo q => by
  unfold dLe at eo
  split at eo
  · rename_i i j
    cases eo
    obtain rfl := ca.int
    obtain rfl := cb.int
    exact .inl ⟨i, j, rfl, rfl, q _ F H (.refl s) (.bl _)⟩
  · rename_i xs ys
    obtain ⟨ns, e1, eo⟩ := Option.bind_eq_some_iff.mp eo
    obtain ⟨ms, e2, rfl⟩ := Option.map_eq_some_iff.mp eo
    obtain rfl := numsT_some e1
    obtain rfl := numsT_some e2
    obtain ⟨p1, us, rfl, h1, r1, _⟩ := ca.tup s
    obtain ⟨p2, vs, rfl, h2, r2, _⟩ := cb.tup s
    rw [r1.ints_of] at h1
    rw [r2.ints_of] at h2
    exact .inr ⟨p1, p2, ns, ms, rfl, rfl, .inl (.inl h1), .inl (.inl h2), q _ F H (.refl s) (.bl _)⟩
  · cases eo
theorem opd_gt : OpD K (rI0 fun i j => .bl (decide (j < i))) dGt := opd_B0 fun a b o e => by
  unfold dGt at e
  split at e
  · cases e; exact ⟨_, _, rfl, rfl, rfl⟩
  · cases e
theorem opd_ge : OpD K (rI0 fun i j => .bl (decide (j ≤ i))) dGe := opd_B0 fun a b o e => by
  unfold dGe at e
  split at e
  · cases e; exact ⟨_, _, rfl, rfl, rfl⟩
  · cases e
def rIsD : R2 := fun x y H Q => (y = .non ∧ Q (.bl (decide (x = .non))) H) ∨ rIsB x y H Q
theorem op_isD {X : Cx} : OpR X (compareOp .Is) rIsD := op_isN.or op_isBl
theorem opd_is : OpD K rIsD dIs := fun x y a b o F H Q s ca cb eo q => by
  unfold dIs at eo
  split at eo
  · cases eo
    obtain rfl := cb.non
    refine .inl ⟨rfl, ?_⟩
    rw [isNon_eq ca]
    exact q _ F H (.refl s) (.bl _)
  · cases eo
    obtain rfl := ca.bl
    obtain rfl := cb.bl
    exact .inr ⟨_, _, rfl, rfl, q _ F H (.refl s) (.bl _)⟩
  · cases eo
def rIsNotD : R2 := fun x y H Q => (y = .non ∧ Q (.bl (!decide (x = .non))) H) ∨ rNotB x y H Q
theorem op_isNotD {X : Cx} : OpR X (compareOp .IsNot) rIsNotD := op_notN.or op_notBl
theorem opd_isNot : OpD K rIsNotD dIsNot := fun x y a b o F H Q s ca cb eo q => by
  unfold dIsNot at eo
  split at eo
  · cases eo
    obtain rfl := cb.non
    refine .inl ⟨rfl, ?_⟩
    rw [isNon_eq ca]
    exact q _ F H (.refl s) (.bl _)
  · cases eo
    obtain rfl := ca.bl
    obtain rfl := cb.bl
    exact .inr ⟨_, _, rfl, rfl, q _ F H (.refl s) (.bl _)⟩
  · cases eo
end
end Pd

set_option Elab.async false
set_option linter.all false
set_option maxRecDepth 100000
set_option maxHeartbeats 1000000
namespace Pd
open PySem PySem.Spec L2

theorem keyOf_keyD (k : Key) : keyOf? (keyD k) = some k := by cases k <;> rfl
theorem keysOf_map : ∀ ks : List Key, keysOf? (ks.map keyD) = some ks
  | [] => rfl
  | k :: ks => by
    show ((keyOf? (keyD k)).bind fun k => (keysOf? (ks.map keyD)).map fun ks => k :: ks) = _
    rw [keyOf_keyD, keysOf_map ks]; rfl
theorem keyOf_some {d : D} {k : Key} (h : keyOf? d = some k) : d = keyD k := by
  cases d <;> simp [keyOf?] at h <;> subst h <;> rfl
theorem keysOf_some : ∀ {ds : List D} {ks : List Key}, keysOf? ds = some ks → ds = ks.map keyD
  | [], ks, h => by cases h; rfl
  | d :: ds, ks, h => by
    have h : ((keyOf? d).bind fun k => (keysOf? ds).map fun ks => k :: ks) = some ks := h
    cases e : keyOf? d with
    | none => rw [e] at h; cases h
    | some k =>
      rw [e, Option.bind_some] at h
      cases e2 : keysOf? ds with
      | none => rw [e2] at h; cases h
      | some ks' =>
        rw [e2] at h
        cases h
        rw [keyOf_some e, keysOf_some e2]; rfl
theorem keyEq_K (a b : Key) : keyEq (keyD a) (keyD b) = decide (a = b) := by
  cases a with
  | inl i =>
    cases b with
    | inl j => simp [keyD, keyEq]
    | inr y => simp [keyD, keyEq]
  | inr x =>
    cases b with
    | inl j => simp [keyD, keyEq]
    | inr y => simp [keyD, keyEq]
theorem keyEq_T (a b : List Key) : keyEq (keyT a) (keyT b) = decide (a = b) := by
  show decide (keysOf? (a.map keyD) = keysOf? (b.map keyD)) = _
  rw [keysOf_map, keysOf_map]
  by_cases h : a = b
  · subst h; simp
  · rw [decide_eq_false h, decide_eq_false (fun e => h (Option.some.inj e))]
section
variable {K : PySem.W.Frag} {F H : Hp}
theorem Reps.keys : ∀ {ks : List Key} {xs : List V}, Reps K F xs (ks.map keyD) → xs = ks.map kV
  | [], _, .nil => rfl
  | k :: ks, _, .cons r t => by
    rw [Reps.keys (ks := ks) t]
    cases k with
    | inl i => cases r; rfl
    | inr x => cases r; rfl
def RelD (K : PySem.W.Frag) (F : Hp) : Option V → Option D → Prop
  | some v, some d => Rep K F v d
  | none, none => True
  | _, _ => False
theorem RelD.isSome {o : Option V} {u : Option D} (h : RelD K F o u) : o.isSome = u.isSome := by
  cases o <;> cases u <;> first | rfl | exact h.elim
theorem RepK.val (k : Key) : ∀ {kvs : List (Key × V)} {ds : List (D × D)}, RepK K F kvs ds → RelD K F (valV kvs k) (getK ds (keyD k))
  | _, _, .nil => trivial
  | _, _, .cons (k := k') (v := v) (d := d) (vs := vs) (ds := ds) r t => by
    have ih := RepK.val k t
    unfold getK
    rw [List.find?_cons, keyEq_K]
    by_cases h : k' = k
    · rw [decide_eq_true h, valV_pos (p := (k', v)) h]
      exact r
    · rw [decide_eq_false h, valV_neg (p := (k', v)) h]
      exact ih
theorem RepT.val (k : List Key) : ∀ {kvs : List (List Key × V)} {ds : List (D × D)}, RepT K F kvs ds → RelD K F (valV kvs k) (getK ds (keyT k))
  | _, _, .nil => trivial
  | _, _, .cons (k := k') (v := v) (d := d) (vs := vs) (ds := ds) r t => by
    have ih := RepT.val k t
    unfold getK
    rw [List.find?_cons, keyEq_T]
    by_cases h : k' = k
    · rw [decide_eq_true h, valV_pos (p := (k', v)) h]
      exact r
    · rw [decide_eq_false h, valV_neg (p := (k', v)) h]
      exact ih
def putD (kvs : List (D × D)) (k v : D) : List (D × D) :=
  if inKeys kvs k = true then kvs.map (fun kv => if keyEq kv.1 k = true then (kv.1, v) else kv) else kvs ++ [(k, v)]
def dropD (kvs : List (D × D)) (k : D) : List (D × D) := kvs.filter fun kv => !keyEq kv.1 k
theorem RepK.any (k : Key) : ∀ {kvs : List (Key × V)} {ds : List (D × D)}, RepK K F kvs ds → (kvs.any fun kv => decide (kv.1 = k)) = inKeys ds (keyD k)
  | _, _, .nil => rfl
  | _, _, .cons r t => by
    unfold inKeys
    rw [List.any_cons, List.any_cons, keyEq_K, RepK.any k t]; rfl
theorem RepT.any (k : List Key) : ∀ {kvs : List (List Key × V)} {ds : List (D × D)}, RepT K F kvs ds → (kvs.any fun kv => decide (kv.1 = k)) = inKeys ds (keyT k)
  | _, _, .nil => rfl
  | _, _, .cons r t => by
    unfold inKeys
    rw [List.any_cons, List.any_cons, keyEq_T, RepT.any k t]; rfl
theorem RepK.repl (k : Key) {y : V} {d : D} (ry : Rep K F y d) : ∀ {kvs : List (Key × V)} {ds : List (D × D)}, RepK K F kvs ds →
    RepK K F (kvs.map fun kv => if kv.1 = k then (kv.1, y) else kv) (ds.map fun kv => if keyEq kv.1 (keyD k) = true then (kv.1, d) else kv)
  | _, _, .nil => .nil
  | _, _, .cons (k := k') r t => by
    rw [List.map_cons, List.map_cons]
    have ih := RepK.repl k ry t
    by_cases h : k' = k
    · rw [if_pos h, if_pos (by rw [keyEq_K]; exact decide_eq_true h)]
      exact .cons ry ih
    · rw [if_neg h, if_neg (by rw [keyEq_K, decide_eq_false h]; exact Bool.false_ne_true)]
      exact .cons r ih
theorem RepT.repl (k : List Key) {y : V} {d : D} (ry : Rep K F y d) : ∀ {kvs : List (List Key × V)} {ds : List (D × D)}, RepT K F kvs ds →
    RepT K F (kvs.map fun kv => if kv.1 = k then (kv.1, y) else kv) (ds.map fun kv => if keyEq kv.1 (keyT k) = true then (kv.1, d) else kv)
  | _, _, .nil => .nil
  | _, _, .cons (k := k') r t => by
    rw [List.map_cons, List.map_cons]
    have ih := RepT.repl k ry t
    by_cases h : k' = k
    · rw [if_pos h, if_pos (by rw [keyEq_T]; exact decide_eq_true h)]
      exact .cons ry ih
    · rw [if_neg h, if_neg (by rw [keyEq_T, decide_eq_false h]; exact Bool.false_ne_true)]
      exact .cons r ih
theorem RepK.append : ∀ {a b : List (Key × V)} {c d : List (D × D)}, RepK K F a c → RepK K F b d → RepK K F (a ++ b) (c ++ d)
  | _, _, _, _, .nil, s => s
  | _, _, _, _, .cons r t, s => .cons r (RepK.append t s)
theorem RepT.append : ∀ {a b : List (List Key × V)} {c d : List (D × D)}, RepT K F a c → RepT K F b d → RepT K F (a ++ b) (c ++ d)
  | _, _, _, _, .nil, s => s
  | _, _, _, _, .cons r t, s => .cons r (RepT.append t s)
theorem RepK.put (k : Key) {y : V} {d : D} (ry : Rep K F y d) {kvs : List (Key × V)} {ds : List (D × D)} (r : RepK K F kvs ds) : RepK K F (putK kvs k y) (putD ds (keyD k) d) := by
  unfold putK putD
  have e := r.any k
  by_cases h : inKeys ds (keyD k) = true
  · rw [if_pos h, if_pos (by rw [e]; exact h)]
    exact r.repl k ry
  · rw [if_neg h, if_neg (by rw [e]; exact h)]
    exact r.append (.cons ry .nil)
theorem RepT.put (k : List Key) {y : V} {d : D} (ry : Rep K F y d) {kvs : List (List Key × V)} {ds : List (D × D)} (r : RepT K F kvs ds) : RepT K F (putK kvs k y) (putD ds (keyT k) d) := by
  unfold putK putD
  have e := r.any k
  by_cases h : inKeys ds (keyT k) = true
  · rw [if_pos h, if_pos (by rw [e]; exact h)]
    exact r.repl k ry
  · rw [if_neg h, if_neg (by rw [e]; exact h)]
    exact r.append (.cons ry .nil)
theorem RepK.drop (k : Key) : ∀ {kvs : List (Key × V)} {ds : List (D × D)}, RepK K F kvs ds → RepK K F (dropK kvs k) (dropD ds (keyD k))
  | _, _, .nil => .nil
  | _, _, .cons (k := k') (v := v) (d := d) (vs := vs) (ds := ds) r t => by
    have ih := RepK.drop k t
    unfold dropK dropD at ih ⊢
    rw [List.filter_cons, List.filter_cons, keyEq_K]
    by_cases h : k' = k
    · rw [if_neg (by simp [h]), if_neg (by simp [h])]
      exact ih
    · rw [if_pos (by simp [h]), if_pos (by simp [h])]
      exact .cons r ih
theorem RepT.drop (k : List Key) : ∀ {kvs : List (List Key × V)} {ds : List (D × D)}, RepT K F kvs ds → RepT K F (dropK kvs k) (dropD ds (keyT k))
  | _, _, .nil => .nil
  | _, _, .cons (k := k') (v := v) (d := d) (vs := vs) (ds := ds) r t => by
    have ih := RepT.drop k t
    unfold dropK dropD at ih ⊢
    rw [List.filter_cons, List.filter_cons, keyEq_T]
    by_cases h : k' = k
    · rw [if_neg (by simp [h]), if_neg (by simp [h])]
      exact ih
    · rw [if_pos (by simp [h]), if_pos (by simp [h])]
      exact .cons r ih
end

section
variable {X : Cx} {pins : List (Addr × Obj)} {σ : St} {H : Hp} {s : Shared} {a : Addr}
theorem objOk_other {P : Program} {w : World} {h : Heap} {b : Addr} {o o' : HO} {q : HO} (hb : b ≠ a) (e : H a = some o) (h1 : ∀ x, o ≠ .own x) (h2 : ∀ xs, o ≠ .tup xs) (x : ObjOk P w H h b q) : ObjOk P w (upd H a o') h b q :=
  x.stay (fun _ _ _ z => z) (fun c z => by rw [upd_ne (fun y => by rw [y, e] at z; exact h1 _ (Option.some.inj z))]; exact z)
    fun c xs z => by rw [upd_ne (fun y => by rw [y, e] at z; exact h2 _ (Option.some.inj z))]; exact z
theorem inv_swap {o o' : HO} (I : Inv X pins σ H s) (e : H a = some o) (h1 : ∀ x, o ≠ .own x) (h2 : ∀ xs, o ≠ .tup xs) (h3 : ∀ x u, o ≠ .frz x u) (h4 : ∀ ps, o ≠ .tbl ps) (new : ObjOk X.prog X.w (upd H a o') s.heap a o') : Inv X pins σ (upd H a o') s := by
  have nn : ∀ b, H b = none → b ≠ a := fun b z y => by rw [y, e] at z; cases z
  refine I.step (h' := s.heap) (g' := s.gens) (t' := s.toks) (d' := s.drawn) (ch := []) (fun b hb => absurd hb (by simp)) (fun b o _ _ _ z _ => z) (fun b o _ _ _ z _ => ⟨o.slots, z⟩) (fun b o _ _ z => by rw [upd_ne (nn b z)]; exact z) (fun b o _ z => ⟨o, z⟩)
    (fun b xs z => by rw [upd_ne (fun y => by rw [y, e] at z; exact h2 _ (Option.some.inj z))]; exact z) (fun b x u z => by rw [upd_ne (fun y => by rw [y, e] at z; exact h3 _ _ (Option.some.inj z))]; exact z)
    (fun b ps z => ⟨#[], by rw [upd_ne (fun y => by rw [y, e] at z; exact h4 _ (Option.some.inj z)), z]; simp⟩) (fun m z => z) (fun b u z => ?_) I.bare
  by_cases hb : b = a
  · subst hb
    rw [upd_same] at z
    cases z
    exact new
  · rw [upd_ne hb] at z
    exact objOk_other hb e h1 h2 (I.hok b u z)
theorem inv_toT (I : Inv X pins σ H s) (e : H a = some (.dK [])) : Inv X pins σ (upd H a (.dT [])) s := by
  refine inv_swap I e (fun _ z => nomatch z) (fun _ z => nomatch z) (fun _ _ z => nomatch z) (fun _ z => nomatch z) ?_
  obtain ⟨_, ns, vs, r, o, es, ep, h1, h2, h3, h4, h5⟩ := I.hok a _ e
  cases r
  have e0 : es.toList = [] := by
    have h6 := h5.1
    generalize es.toList = l at h6
    cases h6
    rfl
  exact ⟨Nat.zero_le _, ns, [], .nil, o, es, ep, h1, h2, h3, by simpa using e0, by simp⟩
theorem inv_toK (I : Inv X pins σ H s) (e : H a = some (.dT [])) : Inv X pins σ (upd H a (.dK [])) s := by
  refine inv_swap I e (fun _ z => nomatch z) (fun _ z => nomatch z) (fun _ _ z => nomatch z) (fun _ z => nomatch z) ?_
  obtain ⟨_, ns, xs, r, o, es, ep, h1, h2, h3, h4, h5⟩ := I.hok a _ e
  cases r
  have e0 : es = #[] := by simpa using h4
  subst e0
  exact ⟨Nat.zero_le _, ns, [], .nil, o, #[], ep, h1, h2, h3, (fun e he => absurd he (by simp)), .nil, by simp⟩
end

def dIn : D → D → Option Bool
  | x, .lst ys => if shp x = true ∧ shp (.lst ys) = true then some ((pyDs ys).any fun z => PyData.eqv z (pyD x)) else none
  | x, .tup ys => if shp x = true ∧ shp (.tup ys) = true then some ((pyDs ys).any fun z => PyData.eqv z (pyD x)) else none
  | x, .dct kvs => if isKey x = true ∧ kindK kvs x = true then some (inKeys kvs x) else none
  | .str x, .str z => match x.cps.toList with
    | [c] => some (decide (c ∈ z.cps.toList))
    | _ => none
  | _, _ => none
def DGet2 (H : Hp) (a : Addr) (y : V) (o : Option V) : Prop := DGet H a y o ∨ (Rd H a (.dK []) ∧ o = none ∧ ∃ (b : Addr) (k : List Key), y = .ref b ∧ H b = some (.tup (k.map kV))) ∨
  (Rd H a (.dT []) ∧ o = none ∧ ∃ k : Key, y = kV k)
theorem empK {P : Program} {w : World} {H : Hp} {h : Heap} {a : Addr} (ok : HOk P w H h) (e : Rd H a (.dK [])) : (a == sysModules) = false ∧ h.DictOfH (tupleKind (mixKind P w)) a [] := by
  obtain ⟨_, ns, vs, r, o, es, ep, h1, h2, h3, h4, h5⟩ := (show ObjOk P w H h a (.dK []) from e.ok ok)
  cases r
  have e0 : es.toList = [] := by
    have h6 := h5.1
    generalize es.toList = l at h6
    cases h6
    rfl
  exact ⟨ns, o, es, ep, h1, h2, h3, by simpa using e0, (fun x hx => nomatch hx), List.nodup_nil⟩
theorem empT {P : Program} {w : World} {H : Hp} {h : Heap} {a : Addr} (ok : HOk P w H h) (e : Rd H a (.dT [])) : (a == sysModules) = false ∧ h.DictOf (mixKind P w) a [] := by
  obtain ⟨_, ns, vs, r, o, es, ep, h1, h2, h3, h4, h5⟩ := (show ObjOk P w H h a (.dT []) from e.ok ok)
  cases r
  have e0 : es = #[] := by simpa using h4
  subst e0
  exact ⟨ns, o, #[], ep, h1, h2, h3, (fun e he => absurd he (by simp)), .nil, by simp⟩
def rIn2 (K : PySem.W.Frag) (neg : Bool) : R2 := fun x y H Q =>
  (∃ d ds, Dp K H x d ∧ (Dp K H y (.list ds) ∨ Dp K H y (.tuple ds)) ∧ SeqAt.shaped d = true ∧ PyData.canLayAll0 ds = true ∧ Q (.bl (neg != ds.any fun z => PyData.eqv z d)) H) ∨
  (∃ a o, y = .ref a ∧ DGet2 H a x o ∧ Q (.bl (neg != o.isSome)) H) ∨
  (∃ (c : Nat) (z : Str), x = .str ⟨#[c]⟩ ∧ y = .str z ∧ Q (.bl (neg != decide (c ∈ z.cps.toList))) H)
section
variable {X : Cx}
theorem op_in2 (hu : X.A.units + 100 < cLine) : OpR X (compareOp .In) (rIn2 X.K false) := by
  intro pins s σ H x y v u Q I rx ry h
  rcases h with ⟨d, ds, hd, he, sd, se, q⟩ | ⟨a, o, rfl, g, q⟩ | ⟨c, z, rfl, rfl, q⟩
  · obtain ⟨as, r1⟩ := Dp.reads I d x v hd rx
    rw [Bool.false_bne] at q
    rcases he with he | he
    · obtain ⟨bs, r2⟩ := Dp.reads I (.list ds) y u he ry
      exact SeqAt.in_list_reads r2 r1 se (SeqAt.canLay_of_shaped sd) (PyProof.Rows.room_in_shaped sd (by omega)) ⟨.bl _, H, I, rfl, q⟩
    · obtain ⟨bs, r2⟩ := Dp.reads I (.tuple ds) y u he ry
      exact SeqAt.in_tuple_reads r2 r1 se (SeqAt.canLay_of_shaped sd) (PyProof.Rows.room_in_shaped sd (by omega)) ⟨.bl _, H, I, rfl, q⟩
  · rw [Bool.false_bne] at q
    cases ry
    rcases g with g | ⟨e, rfl, b, k, rfl, eb⟩ | ⟨e, rfl, k, rfl⟩
    · exact d_in (by omega) I g rx fun s' I' => ⟨.bl _, H, I', rfl, q⟩
    · obtain ⟨hd, dd⟩ := empK I.hok e
      cases rx
      refine wpAny_in_heap (tupleKind_room_in1 (by omega)) (key_of I.hok eb) hd dd ?_
      exact ⟨.bl _, H, I.tok _, rfl, q⟩
    · obtain ⟨hd, dd⟩ := empT I.hok e
      refine wpAny_in_of (kV_is rx) hd dd.mapOf ?_
      exact ⟨.bl _, H, I.tok _, rfl, q⟩
  · rw [Bool.false_bne] at q
    exact op_in_sign pins s σ H _ _ v u Q I rx ry ⟨c, z, rfl, rfl, q⟩
theorem op_notIn2 (hu : X.A.units + 100 < cLine) : OpR X (compareOp .NotIn) (rIn2 X.K true) := by
  intro pins s σ H x y v u Q I rx ry h
  rcases h with ⟨d, ds, hd, he, sd, se, q⟩ | ⟨a, o, rfl, g, q⟩ | ⟨c, z, rfl, rfl, q⟩
  · obtain ⟨as, r1⟩ := Dp.reads I d x v hd rx
    rw [Bool.true_bne] at q
    rcases he with he | he
    · obtain ⟨bs, r2⟩ := Dp.reads I (.list ds) y u he ry
      exact SeqAt.notIn_list_reads r2 r1 se (SeqAt.canLay_of_shaped sd) (PyProof.Rows.room_in_shaped sd (by omega)) ⟨.bl _, H, I, rfl, q⟩
    · obtain ⟨bs, r2⟩ := Dp.reads I (.tuple ds) y u he ry
      exact SeqAt.notIn_tuple_reads r2 r1 se (SeqAt.canLay_of_shaped sd) (PyProof.Rows.room_in_shaped sd (by omega)) ⟨.bl _, H, I, rfl, q⟩
  · rw [Bool.true_bne] at q
    cases ry
    rcases g with g | ⟨e, rfl, b, k, rfl, eb⟩ | ⟨e, rfl, k, rfl⟩
    · exact d_notIn (by omega) I g rx fun s' I' => ⟨.bl _, H, I', rfl, q⟩
    · obtain ⟨hd, dd⟩ := empK I.hok e
      cases rx
      refine PyProof.Rows.wpAny_notIn_heap (tupleKind_room_in1 (by omega)) (key_of I.hok eb) hd dd ?_
      exact ⟨.bl _, H, I.tok _, rfl, q⟩
    · obtain ⟨hd, dd⟩ := empT I.hok e
      refine wpAny_notIn_of (kV_is rx) hd dd.mapOf ?_
      exact ⟨.bl _, H, I.tok _, rfl, q⟩
  · rw [Bool.true_bne] at q
    exact op_notIn_sign pins s σ H _ _ v u Q I rx ry ⟨c, z, rfl, rfl, q⟩
end
section
variable {K : PySem.W.Frag} {F F' : Fz T} {H H' : Hp} {v : V}
theorem getK_some {kvs : List (D × D)} {k : D} : (getK kvs k).isSome = inKeys kvs k := by
  unfold getK inKeys
  rw [Option.isSome_map]
  induction kvs with
  | nil => rfl
  | cons kv r ih =>
    rw [List.find?_cons, List.any_cons]
    cases keyEq kv.1 k with
    | true => rfl
    | false => exact ih
theorem dget {x y : V} {kx : D} {kvs : List (D × D)} (s : Sub F H) (cx : Cont K F H x kx) (cy : Cont K F H y (.dct kvs)) (hk : isKey kx = true) (hkind : kindK kvs kx = true) :
    ∃ a o, y = .ref a ∧ DGet2 H a x o ∧ RelD K F o (getK kvs kx) := by
  obtain ⟨_, a, rfl, hd⟩ := cy.dct s
  have flat : ∀ k : Key, kx = keyD k → x = kV k → ∃ (a' : Addr) (o : Option V), V.ref a = .ref a' ∧ DGet2 H a' x o ∧ RelD K F o (getK kvs kx) := fun k e1 e2 => by
    subst e1 e2
    rcases hd with ⟨w, hw, r⟩ | ⟨w, hw, r⟩
    · exact ⟨a, _, rfl, .inl (.inl ⟨_, k, hw, rfl, rfl⟩), r.val k⟩
    · cases r with
      | nil => exact ⟨a, none, rfl, .inr (.inr ⟨hw, rfl, k, rfl⟩), trivial⟩
      | @cons k' _ _ _ _ r t => cases k <;> simp [kindK, keyT, keyD] at hkind
  cases kx with
  | int i => exact flat (.inl i) rfl cx.int
  | str z => exact flat (.inr z) rfl cx.str
  | tup ds =>
    obtain ⟨b, xs, rfl, hb, r1, _, _⟩ := cx.tup s
    have hk : (keysOf? ds).isSome = true := hk
    obtain ⟨ks, hks⟩ := Option.isSome_iff_exists.mp hk
    have e1 := keysOf_some hks
    subst e1
    have e2 := r1.keys
    subst e2
    rcases hd with ⟨w, hw, r⟩ | ⟨w, hw, r⟩
    · cases r with
      | nil => exact ⟨a, none, rfl, .inr (.inl ⟨hw, rfl, b, ks, rfl, hb⟩), trivial⟩
      | @cons k' _ _ _ _ r t => cases k' <;> simp [kindK, keyD] at hkind
    · exact ⟨a, _, rfl, .inl (.inr ⟨_, ks, b, hw, rfl, hb, rfl⟩), r.val ks⟩
  | _ => cases hk
def dInO (neg : Bool) (a b : D) : Option O := (dIn a b).map fun c => bO (neg != c)
theorem opd_in (neg : Bool) : OpD K (rIn2 K neg) (dInO neg) := fun x y a b o F H Q s ca cb eo q => by
  unfold dInO dIn at eo
  split at eo
  · split at eo
    · rename_i ys h
      cases eo
      have c2 := cb.dp s h.2
      rw [pyD] at c2
      have l2 := SeqAt.canLay_of_shaped h.2
      have l3 : PyData.canLayAll0 (pyDs ys) = true := by simpa [pyD, PyData.canLay0] using l2
      exact .inl ⟨_, _, ca.dp s h.1, .inl c2, h.1, l3, q _ F H (.refl s) (.bl _)⟩
    · cases eo
  · split at eo
    · rename_i ys h
      cases eo
      have c2 := cb.dp s h.2
      rw [pyD] at c2
      have l2 := SeqAt.canLay_of_shaped h.2
      have l3 : PyData.canLayAll0 (pyDs ys) = true := by simpa [pyD, PyData.canLay0] using l2
      exact .inl ⟨_, _, ca.dp s h.1, .inr c2, h.1, l3, q _ F H (.refl s) (.bl _)⟩
    · cases eo
  · split at eo
    · rename_i h
      cases eo
      obtain ⟨p, w, rfl, g, r⟩ := dget s ca cb h.1 h.2
      refine .inr (.inl ⟨p, w, rfl, g, ?_⟩)
      rw [r.isSome, getK_some]
      exact q _ F H (.refl s) (.bl _)
    · cases eo
  · rename_i x z
    obtain rfl := ca.str
    obtain rfl := cb.str
    split at eo
    · rename_i c e
      cases eo
      have e3 : x = ⟨#[c]⟩ := by
        obtain ⟨⟨l⟩⟩ := x
        have e : l = [c] := e
        subst e; rfl
      subst e3
      exact .inr (.inr ⟨c, z, rfl, rfl, q _ F H (.refl s) (.bl _)⟩)
    · cases eo
  · cases eo
end
def dCmp : CmpOp → D → D → Option O
  | .Eq => dEq
  | .NotEq => dNe
  | .Lt => dLt
  | .LtE => dLe
  | .Gt => dGt
  | .GtE => dGe
  | .Is => dIs
  | .IsNot => dIsNot
  | .In => dInO false
  | .NotIn => dInO true
theorem cmp_ok {X : Cx} (hu : X.A.units + 100 < cLine) (op : CmpOp) : ∃ r, OpR X (compareOp op) r ∧ OpD X.K r (dCmp op) := by
  cases op with
  | Eq => exact ⟨_, op_eqD (by omega), opd_eq⟩
  | NotEq => exact ⟨_, op_neD (by omega), opd_ne⟩
  | Lt => exact ⟨_, op_ltD hu, opd_lt⟩
  | LtE => exact ⟨_, op_le.or (op_leT (by omega)), opd_le⟩
  | Gt => exact ⟨_, op_gt, opd_gt⟩
  | GtE => exact ⟨_, op_ge, opd_ge⟩
  | Is => exact ⟨_, op_isD, opd_is⟩
  | IsNot => exact ⟨_, op_isNotD, opd_isNot⟩
  | In => exact ⟨_, op_in2 hu, opd_in false⟩
  | NotIn => exact ⟨_, op_notIn2 hu, opd_in true⟩
end Pd

set_option Elab.async false
set_option linter.all false
set_option maxRecDepth 100000
set_option maxHeartbeats 1000000
namespace Pd
open PySem PySem.Spec L2

def CallD (K : PySem.W.Frag) (r : List V → Hp → VK → Prop) (f : List D → Option O) : Prop :=
  ∀ {T : List (Addr × Str)} (xs : List V) (ds : List D) (o : O) (F : Fz T) (H : Hp) (Q : VK), Sub F H → Conts K F H xs ds → f ds = some o → (∀ v F' H', Grow F H F' H' → ORep K H F' H' v o → Q v H') → r xs H Q
theorem CallD.or {K : PySem.W.Frag} {r r' : List V → Hp → VK → Prop} {f f' f'' : List D → Option O} (h : CallD K r f) (h' : CallD K r' f') (e : ∀ ds o, f'' ds = some o → f ds = some o ∨ f' ds = some o) : CallD K (fun xs H Q => r xs H Q ∨ r' xs H Q) f'' :=
  fun xs ds o F H Q s cs eo q => by
    rcases e ds o eo with e | e
    · exact .inl (h xs ds o F H Q s cs e q)
    · exact .inr (h' xs ds o F H Q s cs e q)
theorem Conts.one {K : PySem.W.Frag} {F H : Hp} {xs : List V} {d : D} (h : Conts K F H xs [d]) : ∃ x, xs = [x] ∧ Cont K F H x d := by
  cases h with
  | cons c t => cases t; exact ⟨_, rfl, c⟩
theorem Conts.two {K : PySem.W.Frag} {F H : Hp} {xs : List V} {d e : D} (h : Conts K F H xs [d, e]) : ∃ x y, xs = [x, y] ∧ Cont K F H x d ∧ Cont K F H y e := by
  cases h with
  | cons c t =>
    obtain ⟨y, rfl, c2⟩ := t.one
    exact ⟨_, y, rfl, c, c2⟩

def intsOf : List D → Option (List Int)
  | [] => some []
  | .int i :: r => (intsOf r).map fun l => i :: l
  | _ => none
def blsOf : List D → Option (List Bool)
  | [] => some []
  | .bl i :: r => (blsOf r).map fun l => i :: l
  | _ => none
def strsOf : List D → Option (List Str)
  | [] => some []
  | .str i :: r => (strsOf r).map fun l => i :: l
  | _ => none
theorem intsOf_some : ∀ {ds : List D} {ns : List Int}, intsOf ds = some ns → ds = ns.map D.int
  | [], ns, h => by cases h; rfl
  | d :: r, ns, h => by
    cases d <;> simp [intsOf] at h
    obtain ⟨l, hl, rfl⟩ := h
    rw [intsOf_some hl]; rfl
theorem blsOf_some : ∀ {ds : List D} {ns : List Bool}, blsOf ds = some ns → ds = ns.map D.bl
  | [], ns, h => by cases h; rfl
  | d :: r, ns, h => by
    cases d <;> simp [blsOf] at h
    obtain ⟨l, hl, rfl⟩ := h
    rw [blsOf_some hl]; rfl
@[simp] theorem intsOf_map (ns : List Int) : intsOf (ns.map D.int) = some ns := by
  induction ns with
  | nil => rfl
  | cons n r ih => simp [intsOf, ih]
@[simp] theorem blsOf_map (ns : List Bool) : blsOf (ns.map D.bl) = some ns := by
  induction ns with
  | nil => rfl
  | cons n r ih => simp [blsOf, ih]
@[simp] theorem strsOf_map (ns : List Str) : strsOf (ns.map D.str) = some ns := by
  induction ns with
  | nil => rfl
  | cons n r ih => simp [strsOf, ih]

def maxL : List Int → Int
  | [] => 0
  | [x] => x
  | x :: r => max x (maxL r)
def minL : List Int → Int
  | [] => 0
  | [x] => x
  | x :: r => min x (minL r)
theorem maxL_mem : ∀ {ns : List Int}, ns ≠ [] → maxL ns ∈ ns ∧ ∀ y ∈ ns, y ≤ maxL ns
  | [], h => absurd rfl h
  | [x], _ => by simp [maxL]
  | x :: y :: r, _ => by
    have ih := maxL_mem (ns := y :: r) (by simp)
    show max x (maxL (y :: r)) ∈ _ ∧ ∀ z ∈ _, z ≤ max x (maxL (y :: r))
    generalize maxL (y :: r) = m at ih
    refine ⟨?_, fun z hz => ?_⟩
    · rcases Int.le_total x m with h | h
      · rw [Int.max_eq_right h]; exact List.mem_cons_of_mem _ ih.1
      · rw [Int.max_eq_left h]; exact List.mem_cons_self
    · rcases List.mem_cons.mp hz with rfl | hz
      · omega
      · have := ih.2 z hz; omega
theorem minL_mem : ∀ {ns : List Int}, ns ≠ [] → minL ns ∈ ns ∧ ∀ y ∈ ns, minL ns ≤ y
  | [], h => absurd rfl h
  | [x], _ => by simp [minL]
  | x :: y :: r, _ => by
    have ih := minL_mem (ns := y :: r) (by simp)
    show min x (minL (y :: r)) ∈ _ ∧ ∀ z ∈ _, min x (minL (y :: r)) ≤ z
    generalize minL (y :: r) = m at ih
    refine ⟨?_, fun z hz => ?_⟩
    · rcases Int.le_total x m with h | h
      · rw [Int.min_eq_left h]; exact List.mem_cons_self
      · rw [Int.min_eq_right h]; exact List.mem_cons_of_mem _ ih.1
    · rcases List.mem_cons.mp hz with rfl | hz
      · omega
      · have := ih.2 z hz; omega
def insL (x : Int) : List Int → List Int
  | [] => [x]
  | y :: r => if x ≤ y then x :: y :: r else y :: insL x r
def sortL : List Int → List Int
  | [] => []
  | x :: r => insL x (sortL r)
theorem insL_perm (x : Int) : ∀ l : List Int, (insL x l).Perm (x :: l)
  | [] => .refl _
  | y :: r => by
    unfold insL
    split
    · exact .refl _
    · exact ((insL_perm x r).cons y).trans (.swap x y r)
theorem sortL_perm : ∀ l : List Int, (sortL l).Perm l
  | [] => .refl _
  | x :: r => (insL_perm x _).trans ((sortL_perm r).cons x)
theorem insL_sorted (x : Int) : ∀ {l : List Int}, l.Pairwise (· ≤ ·) → (insL x l).Pairwise (· ≤ ·)
  | [], _ => List.pairwise_singleton _ _
  | y :: r, h => by
    unfold insL
    have h' := List.pairwise_cons.mp h
    split
    · rename_i hxy
      refine List.pairwise_cons.mpr ⟨fun z hz => ?_, h⟩
      rcases List.mem_cons.mp hz with rfl | hz
      · exact hxy
      · exact Int.le_trans hxy (h'.1 z hz)
    · rename_i hxy
      refine List.pairwise_cons.mpr ⟨fun z hz => ?_, insL_sorted x h'.2⟩
      rcases List.mem_cons.mp ((insL_perm x r).mem_iff.mp hz) with rfl | hz
      · omega
      · exact h'.1 z hz
theorem sortL_sorted : ∀ l : List Int, (sortL l).Pairwise (· ≤ ·)
  | [] => .nil
  | x :: r => insL_sorted x (sortL_sorted r)
theorem sorted_unique : ∀ {a b : List Int}, a.Perm b → a.Pairwise (· ≤ ·) → b.Pairwise (· ≤ ·) → a = b
  | [], b, p, _, _ => by
    have := p.length_eq
    cases b with
    | nil => rfl
    | cons => simp at this
  | x :: a, [], p, _, _ => by have := p.length_eq; simp at this
  | x :: a, y :: b, p, ha, hb => by
    have ha' := List.pairwise_cons.mp ha
    have hb' := List.pairwise_cons.mp hb
    have e : x = y := by
      have h1 : x ∈ y :: b := p.mem_iff.mp List.mem_cons_self
      have h2 : y ∈ x :: a := p.mem_iff.mpr List.mem_cons_self
      rcases List.mem_cons.mp h1 with h | h
      · exact h
      · rcases List.mem_cons.mp h2 with h2 | h2
        · exact h2.symm
        · exact Int.le_antisymm (ha'.1 y h2) (hb'.1 x h)
    subst e
    rw [sorted_unique (List.Perm.cons_inv p) ha'.2 hb'.2]
theorem sortL_eq {ns ns' : List Int} (p : ns'.Perm ns) (h : ns'.Pairwise (· ≤ ·)) : ns' = sortL ns :=
  sorted_unique (p.trans (sortL_perm ns).symm) h (sortL_sorted ns)

def fLen : List D → Option O
  | [.lst xs] => some (.v (.int xs.length))
  | [.tup xs] => some (.v (.int xs.length))
  | [.scr xs] => some (.v (.int xs.length))
  | [.str x] => if x.length ≤ line then some (.v (.int x.length)) else none
  | [.dct xs] => some (.v (.int xs.length))
  | _ => none
def fAbs : List D → Option O
  | [.int i] => some (.v (.int (if i < 0 then -i else i)))
  | _ => none
def fMax : List D → Option O
  | [.int i, .int j] => some (.v (.int (if j > i then j else i)))
  | [.lst ds] => (intsOf ds).bind fun ns => if ns = [] then none else some (.v (.int (maxL ns)))
  | _ => none
def fMin : List D → Option O
  | [.int i, .int j] => some (.v (.int (if j < i then j else i)))
  | [.lst ds] => (intsOf ds).bind fun ns => if ns = [] then none else some (.v (.int (minL ns)))
  | _ => none
def fSum : List D → Option O
  | [.lst ds] => (intsOf ds).map fun ns => .v (.int ns.sum)
  | _ => none
def fAny : List D → Option O
  | [.lst ds] => (blsOf ds).map fun bs => .v (.bl (bs.any id))
  | _ => none
def fAll : List D → Option O
  | [.lst ds] => (blsOf ds).map fun bs => .v (.bl (bs.all id))
  | _ => none
def fInt : List D → Option O
  | [.int i] => some (.v (.int i))
  | [.bl b] => some (.v (.int (if b then 1 else 0)))
  | _ => none
def fStr : List D → Option O
  | [.int i] => if i.natAbs.log2 < 1920 then some (.v (.str (toString i))) else none
  | _ => none
def fTuple : List D → Option O
  | [.lst ds] => some (.v (.tup ds))
  | [.tup ds] => some (.v (.tup ds))
  | _ => none
def fList : List D → Option O
  | [.lst ds] => some (.o (.lst ds))
  | [.tup ds] => some (.o (.lst ds))
  | _ => none
def tyName : D → Option String
  | .non => some "NoneType"
  | .bl _ => some "bool"
  | .int _ => some "int"
  | .str _ => some "str"
  | .lst _ => some "list"
  | .tup _ => some "tuple"
  | .dct _ => some "dict"
  | .scr _ => some "list"
  | _ => none
def isTy : String → String → Bool
  | "bool", "int" => true
  | a, b => a == b
def fIsi : List D → Option O
  | [x, .ty n] => (tyName x).bind fun m => if n ∈ ["int", "bool", "str", "tuple", "list", "dict"] then some (.v (.bl (isTy m n))) else none
  | _ => none
section
variable {K : PySem.W.Frag} {F F' : Fz T} {H H' : Hp} {v : V}
theorem Cont.sqL {ds : List D} (c : Cont K F H v (.lst ds)) (s : Sub F H) : ∃ a xs, v = .ref a ∧ SqL K H a xs ∧ Reps K F xs ds ∧ ds.length ≤ sizeLine := by
  obtain ⟨a, xs, e, h, r, l⟩ := c.lst s
  exact ⟨a, xs, e, .of h, r, l⟩
def rLenK : List V → Hp → VK → Prop := fun xs H Q => ∃ (p : Addr) (kvs : List (Key × V)), xs = [.ref p] ∧ Rd H p (.dK kvs) ∧ Q (.int kvs.length) H
def rLenT2 : List V → Hp → VK → Prop := fun xs H Q => ∃ (p : Addr) (kvs : List (List Key × V)), xs = [.ref p] ∧ Rd H p (.dT kvs) ∧ Q (.int kvs.length) H
def rLen (K : PySem.W.Frag) : List V → Hp → VK → Prop := fun xs H Q => (∃ x n, xs = [x] ∧ LenV K x H n ∧ Q (.int n) H) ∨ rLenK xs H Q ∨ rLenT2 xs H Q
theorem call_lenK {X : Cx} : CallR X (.builtin "len") rLenK := by
  intro pins s σ H xs us Q I r h
  obtain ⟨p, kvs, rfl, e, q⟩ := h
  rw [Vals.ref1 r]
  exact d_len I e fun t s' I' => ⟨.int kvs.length, H, I', ⟨t, rfl⟩, q⟩
theorem call_lenT2 {X : Cx} : CallR X (.builtin "len") rLenT2 := by
  intro pins s σ H xs us Q I r h
  obtain ⟨p, kvs, rfl, e, q⟩ := h
  rw [Vals.ref1 r]
  obtain ⟨z, hd, ys, rel, dd⟩ := dt_rd I.hok e
  have hl : kvs.length = ys.length := Paired.length rel
  refine PySem.call_len_dictH hd dd (by rw [← hl]; rw [line_eq] at z; unfold line at z; omega) ?_
  rw [← hl]
  exact ⟨.int kvs.length, H, I.tok _, ⟨_, rfl⟩, q⟩
theorem call_lenD {X : Cx} : CallR X (.builtin "len") (rLen X.K) := call_len.or (call_lenK.or call_lenT2)
theorem cd_len : CallD K (rLen K) fLen := fun xs ds o F H Q s cs eo q => by
  unfold fLen at eo
  split at eo
  · cases eo
    obtain ⟨x, rfl, c⟩ := cs.one
    obtain ⟨a, ys, rfl, h, r, _⟩ := c.lst s
    exact .inl ⟨_, _, rfl, .inl ⟨ys, .of h, rfl⟩, by rw [r.length]; exact q _ F H (.refl s) (.int _)⟩
  · cases eo
    obtain ⟨x, rfl, c⟩ := cs.one
    obtain ⟨a, ys, rfl, h, r, _⟩ := c.tup s
    exact .inl ⟨_, _, rfl, .inr ⟨ys, .of h, rfl⟩, by rw [r.length]; exact q _ F H (.refl s) (.int _)⟩
  · cases eo
    obtain ⟨x, rfl, c⟩ := cs.one
    obtain ⟨a, rfl, h, _⟩ := c.scr s
    exact .inl ⟨_, _, rfl, .inl ⟨_, h, rfl⟩, by rw [List.length_map]; exact q _ F H (.refl s) (.int _)⟩
  · split at eo
    · rename_i h
      cases eo
      obtain ⟨x, rfl, c⟩ := cs.one
      obtain rfl := c.str
      exact .inl ⟨_, _, rfl, ⟨by rw [line_eq]; exact h, rfl⟩, q _ F H (.refl s) (.int _)⟩
    · cases eo
  · cases eo
    obtain ⟨x, rfl, c⟩ := cs.one
    obtain ⟨l, a, rfl, hd⟩ := c.dct s
    rcases hd with ⟨w, hw, r⟩ | ⟨w, hw, r⟩
    · exact .inr (.inl ⟨a, w, rfl, hw, by rw [r.length]; exact q _ F H (.refl s) (.int _)⟩)
    · exact .inr (.inr ⟨a, w, rfl, hw, by rw [r.length]; exact q _ F H (.refl s) (.int _)⟩)
  · cases eo
theorem cd_abs : CallD K (fun xs H Q => ∃ i, xs = [.int i] ∧ Q (.int (if i < 0 then -i else i)) H) fAbs := fun xs ds o F H Q s cs eo q => by
  unfold fAbs at eo
  split at eo
  · cases eo
    obtain ⟨x, rfl, c⟩ := cs.one
    obtain rfl := c.int
    exact ⟨_, rfl, q _ F H (.refl s) (.int _)⟩
  · cases eo
def rMaxD (K : PySem.W.Frag) : List V → Hp → VK → Prop := fun xs H Q => (∃ i j, xs = [.int i, .int j] ∧ Q (.int (if j > i then j else i)) H) ∨ rMax K xs H Q
def rMinD (K : PySem.W.Frag) : List V → Hp → VK → Prop := fun xs H Q => (∃ i j, xs = [.int i, .int j] ∧ Q (.int (if j < i then j else i)) H) ∨ rMin K xs H Q
theorem call_maxD {X : Cx} (hc : X.calm = true) : CallR X (.builtin "max") (rMaxD X.K) := (call_max2 hc).or (cr_max hc)
theorem call_minD {X : Cx} (hc : X.calm = true) : CallR X (.builtin "min") (rMinD X.K) := (call_min2 hc).or (cr_min hc)
theorem cd_max : CallD K (rMaxD K) fMax := fun xs ds o F H Q s cs eo q => by
  unfold fMax at eo
  split at eo
  · cases eo
    obtain ⟨x, y, rfl, c1, c2⟩ := cs.two
    obtain rfl := c1.int
    obtain rfl := c2.int
    exact .inl ⟨_, _, rfl, q _ F H (.refl s) (.int _)⟩
  · rename_i ds
    obtain ⟨x, rfl, c⟩ := cs.one
    cases e : intsOf ds with
    | none => rw [e] at eo; cases eo
    | some ns =>
      rw [e, Option.bind_some] at eo
      split at eo
      · cases eo
      · rename_i hne
        cases eo
        obtain rfl := intsOf_some e
        obtain ⟨a, ys, rfl, h, r, _⟩ := c.sqL s
        obtain rfl := r.ints_of
        have m0 := maxL_mem hne
        refine .inr ⟨a, ns, rfl, h, List.length_pos_iff.mpr hne, fun m hm hb => ?_⟩
        have e2 : m = maxL ns := Int.le_antisymm (m0.2 m hm) (hb _ m0.1)
        rw [e2]
        exact q _ F H (.refl s) (.int _)
  · cases eo
theorem cd_min : CallD K (rMinD K) fMin := fun xs ds o F H Q s cs eo q => by
  unfold fMin at eo
  split at eo
  · cases eo
    obtain ⟨x, y, rfl, c1, c2⟩ := cs.two
    obtain rfl := c1.int
    obtain rfl := c2.int
    exact .inl ⟨_, _, rfl, q _ F H (.refl s) (.int _)⟩
  · rename_i ds
    obtain ⟨x, rfl, c⟩ := cs.one
    cases e : intsOf ds with
    | none => rw [e] at eo; cases eo
    | some ns =>
      rw [e, Option.bind_some] at eo
      split at eo
      · cases eo
      · rename_i hne
        cases eo
        obtain rfl := intsOf_some e
        obtain ⟨a, ys, rfl, h, r, _⟩ := c.sqL s
        obtain rfl := r.ints_of
        have m0 := minL_mem hne
        refine .inr ⟨a, ns, rfl, h, List.length_pos_iff.mpr hne, fun m hm hb => ?_⟩
        have e2 : m = minL ns := Int.le_antisymm (hb _ m0.1) (m0.2 m hm)
        rw [e2]
        exact q _ F H (.refl s) (.int _)
  · cases eo
theorem cd_sum : CallD K (rSum K) fSum := fun xs ds o F H Q s cs eo q => by
  unfold fSum at eo
  split at eo
  · rename_i ds
    obtain ⟨x, rfl, c⟩ := cs.one
    obtain ⟨ns, e, rfl⟩ := Option.map_eq_some_iff.mp eo
    obtain rfl := intsOf_some e
    obtain ⟨a, ys, rfl, h, r, _⟩ := c.sqL s
    obtain rfl := r.ints_of
    exact ⟨a, ns, rfl, h, q _ F H (.refl s) (.int _)⟩
  · cases eo
theorem cd_any : CallD K (rAny K) fAny := fun xs ds o F H Q s cs eo q => by
  unfold fAny at eo
  split at eo
  · rename_i ds
    obtain ⟨x, rfl, c⟩ := cs.one
    obtain ⟨ns, e, rfl⟩ := Option.map_eq_some_iff.mp eo
    obtain rfl := blsOf_some e
    obtain ⟨a, ys, rfl, h, r, _⟩ := c.sqL s
    obtain rfl := r.bls_of
    exact ⟨a, ns, rfl, h, q _ F H (.refl s) (.bl _)⟩
  · cases eo
theorem cd_all : CallD K (rAll K) fAll := fun xs ds o F H Q s cs eo q => by
  unfold fAll at eo
  split at eo
  · rename_i ds
    obtain ⟨x, rfl, c⟩ := cs.one
    obtain ⟨ns, e, rfl⟩ := Option.map_eq_some_iff.mp eo
    obtain rfl := blsOf_some e
    obtain ⟨a, ys, rfl, h, r, _⟩ := c.sqL s
    obtain rfl := r.bls_of
    exact ⟨a, ns, rfl, h, q _ F H (.refl s) (.bl _)⟩
  · cases eo
theorem cd_int : CallD K (fun xs H Q => (∃ i, xs = [.int i] ∧ Q (.int i) H) ∨ ∃ k, xs = [.bl k] ∧ Q (.int (if k then 1 else 0)) H) fInt := fun xs ds o F H Q s cs eo q => by
  unfold fInt at eo
  split at eo
  · cases eo
    obtain ⟨x, rfl, c⟩ := cs.one
    obtain rfl := c.int
    exact .inl ⟨_, rfl, q _ F H (.refl s) (.int _)⟩
  · cases eo
    obtain ⟨x, rfl, c⟩ := cs.one
    obtain rfl := c.bl
    exact .inr ⟨_, rfl, q _ F H (.refl s) (.int _)⟩
  · cases eo
theorem cd_str : CallD K (fun xs H Q => ∃ i : Int, xs = [.int i] ∧ i.natAbs.log2 < 1920 ∧ Q (.str (toString i)) H) fStr := fun xs ds o F H Q s cs eo q => by
  unfold fStr at eo
  split at eo
  · split at eo
    · rename_i h
      cases eo
      obtain ⟨x, rfl, c⟩ := cs.one
      obtain rfl := c.int
      exact ⟨_, rfl, h, q _ F H (.refl s) (.str _)⟩
    · cases eo
  · cases eo
theorem cd_tuple : CallD K (fun xs H Q => ∃ p ys, xs = [.ref p] ∧ ((SqL K H p ys ∧ ∀ l, H l = none → Q (.ref l) (upd H l (.tup ys))) ∨ (SqT K H p ys ∧ Q (.ref p) H))) fTuple := fun xs ds o F H Q s cs eo q => by
  unfold fTuple at eo
  split at eo
  · cases eo
    obtain ⟨x, rfl, c⟩ := cs.one
    obtain ⟨a, ys, rfl, h, r, l⟩ := c.sqL s
    refine ⟨a, ys, rfl, .inl ⟨h, fun z hz => ?_⟩⟩
    obtain ⟨g, r⟩ := new_tup s hz r l
    exact q _ _ _ g r
  · cases eo
    obtain ⟨x, rfl, c⟩ := cs.one
    obtain ⟨a, ys, rfl, h, r, l, r0⟩ := c.tup s
    exact ⟨a, ys, rfl, .inr ⟨.of h, q _ F H (.refl s) r0⟩⟩
  · cases eo
theorem cd_list : CallD K (fun xs H Q => ∃ p ys, xs = [.ref p] ∧ (SqL K H p ys ∨ SqT K H p ys) ∧ ∀ l, H l = none → Q (.ref l) (upd H l (.lst ys))) fList := fun xs ds o F H Q s cs eo q => by
  unfold fList at eo
  split at eo
  · cases eo
    obtain ⟨x, rfl, c⟩ := cs.one
    obtain ⟨a, ys, rfl, h, r, l⟩ := c.sqL s
    refine ⟨a, ys, rfl, .inl h, fun z hz => ?_⟩
    obtain ⟨g, r⟩ := new_lst s hz r l
    exact q _ _ _ g r
  · cases eo
    obtain ⟨x, rfl, c⟩ := cs.one
    obtain ⟨a, ys, rfl, h, r, l, r0⟩ := c.tup s
    refine ⟨a, ys, rfl, .inr (.of h), fun z hz => ?_⟩
    obtain ⟨g, r⟩ := new_lst s hz r l
    exact q _ _ _ g r
  · cases eo
theorem tyX_of {x : D} {m : String} (c : Cont K F H v x) (s : Sub F H) (e : tyName x = some m) : TyX K H v (.type m) ∨ ∃ a o kvs, v = .ref a ∧ H a = some (.frz o (.dT kvs)) ∧ m = "dict" := by
  cases x with
  | non => cases e; obtain rfl := c.non; exact .inl (.base .non)
  | bl b => cases e; obtain rfl := c.bl; exact .inl (.base (.bl _))
  | int b => cases e; obtain rfl := c.int; exact .inl (.base (.int _))
  | str b => cases e; obtain rfl := c.str; exact .inl (.base (.str _))
  | lst ds => cases e; obtain ⟨a, ys, rfl, h, _⟩ := c.lst s; exact .inl (.base (.lst h))
  | tup ds => cases e; obtain ⟨a, ys, rfl, h, _⟩ := c.tup s; exact .inl (.base (.tup h))
  | dct ds =>
    cases e
    obtain ⟨_, a, rfl, hd⟩ := c.dct s
    rcases hd with ⟨w, hw, r⟩ | ⟨w, hw, r⟩
    · rcases hw with hw | ⟨o, hw⟩
      · exact .inl (.base (.dK hw))
      · exact .inl (.fDict hw)
    · rcases hw with hw | ⟨o, hw⟩
      · exact .inl (.base (.dT hw))
      · exact .inr ⟨a, o, w, rfl, hw, rfl⟩
  | scr ns =>
    cases e
    obtain ⟨a, rfl, h, _⟩ := c.scr s
    rcases h with (h | ⟨o, h⟩) | ⟨o, its, n, hk, hc, _⟩
    · exact .inl (.base (.lst h))
    · exact .inl (.base (.frz h))
    · exact .inl (.kList hk hc)
  | _ => cases e
def rIsi2 (K : PySem.W.Frag) : List V → Hp → VK → Prop := fun xs H Q => rIsi K xs H Q ∨ ∃ (a : Addr) (o : Obj) (kvs : List (List Key × V)) (n : String) (b : Bool), xs = [.ref a, .ty n] ∧ H a = some (.frz o (.dT kvs)) ∧ PySem.W.kitOne K (.type "dict") (.type n) = some b ∧ Q (.bl b) H
theorem call_isi2 {X : Cx} : CallR X (.builtin "isinstance") (rIsi2 X.K) := by
  refine call_isi.or ?_
  intro pins s σ H xs us Q I r h
  obtain ⟨a, ob, kvs, n, b, rfl, ea, e, q⟩ := h
  obtain ⟨u1, u2, rfl, r1, r2⟩ := vals2 r
  cases r1
  cases r2
  obtain ⟨_, _, _, vs, _, o, es, ep, h1, h2, _⟩ := (show ObjOk X.prog X.w H s.heap a (.frz ob (.dT kvs)) from I.hok a _ ea)
  exact PySem.W.kia_one PySem.W.kitx_dict I.kIn ⟨o, h1, h2.1⟩ e (fun z => nomatch z) fun tk => ⟨.bl b, H, I.tok tk, rfl, q⟩
theorem kit_all : ∀ m ∈ ["NoneType", "bool", "int", "str", "list", "tuple", "dict"], ∀ n ∈ ["int", "bool", "str", "tuple", "list", "dict"], kitB m n = some (isTy m n) := by decide +kernel
theorem tyName_mem {x : D} {m : String} (e : tyName x = some m) : m ∈ ["NoneType", "bool", "int", "str", "list", "tuple", "dict"] := by
  cases x <;> simp [tyName] at e <;> subst e <;> simp
theorem cd_isi : CallD K (rIsi2 K) fIsi := fun xs ds o F H Q s cs eo q => by
  unfold fIsi at eo
  split at eo
  · rename_i x n
    obtain ⟨x1, y1, rfl, c1, c2⟩ := cs.two
    cases e : tyName x with
    | none => rw [e] at eo; cases eo
    | some m =>
      rw [e, Option.bind_some] at eo
      split at eo
      · rename_i hn
        cases eo
        obtain rfl := c2.ty
        rcases tyX_of c1 s e with ty | ⟨a, ob, kvs, rfl, ha, rfl⟩
        · exact .inl ⟨_, _, _, _, _, rfl, .ty n, ty, kit_ty (kit_all m (tyName_mem e) n hn), q _ F H (.refl s) (.bl _)⟩
        · exact .inr ⟨a, ob, kvs, n, _, rfl, ha, kit_ty (kit_all _ (tyName_mem e) n hn), q _ F H (.refl s) (.bl _)⟩
      · cases eo
  · cases eo
end
end Pd

set_option Elab.async false
set_option linter.all false
set_option maxRecDepth 100000
set_option maxHeartbeats 1000000
namespace Pd
open PySem PySem.Spec L2

def isStar : PySem.Expr → Bool
  | .Starred .. => true
  | _ => false
theorem star_cons {e : PySem.Expr} {es : List PySem.Expr} {env : Env} (h : isStar e = false) : starEach (e :: es) env = (false, eval e env) :: starEach es env := by
  cases e <;> first | rfl | cases h
theorem star_plain {pos : Pos} {env : Env} : ∀ {es : List PySem.Expr}, es.all (fun e => !isStar e) = true → (backTo pos (starEach es env)).any (·.1) = false
  | [], _ => rfl
  | e :: es, h => by
    have h' : isStar e = false ∧ es.all (fun e => !isStar e) = true := by simpa using h
    rw [star_cons h'.1]
    show (false || (backTo pos (starEach es env)).any (·.1)) = false
    rw [star_plain h'.2]; rfl
theorem star_few {pos : Pos} {env : Env} : ∀ {es : List PySem.Expr}, es.all (fun e => !isStar e) = true → (backTo pos (starEach es env)).all (fun x => !x.1) = true
  | [], _ => rfl
  | e :: es, h => by
    have h' : isStar e = false ∧ es.all (fun e => !isStar e) = true := by simpa using h
    rw [star_cons h'.1]
    show (true && (backTo pos (starEach es env)).all (fun x => !x.1)) = true
    rw [star_few h'.2]; rfl
def isSuper : PySem.Expr → Bool
  | .Call (.Name id _) [] [] _ => id == ("super" : Str)
  | _ => false
theorem attr_base {o : PySem.Expr} {m : Str} {env : Env} {w : Sem Value} (h : isSuper o = false) : attributeBase o m env w = w := by
  unfold attributeBase
  split
  · rename_i id p pos
    have h : (id == ("super" : Str)) = false := h
    have h2 : (id != ("super" : Str)) = true := by rw [bne, h]; rfl
    simp only [h2, Bool.true_or, if_true]
  · rfl
def isSlice : PySem.Expr → Bool
  | .Slice .. => true
  | _ => false
theorem plain_ix {b : PySem.Expr} (h : isSlice b = false) : PlainIx b := fun o i => by
  cases b <;> first | rfl | cases h
def isLogic : PySem.Expr → Bool
  | .UnaryOp .Not _ _ => true
  | .BoolOp .. => true
  | .IfExp .. => true
  | .Compare .. => true
  | _ => false
theorem test_plain {e : PySem.Expr} {env : Env} (h : isLogic e = false) : ∀ whole, isTrue e env whole = (do let v ← whole; standAt e.pos; holding [v] (truthy v)) := fun whole => by
  cases e with
  | UnaryOp op x p => cases op <;> first | rfl | cases h
  | _ => first | rfl | cases h
def isSetE : PySem.Expr → Bool
  | .Set .. => true
  | _ => false
theorem behind_of {op : CmpOp} {e : PySem.Expr} (h : isSetE e = false) : behindInMarks op e = false := by
  cases e <;> first | rfl | cases h
theorem lastMarks_of {op op' : CmpOp} {b c : PySem.Expr} (h : isSetE c = false) : lastMarks [op, op'] [b, c] = false := by
  show lastMarks [op'] [c] = false
  exact behind_of h
theorem folded_of {e : PySem.Expr} {env : Env} (h : isSetE e = false) : ∀ x, foldedSetIterable e env x = pure x := fun x => by
  unfold foldedSetIterable
  cases e <;> first | rfl | cases h
def isComp : PySem.Expr → Bool
  | .ListComp .. => true
  | .SetComp .. => true
  | .DictComp .. => true
  | _ => false
theorem swaps_of {e : PySem.Expr} {t : Option PySem.Expr} {l : Nat} {env : Env} (h : isComp e = false) : swapsWith e t l env = pure false := by
  unfold swapsWith
  cases e <;> first | rfl | cases h

section
variable (X : Cx) (E : Ex T)
def SE (e : PySem.Expr) (f : Gm → R O) : Prop := ∃ t, PE X e t ∧ GE X.K X.mg E t f
def SR (e : PySem.Expr) (f : Gm → R D) : Prop := ∃ t, PE X e t ∧ GR X.K X.mg E t f
def SV (e : PySem.Expr) (f : Gm → R D) : Prop := ∃ t, PE X e t ∧ GV X.K X.mg E t f
def ST (e : PySem.Expr) (f : Gm → R Bool) : Prop := ∃ t, PT X e t ∧ GT X.K X.mg E t f
def SA (es : List PySem.Expr) (f : Gm → R (List D)) : Prop := ∃ t, PA X es t ∧ GA X.K X.mg E t f
def SI (es : List PySem.Expr) (f : Gm → R (List D)) : Prop := ∃ t, PA X es t ∧ GI X.K X.mg E t f
end
section
variable {X : Cx} {E : Ex T} {e a b c : PySem.Expr} {es : List PySem.Expr} {pos : Pos}
theorem SE.none : SE X E e (fun _ => .stuck) := ⟨fun _ _ _ => False, ⟨fun _ _ _ _ _ _ h => h.elim⟩, fun _ _ _ _ _ _ _ _ h => h⟩
theorem SR.none : SR X E e (fun _ => .stuck) := ⟨fun _ _ _ => False, ⟨fun _ _ _ _ _ _ h => h.elim⟩, fun _ _ _ _ _ _ _ _ h => h⟩
theorem ST.none : ST X E e (fun _ => .stuck) := ⟨fun _ _ _ => False, ⟨fun _ _ _ _ _ _ h => h.elim⟩, fun _ _ _ _ _ _ _ _ h => h⟩
theorem SA.none : SA X E es (fun _ => .stuck) := ⟨fun _ _ _ => False, ⟨fun _ _ _ _ _ _ _ h => h.elim⟩, fun _ _ _ _ _ _ _ _ h => h⟩
theorem SI.none : SI X E es (fun _ => .stuck) := ⟨fun _ _ _ => False, ⟨fun _ _ _ _ _ _ _ h => h.elim⟩, fun _ _ _ _ _ _ _ _ h => h⟩
def rd (f : Gm → R O) : Gm → R D := fun Γ => (f Γ).bind fun o => .ok o.d
def vl (f : Gm → R O) : Gm → R D := fun Γ => (f Γ).bind O.val
theorem SE.read {f : Gm → R O} (h : SE X E e f) : SR X E e (rd f) := let ⟨t, p, g⟩ := h; ⟨t, p, GE.read g⟩
theorem SE.val {f : Gm → R O} (h : SE X E e f) : SV X E e (vl f) := let ⟨t, p, g⟩ := h; ⟨t, p, GE.val g⟩
def eC (d : D) : Gm → R O := fun _ => .ok (.v d)
theorem ge_C {v : V} {d : D} (h : ∀ F, Rep X.K F v d) : GE X.K X.mg E (tC v) (eC d) := fun Γ F0 H0 F H σ Q I q => q v F H (.refl I.sub) (h F)
def constD : Const → Option D
  | .none => some .non
  | .bool b => some (.bl b)
  | .int i => some (.int i)
  | .str s => some (.str s)
  | _ => none
def eConst (c : Const) : Gm → R O := match constD c with
  | some d => eC d
  | none => fun _ => .stuck
theorem se_const {c : Const} {k : Nat} : SE X E (.Constant c k pos) (eConst c) := by
  cases c with
  | none => exact ⟨_, pe_non, ge_C fun _ => .non⟩
  | bool b => exact ⟨_, pe_bl, ge_C fun _ => .bl b⟩
  | int b => exact ⟨_, pe_int, ge_C fun _ => .int b⟩
  | str b => exact ⟨_, pe_str, ge_C fun _ => .str b⟩
  | _ => exact SE.none
def eVar (i : Nat) : Gm → R O := fun Γ => match Γ[i]? with
  | some (.val d) => .ok (.v d)
  | _ => .stuck
def rVar (i : Nat) : Gm → R D := fun Γ => match Γ[i]? with
  | some (.val d) => .ok d
  | some (.own d) => .ok d
  | some (.bor d) => .ok d
  | _ => .stuck
theorem getD_some {σ : L2.St} {i : Nat} {v : V} (h : σ.getD i none = some v) : σ[i]? = some (some v) := by
  rw [List.getD_eq_getElem?_getD] at h
  cases e : σ[i]? with
  | none => rw [e] at h; cases h
  | some o => rw [e] at h; rw [show o = some v from h]
theorem ge_var {i : Nat} : GE X.K X.mg E (tVar i) (eVar i) := fun Γ F0 H0 F H σ Q I q => by
  unfold eVar at q
  cases e : Γ[i]? with
  | none => rw [e] at q; exact q.elim
  | some s =>
    rw [e] at q
    cases s with
    | val d =>
      obtain ⟨v, ev, r⟩ := I.slot i _ e
      exact ⟨v, getD_some ev, q v F H (.refl I.sub) r⟩
    | _ => exact q.elim
theorem gr_var {i : Nat} : GR X.K X.mg E (tVar i) (rVar i) := fun Γ F0 H0 F H σ Q I q => by
  unfold rVar at q
  cases e : Γ[i]? with
  | none => rw [e] at q; exact q.elim
  | some s =>
    rw [e] at q
    cases s with
    | val d =>
      obtain ⟨v, ev, r⟩ := I.slot i _ e
      exact ⟨v, getD_some ev, q v F H (.refl I.sub) (.rep r)⟩
    | own d =>
      obtain ⟨p, ev, n0, nF, r⟩ := I.slot i _ e
      exact ⟨_, getD_some ev, q _ F H (.refl I.sub) (.own r)⟩
    | bor d =>
      obtain ⟨p, ev, r⟩ := I.slot i _ e
      exact ⟨_, getD_some ev, q _ F H (.refl I.sub) (.own (r.ext (Same.refl _) I.hH))⟩
    | un => exact q.elim
section
variable {i : Nat} {x : Str}
theorem se_var (hN : X.N[i]? = some x) (hv : Vis X.env.scope x) (hd : (x == ("__debug__" : Str)) = false) (hcd : (x == ("__classdict__" : Str)) = false) : SE X E (.Name x pos) (eVar i) := ⟨_, pe_var hN hv hd hcd, ge_var⟩
theorem sr_var (hN : X.N[i]? = some x) (hv : Vis X.env.scope x) (hd : (x == ("__debug__" : Str)) = false) (hcd : (x == ("__classdict__" : Str)) = false) : SR X E (.Name x pos) (rVar i) := ⟨_, pe_var hN hv hd hcd, gr_var⟩
end
theorem se_bin {op : Operator} {fa fb : Gm → R D} (ha : SR X E a fa) (hb : SR X E b fb) : SE X E (.BinOp a op b pos) (e2 (dBin op) fa fb) := by
  obtain ⟨ta, pa, ga⟩ := ha
  obtain ⟨tb, pb, gb⟩ := hb
  obtain ⟨r, ho, hd⟩ := bin_ok (X := X) op
  exact ⟨_, pe_op ho pa pb, ge_op hd ga gb⟩
theorem se_cmp {op : CmpOp} {fa fb : Gm → R D} (hu : X.A.units + 100 < cLine) (ha : SR X E a fa) (hb : SR X E b fb) (hs : isSetE b = false) : SE X E (.Compare a [op] [b] pos) (e2 (dCmp op) fa fb) := by
  obtain ⟨ta, pa, ga⟩ := ha
  obtain ⟨tb, pb, gb⟩ := hb
  obtain ⟨r, ho, hd⟩ := cmp_ok (X := X) hu op
  exact ⟨_, pe_cmpR ho pa pb (behind_of hs), ge_op hd ga gb⟩
def isB (f : Gm → R O) : Gm → R Bool := fun Γ => (f Γ).bind fun o => match o with
  | .v (.bl b) => .ok b
  | _ => .stuck
theorem gt_of_ge {t : TE} {f : Gm → R O} (h : GE X.K X.mg E t f) : GT X.K X.mg E (tTest t) (isB f) := fun Γ F0 H0 F H σ Q I p =>
  h Γ F0 H0 F H σ _ I (R.post_imp (R.post_bind p) fun o q v F' H' g r => by
    cases o with
    | v d =>
      cases d with
      | bl b =>
        cases (show Rep X.K F' v (.bl b) from r)
        exact ⟨b, rfl, q F' H' g⟩
      | _ => exact q.elim
    | o d => exact q.elim)
theorem st_cmp {op : CmpOp} {fa fb : Gm → R D} (hu : X.A.units + 100 < cLine) (ha : SR X E a fa) (hb : SR X E b fb) (hs : isSetE b = false) : ST X E (.Compare a [op] [b] pos) (isB (e2 (dCmp op) fa fb)) := by
  obtain ⟨ta, pa, ga⟩ := ha
  obtain ⟨tb, pb, gb⟩ := hb
  obtain ⟨r, ho, hd⟩ := cmp_ok (X := X) hu op
  exact ⟨_, pt_cmpR ho pa pb (behind_of hs), gt_of_ge (ge_op hd ga gb)⟩
def e3 (op op' : D → D → Option O) (fa fb fc : Gm → R D) : Gm → R O := fun Γ => (fa Γ).bind fun a => (fb Γ).bind fun b => match op a b with
  | some (.v (.bl true)) => (fc Γ).bind fun c => R.of (op' b c)
  | some (.v (.bl false)) => .ok (.v (.bl false))
  | _ => .stuck
theorem ge_chain {r r' : R2} {op op' : D → D → Option O} {ta tb tc : TE} {fa fb fc : Gm → R D} (h : OpD X.K r op) (h' : OpD X.K r' op') (ha : GR X.K X.mg E ta fa) (hb : GR X.K X.mg E tb fb) (hc : GR X.K X.mg E tc fc) : GE X.K X.mg E (tChain r r' ta tb tc) (e3 op op' fa fb fc) := fun Γ F0 H0 F H σ Q I p =>
  ha Γ F0 H0 F H σ _ I (R.post_imp (R.post_bind p) fun a p1 x F1 H1 g1 c1 =>
    hb Γ F0 H0 F1 H1 σ _ (I.grow g1) (R.post_mono (R.post_bind p1) (fun b _ p2 y F2 H2 g2 c2 => by
      have g12 := g1.trans g2
      cases eo : op a b with
      | none => rw [eo] at p2; exact p2.elim
      | some o =>
        rw [eo] at p2
        refine h x y a b o F2 H2 _ g2.sub (c1.grow g2) c2 eo fun v F3 H3 g3 r3 => ?_
        have g13 := g12.trans g3
        cases o with
        | o d => exact p2.elim
        | v d =>
          cases d with
          | bl k =>
            cases (show Rep X.K F3 v (.bl k) from r3)
            refine ⟨k, rfl, ?_⟩
            cases k with
            | false => exact p2 _ F3 H3 g13 (.bl false)
            | true =>
              rw [if_pos rfl]
              refine hc Γ F0 H0 F3 H3 σ _ (I.grow g13) (R.post_mono (R.post_bind p2) (fun c _ p3 z F4 H4 g4 c4 => ?_) fun n e => e.on g13)
              obtain ⟨o', eo', q⟩ := of_post p3
              exact h' y z b c o' F4 H4 Q g4.sub ((c2.grow g3).grow g4) c4 eo' fun v F5 H5 g5 r5 => q v F5 H5 ((g13.trans g4).trans g5) (r5.back (g13.trans g4).hh)
          | _ => exact p2.elim) fun n e => e.on g1))
theorem se_chain {op op' : CmpOp} {fa fb fc : Gm → R D} (hu : X.A.units + 100 < cLine) (ha : SR X E a fa) (hb : SR X E b fb) (hc : SR X E c fc) (hs : isSetE c = false) : SE X E (.Compare a [op, op'] [b, c] pos) (e3 (dCmp op) (dCmp op') fa fb fc) := by
  obtain ⟨ta, pa, ga⟩ := ha
  obtain ⟨tb, pb, gb⟩ := hb
  obtain ⟨tc, pc, gc⟩ := hc
  obtain ⟨r, ho, hd⟩ := cmp_ok (X := X) hu op
  obtain ⟨r', ho', hd'⟩ := cmp_ok (X := X) hu op'
  exact ⟨_, pe_chain ho ho' pa pb pc (lastMarks_of hs), ge_chain hd hd' ga gb gc⟩
def truD : D → Option Bool
  | .non => some false
  | .bl b => some b
  | .int i => some (i != 0)
  | .str y => if y.length ≤ line then some ((y.length : Int) != 0) else none
  | .lst ds => some (!ds.isEmpty)
  | .tup ds => some (!ds.isEmpty)
  | _ => none
theorem empty_len {α β : Type} {xs : List α} {ds : List β} (e : xs.length = ds.length) : xs.isEmpty = ds.isEmpty := by
  cases xs <;> cases ds <;> first | rfl | simp at e
theorem tru_of {F : Fz T} {H : Hp} {v : V} {d : D} {k : Bool} (cv : Cont X.K F H v d) (s : Sub F H) (e : truD d = some k) : TruV X.K v H k := by
  cases d with
  | non => obtain rfl := cv.non; cases e; exact rfl
  | bl b => obtain rfl := cv.bl; cases e; exact rfl
  | int b => obtain rfl := cv.int; cases e; exact rfl
  | str y =>
    obtain rfl := cv.str
    have e : (if y.length ≤ line then some ((y.length : Int) != 0) else none) = some k := e
    split at e
    · rename_i h; cases e; exact ⟨by rw [line_eq]; exact h, rfl⟩
    · cases e
  | lst ds =>
    obtain ⟨p, xs, rfl, h, r, _⟩ := cv.lst s
    cases e
    exact .inl ⟨xs, .of h, by rw [empty_len r.length]⟩
  | tup ds =>
    obtain ⟨p, xs, rfl, h, r, _⟩ := cv.tup s
    cases e
    exact .inr (.inl ⟨xs, .of h, by rw [empty_len r.length]⟩)
  | _ => cases e
def tTru (f : Gm → R D) : Gm → R Bool := fun Γ => (f Γ).bind fun d => R.of (truD d)
theorem st_truth {f : Gm → R D} (h : SR X E e f) (hl : isLogic e = false) : ST X E e (tTru f) := by
  obtain ⟨t, p, g⟩ := h
  refine ⟨_, pt_truth p (test_plain hl), fun Γ F0 H0 F H σ Q I q => ?_⟩
  refine g Γ F0 H0 F H σ _ I (R.post_imp (R.post_bind q) fun d q v F' H' gr c => ?_)
  obtain ⟨k, ek, q⟩ := of_post q
  exact ⟨k, tru_of c gr.sub ek, q F' H' gr⟩
def tNotF (f : Gm → R Bool) : Gm → R Bool := fun Γ => (f Γ).bind fun b => .ok (!b)
theorem st_not {f : Gm → R Bool} (h : ST X E a f) : ST X E (.UnaryOp .Not a pos) (tNotF f) := by
  obtain ⟨t, p, g⟩ := h
  exact ⟨_, pt_not p, fun Γ F0 H0 F H σ Q I q => g Γ F0 H0 F H σ _ I (R.post_bind q)⟩
def tAndF : List (Gm → R Bool) → Gm → R Bool
  | [] => fun _ => .stuck
  | [f] => f
  | f :: r => fun Γ => (f Γ).bind fun b => if b = true then tAndF r Γ else .ok false
def tOrF : List (Gm → R Bool) → Gm → R Bool
  | [] => fun _ => .stuck
  | [f] => f
  | f :: r => fun Γ => (f Γ).bind fun b => if b = true then .ok true else tOrF r Γ
inductive STs (X : Cx) (E : Ex T) : List PySem.Expr → List (Gm → R Bool) → Prop where
  | nil : STs X E [] []
  | cons {e es f fs} : ST X E e f → STs X E es fs → STs X E (e :: es) (f :: fs)
theorem gt_or {t u : TT} {f g : Gm → R Bool} (h : GT X.K X.mg E t f) (h' : GT X.K X.mg E u g) : GT X.K X.mg E (tOr t u) (fun Γ => (f Γ).bind fun b => if b = true then .ok true else g Γ) := fun Γ F0 H0 F H σ Q I q =>
  h Γ F0 H0 F H σ _ I (R.post_imp (R.post_bind q) fun b q F' H' gr => by
    cases b with
    | true => exact q F' H' gr
    | false => exact h' Γ F0 H0 F' H' σ Q (I.grow gr) (R.post_mono q (fun b _ q F2 H2 g2 => q F2 H2 (gr.trans g2)) fun n e => e.on gr))
theorem sw_or (pos : Pos) : ∀ {es : List PySem.Expr} {fs : List (Gm → R Bool)}, STs X E es fs → es ≠ [] → ∃ t, PW X (.BoolOp .Or es pos) t ∧ GT X.K X.mg E t (tOrF fs)
  | _, _, .nil, h => absurd rfl h
  | _, _, .cons ⟨t, p, g⟩ .nil, _ => ⟨t, pw_or1 p, g⟩
  | _, _, .cons ⟨t, p, g⟩ (.cons h2 r), _ => by
    obtain ⟨u, pu, gu⟩ := sw_or pos (.cons h2 r) (by simp)
    exact ⟨_, pw_or p pu, gt_or g gu⟩
theorem st_or {fs : List (Gm → R Bool)} (h : STs X E es fs) (hn : es ≠ []) : ST X E (.BoolOp .Or es pos) (tOrF fs) := let ⟨t, p, g⟩ := sw_or pos h hn; ⟨t, p.pt, g⟩
inductive SEs (X : Cx) (E : Ex T) : List PySem.Expr → List (Gm → R O) → Prop where
  | nil : SEs X E [] []
  | cons {e es f fs} : SE X E e f → SEs X E es fs → SEs X E (e :: es) (f :: fs)
def vAndF : List (Gm → R O) → Gm → R O
  | [] => fun _ => .stuck
  | [f] => f
  | f :: r => fun Γ => (f Γ).bind fun o => (R.of (truD o.d)).bind fun k => if k = true then vAndF r Γ else .ok o
def vOrF : List (Gm → R O) → Gm → R O
  | [] => fun _ => .stuck
  | [f] => f
  | f :: r => fun Γ => (f Γ).bind fun o => (R.of (truD o.d)).bind fun k => if k = true then .ok o else vOrF r Γ
theorem ge_andT {t u : TE} {f g : Gm → R O} (h : GE X.K X.mg E t f) (h' : GE X.K X.mg E u g) : GE X.K X.mg E (tAndT X.K t u) (fun Γ => (f Γ).bind fun o => (R.of (truD o.d)).bind fun k => if k = true then g Γ else .ok o) := fun Γ F0 H0 F H σ Q I q =>
  h Γ F0 H0 F H σ _ I (R.post_imp (R.post_bind q) fun o q v F' H' gr r => by
    obtain ⟨k, ek, q⟩ := of_post (R.post_bind q)
    refine ⟨k, tru_of r.cont gr.sub ek, ?_⟩
    cases k with
    | true => exact h' Γ F0 H0 F' H' σ Q (I.grow gr) (R.post_mono q (fun b _ q w F2 H2 g2 r2 => q w F2 H2 (gr.trans g2) (r2.back gr.hh)) fun n e => e.on gr)
    | false => exact q v F' H' gr r)
theorem se_and (pos : Pos) : ∀ {es : List PySem.Expr} {fs : List (Gm → R O)}, SEs X E es fs → es ≠ [] → SE X E (.BoolOp .And es pos) (vAndF fs)
  | _, _, .nil, h => absurd rfl h
  | _, _, .cons ⟨t, p, g⟩ .nil, _ => ⟨t, pe_one p, g⟩
  | _, _, .cons ⟨t, p, g⟩ (.cons h2 r), _ => by
    obtain ⟨u, pu, gu⟩ := se_and pos (.cons h2 r) (by simp)
    exact ⟨_, pe_andT p pu, ge_andT g gu⟩
def eNot (f : Gm → R D) : Gm → R O := fun Γ => (f Γ).bind fun d => (R.of (truD d)).bind fun k => .ok (.v (.bl (!k)))
theorem se_not {f : Gm → R D} (h : SR X E a f) : SE X E (.UnaryOp .Not a pos) (eNot f) := by
  obtain ⟨t, p, g⟩ := h
  refine ⟨_, pe_notT p, fun Γ F0 H0 F H σ Q I q => g Γ F0 H0 F H σ _ I (R.post_imp (R.post_bind q) fun d q v F' H' gr c => ?_)⟩
  obtain ⟨k, ek, q⟩ := of_post (R.post_bind q)
  exact ⟨k, tru_of c gr.sub ek, q _ F' H' gr (.bl _)⟩
def eNeg (f : Gm → R D) : Gm → R O := fun Γ => (f Γ).bind fun d => match d with
  | .int i => .ok (.v (.int (-i)))
  | _ => .stuck
theorem se_neg {f : Gm → R D} (h : SR X E a f) : SE X E (.UnaryOp .USub a pos) (eNeg f) := by
  obtain ⟨t, p, g⟩ := h
  refine ⟨_, pe_un un_neg p, fun Γ F0 H0 F H σ Q I q => g Γ F0 H0 F H σ _ I (R.post_imp (R.post_bind q) fun d q v F' H' gr c => ?_)⟩
  cases d with
  | int i =>
    obtain rfl := c.int
    exact ⟨i, rfl, q _ F' H' gr (.int _)⟩
  | _ => exact q.elim
def eIf (c : Gm → R Bool) (f g : Gm → R O) : Gm → R O := fun Γ => (c Γ).bind fun b => if b = true then f Γ else g Γ
theorem se_if {fc : Gm → R Bool} {f g : Gm → R O} (hc : ST X E c fc) (ha : SE X E a f) (hb : SE X E b g) : SE X E (.IfExp c a b pos) (eIf fc f g) := by
  obtain ⟨tc, pc, gc⟩ := hc
  obtain ⟨ta, pa, ga⟩ := ha
  obtain ⟨tb, pb, gb⟩ := hb
  refine ⟨_, pe_ifExp pc pa pb, fun Γ F0 H0 F H σ Q I q => gc Γ F0 H0 F H σ _ I (R.post_imp (R.post_bind q) fun b q F' H' gr => ?_)⟩
  cases b with
  | true => exact ga Γ F0 H0 F' H' σ Q (I.grow gr) (R.post_mono q (fun b _ q w F2 H2 g2 r2 => q w F2 H2 (gr.trans g2) (r2.back gr.hh)) fun n e => e.on gr)
  | false => exact gb Γ F0 H0 F' H' σ Q (I.grow gr) (R.post_mono q (fun b _ q w F2 H2 g2 r2 => q w F2 H2 (gr.trans g2) (r2.back gr.hh)) fun n e => e.on gr)
def seqR {α : Type} : List (Gm → R α) → Gm → R (List α)
  | [] => fun _ => .ok []
  | f :: r => fun Γ => (f Γ).bind fun a => (seqR r Γ).bind fun as => .ok (a :: as)
inductive SRs (X : Cx) (E : Ex T) : List PySem.Expr → List (Gm → R D) → Prop where
  | nil : SRs X E [] []
  | cons {e es f fs} : SR X E e f → isStar e = false → SRs X E es fs → SRs X E (e :: es) (f :: fs)
inductive SVs (X : Cx) (E : Ex T) : List PySem.Expr → List (Gm → R D) → Prop where
  | nil : SVs X E [] []
  | cons {e es f fs} : SV X E e f → isStar e = false → SVs X E es fs → SVs X E (e :: es) (f :: fs)
theorem SRs.plain : ∀ {es : List PySem.Expr} {fs : List (Gm → R D)}, SRs X E es fs → es.all (fun e => !isStar e) = true
  | _, _, .nil => rfl
  | _, _, .cons _ h r => by simpa [h] using SRs.plain r
theorem SVs.plain : ∀ {es : List PySem.Expr} {fs : List (Gm → R D)}, SVs X E es fs → es.all (fun e => !isStar e) = true
  | _, _, .nil => rfl
  | _, _, .cons _ h r => by simpa [h] using SVs.plain r
theorem sa_of : ∀ {es : List PySem.Expr} {fs : List (Gm → R D)}, SRs X E es fs → SA X E es (seqR fs)
  | _, _, .nil => ⟨_, pa_nil, fun Γ F0 H0 F H σ Q I q => q [] F H (.refl I.sub) .nil⟩
  | _, _, .cons ⟨t, p, g⟩ hs r => by
    obtain ⟨u, pu, gu⟩ := sa_of r
    refine ⟨_, pa_cons p pu (star_cons hs), fun Γ F0 H0 F H σ Q I q => ?_⟩
    refine g Γ F0 H0 F H σ _ I (R.post_imp (R.post_bind q) fun d q v F' H' gr c => ?_)
    refine gu Γ F0 H0 F' H' σ _ (I.grow gr) (R.post_mono (R.post_bind q) (fun ds _ q vs F2 H2 g2 cs => q _ F2 H2 (gr.trans g2) (.cons (c.grow g2) cs)) fun n e => e.on gr)
theorem si_of : ∀ {es : List PySem.Expr} {fs : List (Gm → R D)}, SVs X E es fs → SI X E es (seqR fs)
  | _, _, .nil => ⟨_, pa_nil, fun Γ F0 H0 F H σ Q I q => q [] F H (.refl I.sub) .nil⟩
  | _, _, .cons ⟨t, p, g⟩ hs r => by
    obtain ⟨u, pu, gu⟩ := si_of r
    refine ⟨_, pa_cons p pu (star_cons hs), fun Γ F0 H0 F H σ Q I q => ?_⟩
    refine g Γ F0 H0 F H σ _ I (R.post_imp (R.post_bind q) fun d q v F' H' gr c => ?_)
    refine gu Γ F0 H0 F' H' σ _ (I.grow gr) (R.post_mono (R.post_bind q) (fun ds _ q vs F2 H2 g2 cs => q _ F2 H2 (gr.trans g2) (.cons (c.mono g2.ff) cs)) fun n e => e.on gr)
def eTup (f : Gm → R (List D)) : Gm → R O := fun Γ => (f Γ).bind fun ds => if ds.length ≤ line then .ok (.v (.tup ds)) else .stuck
def eLst (f : Gm → R (List D)) : Gm → R O := fun Γ => (f Γ).bind fun ds => if ds.length ≤ line then .ok (.o (.lst ds)) else .stuck
theorem se_tup {k : Nat} {f : Gm → R (List D)} (h : SI X E es f) : SE X E (.Tuple es k pos) (eTup f) := by
  obtain ⟨t, p, g⟩ := h
  refine ⟨_, pe_tup p, fun Γ F0 H0 F H σ Q I q => g Γ F0 H0 F H σ _ I (R.post_imp (R.post_bind q) fun ds q vs F' H' gr rs => ?_)⟩
  split at q
  · rename_i hl
    refine ⟨by rw [rs.length, line_eq]; exact hl, fun z hz => ?_⟩
    obtain ⟨g', r'⟩ := new_tup gr.sub hz rs (by rw [line_eq]; exact hl)
    exact q _ _ _ (gr.trans g') (r'.back gr.hh)
  · exact q.elim
theorem se_lst {f : Gm → R (List D)} (h : SI X E es f) : SE X E (.List es pos) (eLst f) := by
  obtain ⟨t, p, g⟩ := h
  refine ⟨_, pe_lst p, fun Γ F0 H0 F H σ Q I q => g Γ F0 H0 F H σ _ I (R.post_imp (R.post_bind q) fun ds q vs F' H' gr rs => ?_)⟩
  split at q
  · rename_i hl
    refine ⟨by rw [rs.length, line_eq]; exact hl, fun z hz => ?_⟩
    obtain ⟨g', r'⟩ := new_lst gr.sub hz rs (by rw [line_eq]; exact hl)
    exact q _ _ _ (gr.trans g') (r'.back gr.hh)
  · exact q.elim
theorem se_dict0 : SE X E (.Dict [] [] pos) (fun _ => .ok (.o (.dct []))) :=
  ⟨_, pe_dnewK, fun Γ F0 H0 F H σ Q I q p hp => q (.ref p) F (upd H p (.dK [])) (.newO I.sub hp) ⟨p, rfl, .of hp, I.sub.free hp, .dctK upd_same .nil (Nat.zero_le _)⟩⟩
end
end Pd

set_option Elab.async false
set_option linter.all false
set_option maxRecDepth 100000
set_option maxHeartbeats 1000000
namespace Pd
open PySem PySem.Spec L2

def dIx : D → D → Option O
  | .lst ds, .int i => (atI ds i).map .v
  | .tup ds, .int i => (atI ds i).map .v
  | .scr ns, .int i => (atI ns i).map fun n => .v (.int n)
  | .str z, .int i => if z.length ≤ line then (atI z.cps.toList i).map fun c => .v (.str ⟨#[c]⟩) else none
  | .dct kvs, k => if isKey k = true ∧ kindK kvs k = true then (getK kvs k).map .v else none
  | _, _ => none
def rIxD (K : PySem.W.Frag) : R2 := fun x y H Q => rIx K x y H Q ∨ ∃ a v, x = .ref a ∧ DGet H a y (some v) ∧ Q v H
section
variable {X : Cx}
theorem ix_dict (hu : X.A.units + 1 < cLine) : IxR X (fun x y H Q => ∃ a v, x = .ref a ∧ DGet H a y (some v) ∧ Q v H) := by
  intro value slice pins s σ H x y v u Q I rx ry h hs
  obtain ⟨a, w, rfl, g, q⟩ := h
  cases rx
  exact PyProof.Rows.tail_any (dict_typeIs I g) PySem.F.slot_dict_getitem.lookup (d_getItem hu I g ry fun w' s' I' rw' => ⟨w, H, I', rw', q⟩) hs
theorem ix_D (hu : X.A.units + 1 < cLine) : IxR X (rIxD X.K) := ix_seq.or (ix_dict hu)
end
section
variable {K : PySem.W.Frag} {F F' : Fz T} {H H' : Hp} {v : V}
theorem Reps.atI {vs : List V} {ds : List D} {i : Int} {d : D} (r : Reps K F vs ds) (e : L2.atI ds i = some d) : ∃ v, L2.atI vs i = some v ∧ Rep K F v d := by
  unfold L2.atI at e ⊢
  rw [r.length]
  cases q : ixN ds.length i with
  | none => rw [q] at e; cases e
  | some j =>
    rw [q, Option.bind_some] at e
    obtain ⟨v, h1, h2⟩ := r.get e
    exact ⟨v, by rw [Option.bind_some]; exact h1, h2⟩
theorem atI_map {α β : Type} {f : α → β} {xs : List α} {i : Int} : atI (xs.map f) i = (atI xs i).map f := by
  unfold atI
  rw [List.length_map]
  cases ixN xs.length i with
  | none => rfl
  | some j => rw [Option.bind_some, Option.bind_some, List.getElem?_map]
theorem opd_ix : OpD K (rIxD K) dIx := fun x y a b o F H Q s ca cb eo q => by
  unfold dIx at eo
  split at eo
  · obtain ⟨d, e, rfl⟩ := Option.map_eq_some_iff.mp eo
    obtain ⟨p, xs, rfl, hp, r, _⟩ := ca.lst s
    obtain rfl := cb.int
    obtain ⟨w, e1, r1⟩ := r.atI e
    exact .inl (.inl ⟨p, xs, _, w, rfl, rfl, .of hp, e1, q w F H (.refl s) r1⟩)
  · obtain ⟨d, e, rfl⟩ := Option.map_eq_some_iff.mp eo
    obtain ⟨p, xs, rfl, hp, r, _⟩ := ca.tup s
    obtain rfl := cb.int
    obtain ⟨w, e1, r1⟩ := r.atI e
    exact .inl (.inr (.inl ⟨p, xs, _, w, rfl, rfl, .of hp, e1, q w F H (.refl s) r1⟩))
  · obtain ⟨d, e, rfl⟩ := Option.map_eq_some_iff.mp eo
    obtain ⟨p, rfl, hp, _⟩ := ca.scr s
    obtain rfl := cb.int
    exact .inl (.inl ⟨p, _, _, .int d, rfl, rfl, hp, by rw [atI_map, e]; rfl, q _ F H (.refl s) (.int _)⟩)
  · split at eo
    · rename_i hl
      obtain ⟨d, e, rfl⟩ := Option.map_eq_some_iff.mp eo
      obtain rfl := ca.str
      obtain rfl := cb.int
      exact .inl (.inr (.inr ⟨_, _, d, rfl, rfl, by rw [line_eq]; exact hl, e, q _ F H (.refl s) (.str _)⟩))
    · cases eo
  · split at eo
    · rename_i h
      obtain ⟨d, e, rfl⟩ := Option.map_eq_some_iff.mp eo
      obtain ⟨p, w, rfl, g, r⟩ := dget s cb ca h.1 h.2
      rw [e] at r
      cases w with
      | none => exact r.elim
      | some w =>
        rcases g with g | ⟨_, e2, _⟩ | ⟨_, e2, _⟩
        · exact .inr ⟨p, w, rfl, g, q w F H (.refl s) r⟩
        · cases e2
        · cases e2
    · cases eo
  · cases eo
end

def cutG {α : Type} (xs : List α) (lo hi : Option Int) : List α := (xs.drop (HT.sIx xs.length 0 lo)).take (HT.sIx xs.length xs.length hi - HT.sIx xs.length 0 lo)
def dSl : D → Option Int → Option Int → Option O
  | .lst ds, lo, hi => some (.o (.lst (cutG ds lo hi)))
  | .tup ds, lo, hi => some (.v (.tup (cutG ds lo hi)))
  | .str z, lo, hi => if z.length ≤ line then some (.v (.str ⟨(cutG z.cps.toList lo hi).toArray⟩)) else none
  | _, _, _ => none
def rSlD (K : PySem.W.Frag) : V → Option Int → Option Int → Hp → VK → Prop := fun x lo hi H Q => rSlL K x lo hi H Q ∨ rSlA K x lo hi H Q ∨ rSlS x lo hi H Q
section
variable {K : PySem.W.Frag} {F F' : Fz T} {H H' : Hp} {v : V}
end
section
variable {X : Cx} {E : Ex T} {e a b c : PySem.Expr} {es : List PySem.Expr} {pos p2 : Pos}
theorem se_ix {fa fb : Gm → R D} (hu : X.A.units + 1 < cLine) (ha : SR X E a fa) (hb : SR X E b fb) (hs : isSlice b = false) : SE X E (.Subscript a b pos) (e2 dIx fa fb) := by
  obtain ⟨ta, pa, ga⟩ := ha
  obtain ⟨tb, pb, gb⟩ := hb
  exact ⟨_, pe_ix (ix_D hu) pa pb (plain_ix hs), ge_op opd_ix ga gb⟩
def SO (X : Cx) (E : Ex T) (e : Option PySem.Expr) (f : Gm → R (Option Int)) : Prop := ∃ t, PO X e t ∧
  ∀ (Γ : Gm) (F0 : Fz T) (H0 : Hp) (F : Fz T) (H : Hp) (σ : L2.St) (Q : Option Int → Hp → Prop), EnvOk X.K F0 H0 F H σ Γ → (f Γ).post (fun i => ∀ F' H', Grow F H F' H' → Q i H') (Erp X.mg E F H) → t σ H Q
def noPart : Gm → R (Option Int) := fun _ => .ok none
def aPart (f : Gm → R D) : Gm → R (Option Int) := fun Γ => (f Γ).bind fun d => match d with
  | .int i => .ok (some i)
  | _ => .stuck
def eSl (fa : Gm → R D) (fl fh : Gm → R (Option Int)) : Gm → R O := fun Γ => (fa Γ).bind fun a => (fl Γ).bind fun lo => (fh Γ).bind fun hi => R.of (dSl a lo hi)
def bFn (x : Str) : Option (List D → Option O) :=
  if x = "len" then some fLen else if x = "abs" then some fAbs else if x = "max" then some fMax else if x = "min" then some fMin else if x = "sum" then some fSum
  else if x = "any" then some fAny else if x = "all" then some fAll else if x = "int" then some fInt else if x = "str" then some fStr else if x = "tuple" then some fTuple
  else if x = "list" then some fList else if x = "isinstance" then some fIsi else none
def BuiltinOk (X : Cx) (x : Str) (f : List D → Option O) : Prop :=
  (∃ id r, bootBuiltins x = some (.builtin id) ∧ CallR X (.builtin id) r ∧ CallD X.K r f) ∨ ∃ T r, bootBuiltins x = some (.type T) ∧ CallR X (.type T) r ∧ CallD X.K r f
theorem bFn_ok (hc : X.calm = true) {x : Str} {f : List D → Option O} (h : bFn x = some f) : BuiltinOk X x f ∧ x ≠ "__name__" ∧ (x == ("__debug__" : Str)) = false := by
  unfold bFn at h
  split at h
  · rename_i e; subst e; cases h
    exact ⟨.inl ⟨_, _, by decide +kernel, call_lenD, cd_len⟩, by decide, by decide⟩
  split at h
  · rename_i e; subst e; cases h
    exact ⟨.inl ⟨_, _, by decide +kernel, call_abs, cd_abs⟩, by decide, by decide⟩
  split at h
  · rename_i e; subst e; cases h
    exact ⟨.inl ⟨_, _, by decide +kernel, call_maxD hc, cd_max⟩, by decide, by decide⟩
  split at h
  · rename_i e; subst e; cases h
    exact ⟨.inl ⟨_, _, by decide +kernel, call_minD hc, cd_min⟩, by decide, by decide⟩
  split at h
  · rename_i e; subst e; cases h
    exact ⟨.inl ⟨_, _, by decide +kernel, cr_sum hc, cd_sum⟩, by decide, by decide⟩
  split at h
  · rename_i e; subst e; cases h
    exact ⟨.inl ⟨_, _, by decide +kernel, cr_any hc, cd_any⟩, by decide, by decide⟩
  split at h
  · rename_i e; subst e; cases h
    exact ⟨.inl ⟨_, _, by decide +kernel, cr_all hc, cd_all⟩, by decide, by decide⟩
  split at h
  · rename_i e; subst e; cases h
    exact ⟨.inr ⟨_, _, by decide +kernel, call_int1, cd_int⟩, by decide, by decide⟩
  split at h
  · rename_i e; subst e; cases h
    exact ⟨.inr ⟨_, _, by decide +kernel, call_str_int, cd_str⟩, by decide, by decide⟩
  split at h
  · rename_i e; subst e; cases h
    exact ⟨.inr ⟨_, _, by decide +kernel, call_tuple_of, cd_tuple⟩, by decide, by decide⟩
  split at h
  · rename_i e; subst e; cases h
    exact ⟨.inr ⟨_, _, by decide +kernel, call_list_of, cd_list⟩, by decide, by decide⟩
  split at h
  · rename_i e; subst e; cases h
    exact ⟨.inl ⟨_, _, by decide +kernel, call_isi2, cd_isi⟩, by decide, by decide⟩
  · cases h
def eCall (f : List D → Option O) (fa : Gm → R (List D)) : Gm → R O := fun Γ => (fa Γ).bind fun ds => R.of (f ds)
theorem ge_call {r : List V → Hp → VK → Prop} {f : List D → Option O} {t : TA} {fa : Gm → R (List D)} (h : CallD X.K r f) (ha : GA X.K X.mg E t fa) : GE X.K X.mg E (tCB r t) (eCall f fa) := fun Γ F0 H0 F H σ Q I q =>
  ha Γ F0 H0 F H σ _ I (R.post_imp (R.post_bind q) fun ds q vs F1 H1 g1 c1 => by
    obtain ⟨o, eo, q⟩ := of_post q
    exact h vs ds o F1 H1 Q g1.sub c1 eo fun w F2 H2 g2 r2 => q w F2 H2 (g1.trans g2) (r2.back g1.hh))
theorem se_call {x : Str} {p : Pos} {f : List D → Option O} {fs : List (Gm → R D)} (hb : BuiltinOk X x f) (hn : x ≠ "__name__") (hd : (x == ("__debug__" : Str)) = false) (hg : Gl X x) (hm : X.mg x = none) (ha : SRs X E (e :: es) fs) :
    SE X E (.Call (.Name x p) (e :: es) [] pos) (eCall f (seqR fs)) := by
  obtain ⟨t, pa, ga⟩ := sa_of ha
  have pl := ha.plain
  have hs : isStar e = false ∧ es.all (fun e => !isStar e) = true := by simpa using pl
  rcases hb with ⟨id, r, hv, hr, hcd⟩ | ⟨T, r, hv, hr, hcd⟩
  · exact ⟨_, pe_callB hr hg hm hv pa hn hd (star_cons hs.1) (star_plain hs.2), ge_call hcd ga⟩
  · exact ⟨_, pe_callTy hr hg hm hv pa hn hd (star_cons hs.1) (star_plain hs.2), ge_call hcd ga⟩
theorem se_type {x : Str} {n : String} (hg : Gl X x) (hm : X.mg x = none) (hv : bootBuiltins x = some (.type n)) (hn : x ≠ "__name__") (hd : (x == ("__debug__" : Str)) = false) : SE X E (.Name x pos) (eC (.ty n)) :=
  ⟨_, pe_bltn hg hm hv (v := .ty n) rfl hn hd, ge_C fun _ => .ty n⟩
theorem se_glob {x : Str} {u : Value} {v : V} {d : D} (hg : Gl X x) (hm : X.mg x = some u) (r : RelV v u) (hr : ∀ F, Rep X.K F v d) (hd : (x == ("__debug__" : Str)) = false) : SE X E (.Name x pos) (eC d) :=
  ⟨_, pe_glob hg hm r hd, ge_C hr⟩

def SlV (K : PySem.W.Frag) (F H : Hp) (v : V) : Sl → Prop
  | .val d => Rep K F v d
  | .bor d => ∃ p, v = .ref p ∧ OwnAt K F H p d
  | _ => False
inductive SlVs (K : PySem.W.Frag) (F H : Hp) : List V → List Sl → Prop where
  | nil : SlVs K F H [] []
  | cons {v : V} {s : Sl} {vs : List V} {ss : List Sl} : SlV K F H v s → SlVs K F H vs ss → SlVs K F H (v :: vs) (s :: ss)
theorem SlV.grow {K : PySem.W.Frag} {F F' : Fz T} {H H' : Hp} {v : V} {s : Sl} (h : SlV K F H v s) (g : Grow F H F' H') : SlV K F' H' v s := by
  cases s with
  | val d => exact Rep.mono g.ff h
  | bor d => obtain ⟨p, e, o⟩ := h; exact ⟨p, e, o.grow g⟩
  | _ => exact h
theorem SlVs.length {K : PySem.W.Frag} {F H : Hp} : ∀ {vs : List V} {ss : List Sl}, SlVs K F H vs ss → vs.length = ss.length
  | _, _, .nil => rfl
  | _, _, .cons _ t => by rw [List.length_cons, List.length_cons, SlVs.length t]
def GU (K : PySem.W.Frag) (mg : Str → Option Value) (E : Ex T) (t : TE) (f : Gm → R Sl) : Prop :=
  ∀ (Γ : Gm) (F0 : Fz T) (H0 : Hp) (F : Fz T) (H : Hp) (σ : L2.St) (Q : VK), EnvOk K F0 H0 F H σ Γ → (f Γ).post (fun s => ∀ v F' H', Grow F H F' H' → SlV K F' H' v s → Q v H') (Erp mg E F H) → t σ H Q
def SU (X : Cx) (E : Ex T) (e : PySem.Expr) (f : Gm → R Sl) : Prop := ∃ t, PE X e t ∧ GU X.K X.mg E t f
def uVal (f : Gm → R D) : Gm → R Sl := fun Γ => (f Γ).bind fun d => .ok (.val d)
def uVar (i : Nat) : Gm → R Sl := fun Γ => match Γ[i]? with
  | some (.val d) => .ok (.val d)
  | some (.own d) => .ok (.bor d)
  | some (.bor d) => .ok (.bor d)
  | _ => .stuck
theorem su_val {f : Gm → R D} (h : SV X E e f) : SU X E e (uVal f) := by
  obtain ⟨t, p, g⟩ := h
  exact ⟨t, p, fun Γ F0 H0 F H σ Q I q => g Γ F0 H0 F H σ _ I (R.post_imp (R.post_bind q) fun d q v F' H' gr r => q v F' H' gr r)⟩
theorem gu_var {i : Nat} : GU X.K X.mg E (tVar i) (uVar i) := fun Γ F0 H0 F H σ Q I q => by
  unfold uVar at q
  cases e : Γ[i]? with
  | none => rw [e] at q; exact q.elim
  | some s =>
    rw [e] at q
    cases s with
    | val d =>
      obtain ⟨v, ev, r⟩ := I.slot i _ e
      exact ⟨v, getD_some ev, q v F H (.refl I.sub) r⟩
    | own d =>
      obtain ⟨p, ev, n0, nF, r⟩ := I.slot i _ e
      exact ⟨_, getD_some ev, q _ F H (.refl I.sub) ⟨p, rfl, r⟩⟩
    | bor d =>
      obtain ⟨p, ev, r⟩ := I.slot i _ e
      exact ⟨_, getD_some ev, q _ F H (.refl I.sub) ⟨p, rfl, r.ext (Same.refl _) I.hH⟩⟩
    | un => exact q.elim
theorem su_var {i : Nat} {x : Str} (hN : X.N[i]? = some x) (hv : Vis X.env.scope x) (hd : (x == ("__debug__" : Str)) = false) (hcd : (x == ("__classdict__" : Str)) = false) : SU X E (.Name x pos) (uVar i) := ⟨_, pe_var hN hv hd hcd, gu_var⟩
inductive SUs (X : Cx) (E : Ex T) : List PySem.Expr → List (Gm → R Sl) → Prop where
  | nil : SUs X E [] []
  | cons {e es f fs} : SU X E e f → isStar e = false → SUs X E es fs → SUs X E (e :: es) (f :: fs)
theorem SUs.plain : ∀ {es : List PySem.Expr} {fs : List (Gm → R Sl)}, SUs X E es fs → es.all (fun e => !isStar e) = true
  | _, _, .nil => rfl
  | _, _, .cons _ h r => by simpa [h] using SUs.plain r
def GUs (K : PySem.W.Frag) (mg : Str → Option Value) (E : Ex T) (t : TA) (f : Gm → R (List Sl)) : Prop :=
  ∀ (Γ : Gm) (F0 : Fz T) (H0 : Hp) (F : Fz T) (H : Hp) (σ : L2.St) (Q : List V → Hp → Prop), EnvOk K F0 H0 F H σ Γ → (f Γ).post (fun ss => ∀ vs F' H', Grow F H F' H' → SlVs K F' H' vs ss → Q vs H') (Erp mg E F H) → t σ H Q
theorem sus_of : ∀ {es : List PySem.Expr} {fs : List (Gm → R Sl)}, SUs X E es fs → ∃ t, PA X es t ∧ GUs X.K X.mg E t (seqR fs)
  | _, _, .nil => ⟨_, pa_nil, fun Γ F0 H0 F H σ Q I q => q [] F H (.refl I.sub) .nil⟩
  | _, _, .cons ⟨t, p, g⟩ hs r => by
    obtain ⟨u, pu, gu⟩ := sus_of r
    refine ⟨_, pa_cons p pu (star_cons hs), fun Γ F0 H0 F H σ Q I q => ?_⟩
    refine g Γ F0 H0 F H σ _ I (R.post_imp (R.post_bind q) fun d q v F' H' gr c => ?_)
    exact gu Γ F0 H0 F' H' σ _ (I.grow gr) (R.post_mono (R.post_bind q) (fun ds _ q vs F2 H2 g2 cs => q _ F2 H2 (gr.trans g2) (.cons (c.grow g2) cs)) fun n e => e.on gr)
def spOf (K : PySem.W.Frag) (mg : Str → Option Value) (n : Nat) (φ : List Sl → R O) : Sp := fun vs H Q E => vs.length = n ∧ ∃ (T : List (Addr × Str)) (F : Fz T) (ss : List Sl), Sub F H ∧ SlVs K F H vs ss ∧
  (φ ss).post (fun o => ∀ v F' H', Grow F H F' H' → ORep K H F' H' v o → Q v H') (Erp mg ⟨E⟩ F H)
def eUser (φ : List Sl → R O) (fa : Gm → R (List Sl)) : Gm → R O := fun Γ => (fa Γ).bind φ
theorem ge_user {φ : List Sl → R O} {t : TA} {fa : Gm → R (List Sl)} {n : Nat} (h : GUs X.K X.mg E t fa) (hn : ∀ Γ ss, fa Γ = .ok ss → ss.length = n) : GE X.K X.mg E (tCall (spOf X.K X.mg n φ) [] E t) (eUser φ fa) := fun Γ F0 H0 F H σ Q I q =>
  h Γ F0 H0 F H σ _ I (R.post_mono (R.post_bind q) (fun ss es q vs F1 H1 g1 c1 => by
    refine ⟨by rw [List.append_nil, c1.length]; exact hn Γ ss es, _, F1, ss, g1.sub, by rw [List.append_nil]; exact c1, ?_⟩
    exact R.post_mono q (fun o _ q v F2 H2 g2 r2 => q v F2 H2 (g1.trans g2) (r2.back g1.hh)) fun n e => e.on g1) fun n e => e)
theorem seqR_len {α : Type} : ∀ {fs : List (Gm → R α)} {Γ : Gm} {as : List α}, seqR fs Γ = .ok as → as.length = fs.length
  | [], Γ, as, h => by cases h; rfl
  | f :: r, Γ, as, h => by
    unfold seqR at h
    cases e : f Γ with
    | stuck => rw [e] at h; cases h
    | err n => rw [e] at h; cases h
    | ok a =>
      rw [e] at h
      have h : ((seqR r Γ).bind fun as => R.ok (a :: as)) = .ok as := h
      cases e2 : seqR r Γ with
      | stuck => rw [e2] at h; cases h
      | err n => rw [e2] at h; cases h
      | ok as' =>
        rw [e2] at h
        cases h
        rw [List.length_cons, List.length_cons, seqR_len e2]
structure DefOk (X : Cx) (k : Nat) (x : Str) (n : Nat) (φ : List Sl → R O) : Prop where
  ex : ∃ (f : Addr) (fd : FuncData) (ps : List Str), FnOk X.prog X.w X.K X.mg X.base (L2.CX X.prog X.w) k f fd ps (spOf X.K X.mg n φ) ∧ X.mg x = some (.ref f) ∧ PySem.W.keepIn X.K (.ref f) = true ∧ Binds X.K fd ps []
theorem se_user {x : Str} {p : Pos} {k n : Nat} {φ : List Sl → R O} {fs : List (Gm → R Sl)} (D : DefOk X k x n φ) (hr : Room k X.A) (tk : Takes X (fun cls d _ H => E cls d H)) (hg : Gl X x) (hd : (x == ("__debug__" : Str)) = false) (hn : fs.length = n) (ha : SUs X E es fs) :
    SE X E (.Call (.Name x p) es [] pos) (eUser φ (seqR fs)) := by
  obtain ⟨f, fd, ps, F, hm, hk, hb⟩ := D.ex
  obtain ⟨t, pa, ga⟩ := sus_of ha
  have hx : Passes (L2.CX X.prog X.w) X E := passes_call tk fun _ _ _ _ h => h
  have pl := ha.plain
  cases ha with
  | nil =>
    refine ⟨_, pe_call0 F hr hg hm hk hb .nil hx hd, ?_⟩
    exact ge_user (fun Γ F0 H0 F H σ Q I q => q [] F H (.refl I.sub) .nil) fun Γ ss e => (seqR_len e).trans hn
  | @cons e1 es1 _ _ h1 hs r =>
    have hs' : isStar e1 = false ∧ es1.all (fun e => !isStar e) = true := by simpa using pl
    exact ⟨_, pe_call F hr hg hm hk hb .nil hx pa hd (star_cons hs'.1) (star_plain hs'.2), ge_user ga fun Γ ss e => (seqR_len e).trans hn⟩
end
end Pd

set_option Elab.async false
set_option linter.all false
set_option maxRecDepth 100000
set_option maxHeartbeats 1000000
namespace Pd
open PySem PySem.Spec L2
section
variable {pg : Program} {w : World} {A : Around} {E : Value → Shared → Prop} {s : Shared}
end
def IteT (K : PySem.W.Frag) (ad : Addr) : It :=
  ⟨fun i H => ∃ (zs : List V) (x : V), SqT K H ad zs ∧ zs[i]? = some x, fun i H v H' => ∃ T x, v = .ref T ∧ H T = none ∧ H' = upd H T (.tup [.int (i : Nat), x]) ∧ ∀ zs, SqT K H ad zs → zs[i]? = some x, fun i H => ∃ zs : List V, SqT K H ad zs ∧ zs.length ≤ i⟩
def iEnumA (K : PySem.W.Frag) (ta : TA) : TI := fun σ H R => ta σ H fun vlist H1 => ∃ ad zs, vlist = [.ref ad] ∧ (SqL K H1 ad zs ∧ R (Ite K ad) H1 ∨ SqT K H1 ad zs ∧ R (IteT K ad) H1)
structure Items (K : PySem.W.Frag) (On : Fz T → Hp → Prop) (J : It) (ds : List D) : Prop where
  len : ds.length ≤ sizeLine
  go : ∀ i F' H', i < ds.length → On F' H' → J.go i H'
  yld : ∀ i d F' H' x H'', ds[i]? = some d → On F' H' → J.yld i H' x H'' → ∃ F'', Grow F' H' F'' H'' ∧ Rep K F'' x d
  stop : ∀ F' H', On F' H' → J.stop ds.length H'
abbrev OnF (F : Fz T) : Fz T → Hp → Prop := fun F' H' => Same F F' ∧ Sub F' H'
theorem Items.imp {K : PySem.W.Frag} {On On' : Fz T → Hp → Prop} {J : It} {ds : List D} (h : Items K On J ds) (e : ∀ F H, On' F H → On F H) : Items K On' J ds :=
  ⟨h.len, fun i F H a b => h.go i F H a (e _ _ b), fun i d F H x H' a b c => h.yld i d F H x H' a (e _ _ b) c, fun F H a => h.stop F H (e _ _ a)⟩
section
variable {K : PySem.W.Frag} {On : Fz T → Hp → Prop} {F : Hp} {a b : Addr} {xs ys : List V} {ds es : List D}
theorem Ext.seq {K : PySem.W.Frag} {H H' : Hp} {a : Addr} {xs : List V} (e : Ext H H') (h : SqL K H a xs) : SqL K H' a xs := by
  rcases h with (h | ⟨o, h⟩) | h
  · exact .inl (.inl (e _ _ h fun _ z => nomatch z))
  · exact .inl (.inr ⟨o, e _ _ h fun _ z => nomatch z⟩)
  · exact .inr h
theorem get_some {α : Type} {l : List α} {i : Nat} (h : i < l.length) : ∃ x, l[i]? = some x := ⟨l[i], List.getElem?_eq_getElem h⟩
theorem items_l (r : Reps K F xs ds) (l : ds.length ≤ sizeLine) (h : ∀ F' H', On F' H' → SqL K H' a xs ∧ Same F F' ∧ Sub F' H') : Items K On (Itl K a) ds := by
  have el := r.length
  refine ⟨l, fun i F' H' hi o => ?_, fun i d F' H' x H'' ed o y => ?_, fun F' H' o => ?_⟩
  · obtain ⟨v, hv⟩ := get_some (l := xs) (i := i) (by omega)
    exact ⟨xs, v, (h _ _ o).1, hv⟩
  · obtain ⟨rfl, y⟩ := y
    obtain ⟨q, s, sb⟩ := h _ _ o
    obtain ⟨v, hv, rv⟩ := r.get ed
    have e := y _ q
    rw [hv] at e
    cases e
    exact ⟨F', .refl sb, rv.mono s⟩
  · exact ⟨xs, (h _ _ o).1, by omega⟩
theorem items_t (r : Reps K F xs ds) (l : ds.length ≤ sizeLine) (h : ∀ F' H', On F' H' → SqT K H' a xs ∧ Same F F' ∧ Sub F' H') : Items K On (Itt K a) ds := by
  have el := r.length
  refine ⟨l, fun i F' H' hi o => ?_, fun i d F' H' x H'' ed o y => ?_, fun F' H' o => ?_⟩
  · obtain ⟨v, hv⟩ := get_some (l := xs) (i := i) (by omega)
    exact ⟨xs, v, (h _ _ o).1, hv⟩
  · obtain ⟨rfl, y⟩ := y
    obtain ⟨q, s, sb⟩ := h _ _ o
    obtain ⟨v, hv, rv⟩ := r.get ed
    have e := y _ q
    rw [hv] at e
    cases e
    exact ⟨F', .refl sb, rv.mono s⟩
  · exact ⟨xs, (h _ _ o).1, by omega⟩
def enumD (k : Nat) : List D → List D
  | [] => []
  | d :: r => .tup [.int (k : Nat), d] :: enumD (k + 1) r
def zipD : List D → List D → List D
  | x :: xs, y :: ys => .tup [x, y] :: zipD xs ys
  | _, _ => []
def rngD (lo : Int) : Nat → List D
  | 0 => []
  | n + 1 => .int lo :: rngD (lo + 1) n
theorem rngD_len : ∀ (n : Nat) (lo : Int), (rngD lo n).length = n
  | 0, _ => rfl
  | n + 1, lo => by rw [rngD, List.length_cons, rngD_len n]
theorem rngD_get : ∀ (n : Nat) (lo : Int) (i : Nat) (x : D), (rngD lo n)[i]? = some x → x = .int (lo + i)
  | 0, _, _, _, h => by simp [rngD] at h
  | n + 1, lo, 0, x, h => by
    simp [rngD] at h
    rw [← h]; simp
  | n + 1, lo, i + 1, x, h => by
    rw [rngD, List.getElem?_cons_succ] at h
    rw [rngD_get n (lo + 1) i x h]
    congr 1
    omega
theorem items_r {lo : Int} {n : Nat} (l : n ≤ sizeLine) (h : ∀ F' H', On F' H' → Sub F' H') : Items K On (Itr lo n) (rngD lo n) := by
  refine ⟨by rw [rngD_len]; exact l, fun i F' H' hi o => by rw [rngD_len] at hi; exact hi, fun i d F' H' x H'' ed o y => ?_, fun F' H' o => by rw [rngD_len]; exact Nat.le_refl _⟩
  obtain ⟨rfl, rfl⟩ := y
  rw [rngD_get _ _ _ _ ed]
  exact ⟨F', .refl (h _ _ o), .int _⟩
def sgnD (z : Str) : List D := z.cps.toList.map fun c => .str ⟨#[c]⟩
theorem items_s {z : Str} (l : z.length ≤ line) (h : ∀ F' H', On F' H' → Sub F' H') : Items K On (Its z) (sgnD z) := by
  have el : (sgnD z).length = z.cps.size := by unfold sgnD; rw [List.length_map, Array.length_toList]
  have l' : z.cps.size ≤ line := l
  refine ⟨by rw [el, line_eq]; exact l', fun i F' H' hi o => by rw [el] at hi; exact hi, fun i d F' H' x H'' ed o y => ?_, fun F' H' o => by rw [el]; exact Nat.le_refl _⟩
  obtain ⟨rfl, c, hc, rfl⟩ := y
  unfold sgnD at ed
  rw [List.getElem?_map, Array.getElem?_toList, hc] at ed
  cases ed
  exact ⟨F', .refl (h _ _ o), .str _⟩
end
def SItF (X : Cx) (E : Ex T) (tg e : PySem.Expr) (f : Gm → R (List D)) : Prop := ∃ wi, PI X tg e wi ∧
  ∀ (Γ : Gm) (F0 : Fz T) (H0 : Hp) (F : Fz T) (H : Hp) (σ : L2.St) (R' : It → Hp → Prop), EnvOk X.K F0 H0 F H σ Γ → (f Γ).post (fun ds => ∀ J F' H', Grow F H F' H' → Items X.K (OnF F') J ds → R' J H') (Erp X.mg E F H) → wi σ H R'
def SItC (X : Cx) (E : Ex T) (tg e : PySem.Expr) (f : Gm → R (List D)) : Prop := ∃ wi, PI X tg e wi ∧
  ∀ (Γ : Gm) (F0 : Fz T) (H0 : Hp) (F : Fz T) (H : Hp) (σ : L2.St) (R' : It → Hp → Prop), EnvOk X.K F0 H0 F H σ Γ → (f Γ).post (fun ds => ∀ J F' H', Grow F H F' H' → Items X.K (Grow F' H') J ds → R' J H') (Erp X.mg E F H) → wi σ H R'
section
variable {X : Cx} {E : Ex T} {e tg a b c : PySem.Expr} {es elts : List PySem.Expr} {pos p tpos : Pos} {kk : Nat}
theorem SItF.toC {f : Gm → R (List D)} (h : SItF X E tg e f) : SItC X E tg e f := by
  obtain ⟨wi, p, g⟩ := h
  exact ⟨wi, p, fun Γ F0 H0 F H σ R' I q => g Γ F0 H0 F H σ R' I (R.post_imp q fun ds q J F' H' gr it => q J F' H' gr (it.imp fun F2 H2 g2 => ⟨g2.ff, g2.sub⟩))⟩
theorem SItF.none : SItF X E tg e (fun _ => .stuck) := ⟨fun _ _ _ => False, ⟨fun _ _ _ _ _ _ h => h.elim⟩, fun _ _ _ _ _ _ _ _ h => h⟩
theorem SItC.none : SItC X E tg e (fun _ => .stuck) := ⟨fun _ _ _ => False, ⟨fun _ _ _ _ _ _ h => h.elim⟩, fun _ _ _ _ _ _ _ _ h => h⟩

def iSq (K : PySem.W.Frag) (tl : TE) : TI := fun σ H R' => tl σ H fun x H1 => (∃ a, x = .ref a ∧ (∃ xs, SqL K H1 a xs) ∧ R' (Itl K a) H1) ∨ (∃ a, x = .ref a ∧ (∃ xs, SqT K H1 a xs) ∧ R' (Itt K a) H1) ∨ ∃ z, x = .str z ∧ R' (Its z) H1
theorem pi_sq {l : PySem.Expr} {tl : TE} (hl : PE X l tl) : PI X tg l (iSq X.K tl) := by
  refine ⟨fun pins s σ H R' I h => thn (hl.run pins s σ H _ I h) fun v s1 hv => ?_⟩
  obtain ⟨x, J1, I1, r1, hq⟩ := hv
  have sz := Nat.le_refl s1.heap.objs.size
  rcases hq with ⟨a, rfl, ⟨xs, hx⟩, q⟩ | ⟨a, rfl, ⟨xs, hx⟩, q⟩ | ⟨z, rfl, q⟩
  · cases r1
    obtain ⟨its, rv, pl, hz⟩ := I1.list hx
    exact wpAny_pyIter_list pl.isList
      (pi_one (tk := s1.toks) I1 _ (turn_list a _) ⟨_, Heap.get?_push_size _ rfl, rfl, rfl⟩ q)
  · cases r1
    obtain ⟨its, rv, pl, hz⟩ := I1.tuple hx
    exact wpAny_pyIter_tuple (show s1.heap.IsTuple a its.toArray from pl)
      (pi_one (tk := s1.toks) I1 _ (turn_tuple a _) ⟨_, Heap.get?_push_size _ rfl, rfl, rfl⟩ q)
  · obtain ⟨t, rfl⟩ := r1
    by_cases wide : z.cps.all (· < 128) = true
    · exact wpAny_pyIter_ascii wide
        (pi_one (tk := s1.toks) I1 _ (turn_str _ z t "str_ascii_iterator" (Or.inl rfl))
          ⟨_, Heap.get?_push_size _ rfl, rfl, rfl⟩ q)
    · exact wpAny_pyIter_wide (by simpa using wide)
        (pi_one (tk := s1.toks) I1 _ (turn_str _ z t "str_iterator" (Or.inr rfl))
          ⟨_, Heap.get?_push_size _ rfl, rfl, rfl⟩ q)
def seqD : D → R (List D)
  | .lst ds => .ok ds
  | .tup ds => .ok ds
  | .scr ns => .ok (ns.map D.int)
  | .str z => if z.length ≤ line then .ok (sgnD z) else .stuck
  | _ => .stuck
def iF (f : Gm → R D) : Gm → R (List D) := fun Γ => (f Γ).bind seqD
theorem sitF_sq {f : Gm → R D} (h : SV X E e f) : SItF X E tg e (iF f) := by
  obtain ⟨t, p, g⟩ := h
  refine ⟨_, pi_sq p, fun Γ F0 H0 F H σ R' I q => g Γ F0 H0 F H σ _ I (R.post_imp (R.post_bind q) fun d q v F' H' gr rp => ?_)⟩
  cases d with
  | lst ds =>
    cases rp with
    | lst hF rs l => exact .inl ⟨_, rfl, ⟨_, .of (gr.sub.lst hF)⟩, q _ F' H' gr (items_l rs l fun F2 H2 o => ⟨.of (o.2.lst (o.1 _ _ hF)), o⟩)⟩
  | tup ds =>
    cases rp with
    | tup hF rs l => exact .inr (.inl ⟨_, rfl, ⟨_, .of (gr.sub.tup hF)⟩, q _ F' H' gr (items_t rs l fun F2 H2 o => ⟨.of (o.2.tup (o.1 _ _ hF)), o⟩)⟩)
  | scr ns =>
    cases rp with
    | scr hF l => exact .inl ⟨_, rfl, ⟨_, gr.sub.seq hF⟩, q _ F' H' gr (items_l (.ints ns) (by rw [List.length_map]; exact l) fun F2 H2 o => ⟨o.2.seq (o.1.seq hF), o⟩)⟩
  | str z =>
    cases rp
    have q : (R.post (if z.length ≤ line then R.ok (sgnD z) else R.stuck) _ _) := q
    split at q
    · rename_i hl
      exact .inr (.inr ⟨z, rfl, q _ F' H' gr (items_s hl fun F2 H2 o => o.2)⟩)
    · exact q.elim
  | _ => exact q.elim
theorem sitC_sq {f : Gm → R D} (h : SR X E e f) : SItC X E tg e (iF f) := by
  obtain ⟨t, p, g⟩ := h
  refine ⟨_, pi_sq p, fun Γ F0 H0 F H σ R' I q => g Γ F0 H0 F H σ _ I (R.post_imp (R.post_bind q) fun d q v F' H' gr rp => ?_)⟩
  cases d with
  | lst ds =>
    obtain ⟨a, xs, rfl, hH, rs, l⟩ := rp.lst gr.sub
    exact .inl ⟨_, rfl, ⟨_, .of hH⟩, q _ F' H' gr (items_l rs l fun F2 H2 o => ⟨.of (o.hh _ _ hH (fun _ z => nomatch z)), o.ff, o.sub⟩)⟩
  | tup ds =>
    obtain ⟨a, xs, rfl, hH, rs, l, _⟩ := rp.tup gr.sub
    exact .inr (.inl ⟨_, rfl, ⟨_, .of hH⟩, q _ F' H' gr (items_t rs l fun F2 H2 o => ⟨.of (o.hh _ _ hH (fun _ z => nomatch z)), o.ff, o.sub⟩)⟩)
  | scr ns =>
    obtain ⟨a, rfl, hH, l⟩ := rp.scr gr.sub
    exact .inl ⟨_, rfl, ⟨_, hH⟩, q _ F' H' gr (items_l (.ints ns) (by rw [List.length_map]; exact l) fun F2 H2 o => ⟨Ext.seq o.hh hH, o.ff, o.sub⟩)⟩
  | str z =>
    obtain rfl := rp.str
    have q : (R.post (if z.length ≤ line then R.ok (sgnD z) else R.stuck) _ _) := q
    split at q
    · rename_i hl
      exact .inr (.inr ⟨z, rfl, q _ F' H' gr (items_s hl fun F2 H2 o => o.sub)⟩)
    · exact q.elim
  | _ => exact q.elim
def smallI (i : Int) : Bool := decide (-(2 ^ 62) ≤ i ∧ i < 2 ^ 62)
def rngF1 : List D → R (List D)
  | [.int j] => if smallI j = true ∧ j.toNat ≤ line then .ok (rngD 0 j.toNat) else .stuck
  | _ => .stuck
def rngF2 : List D → R (List D)
  | [.int i, .int j] => if smallI i = true ∧ smallI j = true ∧ (j - i).toNat ≤ line then .ok (rngD i (j - i).toNat) else .stuck
  | _ => .stuck
def stpD (lo c : Int) : Nat → List D
  | 0 => []
  | n + 1 => .int lo :: stpD (lo + c) c n
def rgC (i j c : Int) : Option Nat := if c ≠ 0 ∧ c.natAbs < 1073741824 ∧ Builtin.Range.small i j c = true ∧ Builtin.Range.rangeSize i j c = ((Builtin.Range.rangeSize i j c).toNat : Nat) ∧ (Builtin.Range.rangeSize i j c).toNat ≤ line then some (Builtin.Range.rangeSize i j c).toNat else none
def rngF3 : List D → R (List D)
  | [.int i, .int j, .int c] => match rgC i j c with
    | some n => .ok (stpD i c n)
    | none => .stuck
  | _ => .stuck
def iOf (φ : List D → R (List D)) (f : Gm → R (List D)) : Gm → R (List D) := fun Γ => (f Γ).bind φ
theorem sit_rng1 {f : Gm → R D} (hg : Gl X "range") (hm : X.mg "range" = none) (h : SR X E a f) (hs : isStar a = false) : SItF X E tg (.Call (.Name "range" p) [a] [] pos) (iOf rngF1 (seqR [f])) := by
  obtain ⟨t, pa, g⟩ := sa_of (.cons h hs .nil)
  refine ⟨_, pi_range1 hg hm pa (star_cons hs), fun Γ F0 H0 F H σ R' I q => g Γ F0 H0 F H σ _ I (R.post_imp (R.post_bind q) fun ds q vs F' H' gr cs => ?_)⟩
  unfold rngF1 at q
  split at q
  · rename_i j
    obtain ⟨x, rfl, c⟩ := cs.one
    obtain rfl := c.int
    split at q
    · rename_i hh
      have h1 := of_decide_eq_true hh.1
      exact ⟨j, rfl, h1.1, h1.2, q _ F' H' gr (items_r (by rw [line_eq]; exact hh.2) fun F2 H2 o => o.2)⟩
    · exact q.elim
  · exact q.elim
theorem sit_rng2 {f g : Gm → R D} (hg : Gl X "range") (hm : X.mg "range" = none) (h : SR X E a f) (hs : isStar a = false) (h2 : SR X E b g) (hs2 : isStar b = false) :
    SItF X E tg (.Call (.Name "range" p) [a, b] [] pos) (iOf rngF2 (seqR [f, g])) := by
  obtain ⟨t, pa, g⟩ := sa_of (.cons h hs (.cons h2 hs2 .nil))
  refine ⟨_, pi_range2 hg hm pa (by rw [star_cons hs, star_cons hs2]; rfl) (star_cons hs2), fun Γ F0 H0 F H σ R' I q => g Γ F0 H0 F H σ _ I (R.post_imp (R.post_bind q) fun ds q vs F' H' gr cs => ?_)⟩
  unfold rngF2 at q
  split at q
  · rename_i i j
    obtain ⟨x, y, rfl, c1, c2⟩ := cs.two
    obtain rfl := c1.int
    obtain rfl := c2.int
    split at q
    · rename_i hh
      have h1 := of_decide_eq_true hh.1
      have h2 := of_decide_eq_true hh.2.1
      exact ⟨i, j, rfl, ⟨h1.1, h1.2, h2.1, h2.2⟩, q _ F' H' gr (items_r (by rw [line_eq]; exact hh.2.2) fun F2 H2 o => o.2)⟩
    · exact q.elim
  · exact q.elim
theorem Conts.three {K : PySem.W.Frag} {F H : Hp} {xs : List V} {d e g : D} (h : Conts K F H xs [d, e, g]) : ∃ x y z, xs = [x, y, z] ∧ Cont K F H x d ∧ Cont K F H y e ∧ Cont K F H z g := by
  cases h with
  | cons c t =>
    obtain ⟨y, z, rfl, c2, c3⟩ := t.two
    exact ⟨_, y, z, rfl, c, c2, c3⟩
def enumF : List D → R (List D)
  | [.lst ds] => .ok (enumD 0 ds)
  | [.tup ds] => .ok (enumD 0 ds)
  | _ => .stuck
theorem si1 {f : Gm → R D} (h : SV X E a f) (hs : isStar a = false) : SI X E [a] (seqR [f]) := si_of (.cons h hs .nil)
theorem Reps.one {K : PySem.W.Frag} {F : Hp} {xs : List V} {d : D} (h : Reps K F xs [d]) : ∃ x, xs = [x] ∧ Rep K F x d := by
  cases h with
  | cons r t => cases t; exact ⟨_, rfl, r⟩
theorem Reps.two {K : PySem.W.Frag} {F : Hp} {xs : List V} {d e : D} (h : Reps K F xs [d, e]) : ∃ x y, xs = [x, y] ∧ Rep K F x d ∧ Rep K F y e := by
  cases h with
  | cons r t =>
    obtain ⟨y, rfl, r2⟩ := t.one
    exact ⟨_, y, rfl, r, r2⟩
def zipF : List D → R (List D)
  | [.lst ds, .lst es] => .ok (zipD ds es)
  | [.tup ds, .tup es] => .ok (zipD ds es)
  | _ => .stuck
end
end Pd

set_option Elab.async false
set_option linter.all false
set_option maxRecDepth 100000
set_option maxHeartbeats 1000000
namespace Pd
open PySem PySem.Spec L2

theorem wipe_at {σ : L2.St} {j : Nat} : ∀ {vs : List Nat}, j ∈ vs → (wipe σ vs)[j]? = if j < σ.length then some none else none
  | [], h => by simp at h
  | v :: vs, h => by
    unfold wipe
    by_cases e : v = j
    · subst e
      rw [List.getElem?_set, if_pos rfl, wipe_length]
    · rw [List.getElem?_set_ne e]
      exact wipe_at ((List.mem_cons.mp h).resolve_left (fun z => e z.symm))
theorem wipe_set {σ : L2.St} {i : Nat} {x : Option V} {vs : List Nat} (h : i ∈ vs) : wipe (σ.set i x) vs = wipe σ vs := by
  apply List.ext_getElem?
  intro j
  by_cases hj : j ∈ vs
  · rw [wipe_at hj, wipe_at hj, List.length_set]
  · rw [wipe_out hj, wipe_out hj]
    exact List.getElem?_set_ne (fun e => hj (by rw [← e]; exact h))
theorem wipe_wipe {σ : L2.St} {vs : List Nat} : wipe (wipe σ vs) vs = wipe σ vs := by
  apply List.ext_getElem?
  intro j
  by_cases hj : j ∈ vs
  · rw [wipe_at hj, wipe_at hj, wipe_length]
  · rw [wipe_out hj]
inductive Tg where
  | nm (i : Nat) | tp (ts : List Tg)
mutual
def Tg.fn : Tg → D → Gm → R Gm
  | .nm i, d, Γ => .ok (Γ.set i (.val d))
  | .tp ts, .tup ds, Γ => Tg.fns ts ds Γ
  | .tp ts, .lst ds, Γ => Tg.fns ts ds Γ
  | .tp _, _, _ => .stuck
def Tg.fns : List Tg → List D → Gm → R Gm
  | [], [], Γ => .ok Γ
  | t :: ts, d :: ds, Γ => (t.fn d Γ).bind fun Γ' => Tg.fns ts ds Γ'
  | _, _, _ => .stuck
end
mutual
def Tg.ix : Tg → List Nat
  | .nm i => [i]
  | .tp ts => Tg.ixs ts
def Tg.ixs : List Tg → List Nat
  | [] => []
  | t :: ts => t.ix ++ Tg.ixs ts
end
def GG (K : PySem.W.Frag) (t : TG) (f : D → Gm → R Gm) (ns : List Nat) : Prop :=
  ∀ {T : List (Addr × Str)} (Γ : Gm) (F0 : Fz T) (H0 : Hp) (F : Fz T) (H : Hp) (σ : L2.St) (v : V) (d : D) (Q : L2.St → Hp → Prop), EnvOk K F0 H0 F H σ Γ → Rep K F v d →
    (f d Γ).post (fun Γ' => ∀ σ', EnvOk K F0 H0 F H σ' Γ' → (∀ vs : List Nat, (∀ i ∈ ns, i ∈ vs) → wipe σ' vs = wipe σ vs) → Q σ' H) (fun _ => False) → t v σ H Q
def GGs (K : PySem.W.Frag) (t : TGs) (f : List D → Gm → R Gm) (ns : List Nat) : Prop :=
  ∀ {T : List (Addr × Str)} (Γ : Gm) (F0 : Fz T) (H0 : Hp) (F : Fz T) (H : Hp) (σ : L2.St) (v : List V) (d : List D) (Q : L2.St → Hp → Prop), EnvOk K F0 H0 F H σ Γ → Reps K F v d →
    (f d Γ).post (fun Γ' => ∀ σ', EnvOk K F0 H0 F H σ' Γ' → (∀ vs : List Nat, (∀ i ∈ ns, i ∈ vs) → wipe σ' vs = wipe σ vs) → Q σ' H) (fun _ => False) → t v σ H Q
def SG (X : Cx) (e : PySem.Expr) (t : Tg) : Prop := ∃ g, PG X e g ∧ GG X.K g t.fn t.ix
def SGs (X : Cx) (es : List PySem.Expr) (ts : List Tg) : Prop := ∃ g, PGs X es g ∧ GGs X.K g (Tg.fns ts) (Tg.ixs ts)
def isName : PySem.Expr → Bool
  | .Name .. => true
  | _ => false
section
variable {X : Cx} {e : PySem.Expr} {es : List PySem.Expr} {pos : Pos}
theorem sg_name {i : Nat} {x : Str} (hN : X.N.Nodup) (hi : X.N[i]? = some x) (hx : Loc X.env.scope x) (hf : X.fn x = true ∨ X.env.scope.names.lookup x = some .local) : SG X (.Name x pos) (.nm i) :=
  ⟨_, pg_name hN hi hx hf, fun Γ F0 H0 F H σ v d Q I r q => by
    rw [Tg.fn] at q
    exact q _ (I.setVal r) fun vs hv => wipe_set (hv i (by simp [Tg.ix]))⟩
theorem sgs_nil : SGs X [] [] := ⟨_, pgs_nil, fun Γ F0 H0 F H σ v d Q I r q => by
  cases r with
  | nil => exact ⟨rfl, q σ I fun _ _ => rfl⟩
  | cons r t => exact q.elim⟩
theorem assign_cons {env : Env} (h : isStar e = false) : assignEach (e :: es) env = (false, assign e env) :: assignEach es env := by
  cases e <;> first | rfl | cases h
theorem assign_len {env : Env} : ∀ es : List PySem.Expr, (assignEach es env).length = es.length
  | [] => rfl
  | e :: es => by
    cases e <;> exact congrArg (· + 1) (assign_len es)
theorem assign_plain {env : Env} : ∀ {es : List PySem.Expr}, es.all (fun e => !isStar e) = true → (assignEach es env).findIdx? (·.1) = none
  | [], _ => rfl
  | e :: es, h => by
    have h' : isStar e = false ∧ es.all (fun e => !isStar e) = true := by simpa using h
    rw [assign_cons h'.1, List.findIdx?_cons, assign_plain h'.2]
    rfl
theorem sgs_cons {t : Tg} {ts : List Tg} (h : SG X e t) (hs : isStar e = false) (h2 : SGs X es ts) : SGs X (e :: es) (t :: ts) := by
  obtain ⟨g, pg, gg⟩ := h
  obtain ⟨u, pu, gu⟩ := h2
  refine ⟨_, pgs_cons pg pu (by rw [assign_cons hs]; rfl), fun Γ F0 H0 F H σ v d Q I r q => ?_⟩
  cases r with
  | nil => rw [Tg.fns] at q <;> first | exact q.elim | (intro _ _ _ _; intro z; cases z)
  | @cons v d vs ds r rs =>
    rw [Tg.fns] at q
    refine ⟨v, vs, rfl, gg Γ F0 H0 F H σ v d _ I r (R.post_mono (R.post_bind q) (fun Γ' _ q σ' I' hw => ?_) fun n e => e)⟩
    refine gu Γ' F0 H0 F H σ' vs ds Q I' rs (R.post_imp q fun Γ2 q σ2 I2 hw2 => q σ2 I2 fun vs' hv => ?_)
    rw [hw2 vs' fun i hi => hv i (by rw [Tg.ixs]; exact List.mem_append_right _ hi), hw vs' fun i hi => hv i (by rw [Tg.ixs]; exact List.mem_append_left _ hi)]
theorem Tg.fns_len : ∀ {ts : List Tg} {ds : List D} {Γ : Gm} {P : Gm → Prop}, (Tg.fns ts ds Γ).post P (fun _ => False) → ds.length = ts.length
  | [], [], _, _, _ => rfl
  | [], _ :: _, _, _, h => by rw [Tg.fns] at h <;> first | exact h.elim | (intro _ _ _ _; intro z; cases z) | (intro z; cases z)
  | _ :: _, [], _, _, h => by rw [Tg.fns] at h <;> first | exact h.elim | (intro _ _ _ _; intro z; cases z) | (intro z; cases z)
  | t :: ts, d :: ds, Γ, P, h => by
    rw [Tg.fns] at h
    have h' := R.post_bind h
    rw [List.length_cons, List.length_cons]
    cases e : t.fn d Γ with
    | stuck => rw [e] at h'; exact h'.elim
    | err n => rw [e] at h'; exact h'.elim
    | ok Γ' => rw [e] at h'; rw [Tg.fns_len (Γ := Γ') (P := P) h']
theorem SGs.len {ts : List Tg} : ∀ {es : List PySem.Expr}, SGs X es ts → True := fun _ => trivial
theorem sg_tup {ts : List Tg} {k : Nat} (hc : X.calm = true) (h : SGs X es ts) (hl : es.length = ts.length) (hs : es.all (fun e => !isStar e) = true) : SG X (.Tuple es k pos) (.tp ts) := by
  obtain ⟨g, pg, gg⟩ := h
  have p1 := pg_tup hc pg (pos := pos) (k := k) (n := es.length) (assign_len es) (assign_plain hs)
  have p2 := pg_unl hc pg (pos := pos) (k := k) (n := es.length) (assign_len es) (assign_plain hs)
  refine ⟨fun v σ H Q => gTup X.K es.length g v σ H Q ∨ gUnl X.K es.length g v σ H Q, ⟨fun pins s σ H v u Q I r hw => hw.elim (fun w => p1.run pins s σ H v u Q I r w) fun w => p2.run pins s σ H v u Q I r w⟩, fun Γ F0 H0 F H σ v d Q I r q => ?_⟩
  cases d with
  | tup ds =>
    rw [Tg.fn.eq_2 Γ ts ds] at q
    have el := Tg.fns_len q
    cases r with
    | tup hF rs l =>
      refine .inl ⟨_, _, rfl, .of (I.sub.tup hF), by rw [rs.length, el, hl], ?_⟩
      exact gg Γ F0 H0 F H σ _ ds Q I rs (by
        refine R.post_imp q fun Γ' q σ' I' hw => q σ' I' fun vs hv => hw vs fun i hi => hv i ?_
        rw [Tg.ix]; exact hi)
  | lst ds =>
    rw [Tg.fn.eq_3 Γ ts ds] at q
    have el := Tg.fns_len q
    cases r with
    | lst hF rs l =>
      refine .inr ⟨_, _, rfl, .of (I.sub.lst hF), by rw [rs.length, el, hl], ?_⟩
      exact gg Γ F0 H0 F H σ _ ds Q I rs (by
        refine R.post_imp q fun Γ' q σ' I' hw => q σ' I' fun vs hv => hw vs fun i hi => hv i ?_
        rw [Tg.ix]; exact hi)
  | _ => rw [Tg.fn] at q <;> first | exact q.elim | (intro _ z; cases z)

theorem PE.imp {e : PySem.Expr} {t t' : TE} (h : PE X e t) (i : ∀ σ H Q, t' σ H Q → t σ H Q) : PE X e t' := ⟨fun pins s σ H Q I w => h.run pins s σ H Q I (i _ _ _ w)⟩
theorem PT.imp {e : PySem.Expr} {t t' : TT} (h : PT X e t) (i : ∀ σ H Q, t' σ H Q → t σ H Q) : PT X e t' := ⟨fun pins s σ H Q I w => h.run pins s σ H Q I (i _ _ _ w)⟩
def EN_ (T : List (Addr × Str)) : Ex T := ⟨fun _ _ _ => False⟩
def noE {α : Type} : R α → R α
  | .ok a => .ok a
  | _ => .stuck
def tVof (T : List (Addr × Str)) (K : PySem.W.Frag) (f : Gm → R D) : TE := fun σ H Q => ∃ (Γ : Gm) (F0 : Fz T) (H0 : Hp) (F : Fz T), EnvOk K F0 H0 F H σ Γ ∧ (f Γ).post (fun d => ∀ v F' H', Grow F H F' H' → Rep K F' v d → Q v H') (fun _ => False)
def tTof (T : List (Addr × Str)) (K : PySem.W.Frag) (f : Gm → R Bool) : TT := fun σ H Q => ∃ (Γ : Gm) (F0 : Fz T) (H0 : Hp) (F : Fz T), EnvOk K F0 H0 F H σ Γ ∧ (f Γ).post (fun d => ∀ F' H', Grow F H F' H' → Q d H') (fun _ => False)
theorem SV.of (E : Ex T) {f : Gm → R D} (h : SV X E e f) : PE X e (tVof T X.K f) := by
  obtain ⟨t, p, g⟩ := h
  exact PE.imp p fun σ H Q ⟨Γ, F0, H0, F, I, q⟩ => g Γ F0 H0 F H σ Q I (R.post_mono q (fun _ _ x => x) fun _ z => z.elim)
theorem ST.of (E : Ex T) {f : Gm → R Bool} (h : ST X E e f) : PT X e (tTof T X.K f) := by
  obtain ⟨t, p, g⟩ := h
  exact PT.imp p fun σ H Q ⟨Γ, F0, H0, F, I, q⟩ => g Γ F0 H0 F H σ Q I (R.post_mono q (fun _ _ x => x) fun _ z => z.elim)
def tGof (T : List (Addr × Str)) (K : PySem.W.Frag) (t : Tg) : TG := fun v σ H Q => ∃ (Γ : Gm) (F0 : Fz T) (H0 : Hp) (F : Fz T) (d : D), EnvOk K F0 H0 F H σ Γ ∧ Rep K F v d ∧
  (t.fn d Γ).post (fun Γ' => ∀ σ', EnvOk K F0 H0 F H σ' Γ' → (∀ vs : List Nat, (∀ i ∈ t.ix, i ∈ vs) → wipe σ' vs = wipe σ vs) → Q σ' H) (fun _ => False)
theorem SG.of {t : Tg} (h : SG X e t) : PG X e (tGof T X.K t) := by
  obtain ⟨g, p, gg⟩ := h
  exact ⟨fun pins s σ H v u Q I r ⟨Γ, F0, H0, F, d, I', r', q⟩ => p.run pins s σ H v u Q I r (gg Γ F0 H0 F H σ v d Q I' r' q)⟩

def wipeG (Γ : Gm) : List Nat → Gm
  | [] => Γ
  | v :: vs => (wipeG Γ vs).set v .un
theorem EnvOk.wipe {K : PySem.W.Frag} {F0 F : Fz T} {H0 H : Hp} {σ : L2.St} {Γ : Gm} (I : EnvOk K F0 H0 F H σ Γ) : ∀ vs : List Nat, EnvOk K F0 H0 F H (L2.wipe σ vs) (wipeG Γ vs)
  | [] => I
  | v :: vs => (EnvOk.wipe I vs).setUn
def lcGo (t : Tg) (tt : Gm → R Bool) (te : Gm → R D) (Γ : Gm) : List D → R (List D)
  | [] => .ok []
  | d :: r => (noE (t.fn d Γ)).bind fun Γ1 => (noE (tt Γ1)).bind fun b => if b = true then (noE (te Γ1)).bind fun y => (lcGo t tt te Γ r).bind fun ys => .ok (y :: ys) else lcGo t tt te Γ r
def eLc (fi : Gm → R (List D)) (t : Tg) (tt : Gm → R Bool) (te : Gm → R D) (vs : List Nat) : Gm → R O := fun Γ => (fi Γ).bind fun ds => (noE (lcGo t tt te (wipeG Γ vs) ds)).bind fun out => .ok (.o (.lst out))
theorem noE_post {α : Type} {r : R α} {P : α → Prop} {E : Str → Prop} (h : (noE r).post P E) : ∃ a, r = .ok a ∧ P a := by
  cases r with
  | ok a => exact ⟨a, rfl, h⟩
  | stuck => exact h.elim
  | err n => exact h.elim
theorem bind_ok {α β : Type} {r : R α} {f : α → R β} {b : β} (h : r.bind f = .ok b) : ∃ a, r = .ok a ∧ f a = .ok b := by
  cases r with
  | ok a => exact ⟨a, rfl, h⟩
  | stuck => cases h
  | err n => cases h
theorem noE_ok {α : Type} {r : R α} {a : α} (h : noE r = .ok a) : r = .ok a := by
  cases r <;> first | exact h | cases h
theorem ge_lc {K : PySem.W.Frag} {mg : Str → Option Value} {E : Ex T} {wi : TI} {fi : Gm → R (List D)} {t : Tg} {tt : Gm → R Bool} {te : Gm → R D} {vs : List Nat} (hv : ∀ i ∈ t.ix, i ∈ vs)
    (hi : ∀ (Γ : Gm) (F0 : Fz T) (H0 : Hp) (F : Fz T) (H : Hp) (σ : L2.St) (R' : It → Hp → Prop), EnvOk K F0 H0 F H σ Γ → (fi Γ).post (fun ds => ∀ J F' H', Grow F H F' H' → Items K (Grow F' H') J ds → R' J H') (Erp mg E F H) → wi σ H R') :
    GE K mg E (tLc wi (tGof T K t) (tTof T K tt) (tVof T K te) vs) (eLc fi t tt te vs) := fun Γ F0 H0 F H σ Q I q => by
  refine hi Γ F0 H0 F H σ _ I (R.post_imp (R.post_bind q) fun ds q J F1 H1 g1 it D hD => ?_)
  obtain ⟨out, eo, q⟩ := noE_post (R.post_bind q)
  have I1 := (I.grow g1).wipe vs
  have nF1 : F1 D = none := g1.sub.free hD
  refine ⟨fun i m H => m = ds.length - i ∧ i ≤ ds.length ∧ ∃ (F2 : Fz T) (acc : List V) (a b : List Pd.D), Grow F1 H1 F2 H ∧ H D = some (.lst acc) ∧ F2 D = none ∧ Reps K F2 acc a ∧ a.length ≤ i ∧ lcGo t tt te (wipeG Γ vs) (ds.drop i) = .ok b ∧ a ++ b = out,
    ⟨ds.length, rfl, Nat.zero_le _, F1, [], [], out, Grow.newO g1.sub hD, upd_same, nF1, .nil, Nat.le_refl _, eo, rfl⟩, ?_⟩
  rintro i m H2 ⟨rfl, hle, F2, acc, a, b, g2, hD2, nF2, ra, la, eb, eab⟩
  by_cases hlt : i < ds.length
  · refine .inr ⟨it.go i F2 H2 hlt g2, _, fun H' (w : ∃ (F2 : Fz T) (acc : List V) (a b : List Pd.D), Grow F1 H1 F2 H' ∧ H' D = some (.lst acc) ∧ F2 D = none ∧ Reps K F2 acc a ∧ a.length ≤ i + 1 ∧ lcGo t tt te (wipeG Γ vs) (ds.drop (i + 1)) = .ok b ∧ a ++ b = out) => ⟨ds.length - (i + 1), by omega, rfl, hlt, w⟩, fun x H3 y => ?_⟩
    obtain ⟨d, ed⟩ := get_some hlt
    obtain ⟨F3, g3, rx⟩ := it.yld i d F2 H2 x H3 ed g2 y
    have g13 := g2.trans g3
    have nF3 : F3 D = none := (g3.old D _ hD2 fun _ z => nomatch z).trans nF2
    have hD3 : H3 D = some (.lst acc) := g3.hh _ _ hD2 fun _ z => nomatch z
    have e1 : ds.drop i = d :: ds.drop (i + 1) := by
      rw [List.drop_eq_getElem_cons hlt]
      rw [List.getElem?_eq_getElem hlt] at ed
      cases ed
      rfl
    rw [e1, lcGo] at eb
    obtain ⟨Γ1, et, eb⟩ := bind_ok eb
    obtain ⟨k, ek, eb⟩ := bind_ok eb
    have et := noE_ok et
    have ek := noE_ok ek
    refine ⟨wipeG Γ vs, F0, H0, F3, d, I1.grow g13, rx, ?_⟩
    rw [et]
    intro σ' I' hw
    refine ⟨by rw [hw vs hv, wipe_wipe], Γ1, F0, H0, F3, I', ?_⟩
    rw [ek]
    intro F4 H4 g4
    have nF4 : F4 D = none := (g4.old D _ hD3 fun _ z => nomatch z).trans nF3
    have hD4 : H4 D = some (.lst acc) := g4.hh _ _ hD3 fun _ z => nomatch z
    cases k with
    | false =>
      rw [if_neg Bool.false_ne_true] at eb ⊢
      exact ⟨F4, acc, a, b, g13.trans g4, hD4, nF4, (ra.mono g3.ff).mono g4.ff, by omega, eb, eab⟩
    | true =>
      rw [if_pos rfl] at eb ⊢
      obtain ⟨y', ey, eb⟩ := bind_ok eb
      obtain ⟨ys, eys, eb⟩ := bind_ok eb
      cases eb
      have ey := noE_ok ey
      refine ⟨Γ1, F0, H0, F4, I'.grow g4, ?_⟩
      rw [ey]
      intro w F5 H5 g5 rw5
      have nF5 : F5 D = none := (g5.old D _ hD4 fun _ z => nomatch z).trans nF4
      have hD5 : H5 D = some (.lst acc) := g5.hh _ _ hD4 fun _ z => nomatch z
      have g15 := (g13.trans g4).trans g5
      have ll := it.len
      have el := ra.length
      refine ⟨acc, hD5, by omega, F5, acc ++ [w], a ++ [y'], ys, ⟨fun p o z n => ?_, g15.ff, g15.sub.upd hD5 ⟨(fun _ z => nomatch z), fun _ z => nomatch z⟩ nF5, g15.old⟩, upd_same, nF5, (((ra.mono g3.ff).mono g4.ff).mono g5.ff).append (.cons rw5 .nil), by rw [List.length_append]; exact Nat.succ_le_succ la, eys, by rw [List.append_assoc]; exact eab⟩
      rw [upd_ne (fun z' => by rw [z', hD] at z; cases z)]
      exact g15.hh _ _ z n
  · have e : i = ds.length := by omega
    subst e
    rw [List.drop_length] at eb
    cases eb
    rw [List.append_nil] at eab
    subst eab
    have ll := it.len
    have el := ra.length
    exact .inl ⟨it.stop F2 H2 g2, q _ F2 H2 (g1.trans g2) ⟨D, rfl, (Fre.of hD).back g1.hh, nF2, .lst hD2 ra (by omega)⟩⟩
def STf (T : List (Addr × Str)) (X : Cx) (ifs : List PySem.Expr) (f : Gm → R Bool) : Prop := (ifs = [] ∧ f = fun _ => .ok true) ∨ ∃ c, ifs = [c] ∧ ST X (EN_ T) c f
theorem STf.of {ifs : List PySem.Expr} {f : Gm → R Bool} (h : STf T X ifs f) : PTs X ifs (tTof T X.K f) := by
  rcases h with ⟨rfl, rfl⟩ | ⟨c, rfl, h⟩
  · exact ⟨fun pins s σ H Q I w => pts_nil.run pins s σ H Q I (by
      obtain ⟨Γ, F0, H0, F, I', q⟩ := w
      exact q F H (.refl I'.sub))⟩
  · exact pts_one (ST.of (EN_ T) h)
theorem se_lc {E : Ex T} {elt tg iter : PySem.Expr} {ifs : List PySem.Expr} {scope : Scope} {own : List (Str × Nat)} {fi : Gm → R (List D)} {t : Tg} {tt : Gm → R Bool} {te : Gm → R D} (hc : X.calm = true) (hN : X.N.Nodup) (hi : SItC X E tg iter fi) (ok : BlkOk X.N X.env.scope scope own)
    (hg : ∀ (s : Shared) (H : Hp) (C : Addr) (cl : List (Str × Addr)) (fp : List Addr), SG (X.blk s H scope (compEnvC scope cl C X.env) fp) tg t)
    (ht : ∀ (s : Shared) (H : Hp) (C : Addr) (cl : List (Str × Addr)) (fp : List Addr), STf T (X.blk s H scope (compEnvC scope cl C X.env) fp) ifs tt)
    (he : ∀ (s : Shared) (H : Hp) (C : Addr) (cl : List (Str × Addr)) (fp : List Addr), SV (X.blk s H scope (compEnvC scope cl C X.env) fp) (EN_ T) elt te)
    (hs : isSetE iter = false) (hv : ∀ i ∈ t.ix, i ∈ own.map (·.2)) : SE X E (.ListComp elt [⟨tg, iter, ifs, 0⟩] scope pos) (eLc fi t tt te (own.map (·.2))) := by
  obtain ⟨wi, pi, gi⟩ := hi
  exact ⟨_, pe_lc hc hN pi ok (fun s H C cl fp => SG.of (hg s H C cl fp)) (fun s H C cl fp => STf.of (ht s H C cl fp)) (fun s H C cl fp => SV.of (EN_ T) (he s H C cl fp)) (folded_of hs), ge_lc hv gi⟩
end
end Pd

set_option Elab.async false
set_option linter.all false
set_option maxRecDepth 100000
set_option maxHeartbeats 1000000
namespace Pd
open PySem PySem.Spec L2

inductive Out where
  | nx (Γ : Gm) | bk (Γ : Gm) | ct (Γ : Gm) | rt (o : O)
def OutQ (K : PySem.W.Frag) (F0 : Fz T) (H0 : Hp) (D : Ends) : Out → Prop
  | .nx Γ => ∀ σ F H, EnvOk K F0 H0 F H σ Γ → D.nx σ H
  | .bk Γ => ∀ σ F H, EnvOk K F0 H0 F H σ Γ → D.bk σ H
  | .ct Γ => ∀ σ F H, EnvOk K F0 H0 F H σ Γ → D.ct σ H
  | .rt o => ∀ v F H, Grow F0 H0 F H → ORep K H0 F H v o → D.rt v H
def GS (K : PySem.W.Frag) (mg : Str → Option Value) (E : Ex T) (t : TS) (f : Gm → R Out) : Prop :=
  ∀ (Γ : Gm) (F0 : Fz T) (H0 : Hp) (F : Fz T) (H : Hp) (σ : L2.St) (D : Ends), EnvOk K F0 H0 F H σ Γ → (f Γ).post (OutQ K F0 H0 D) (Erp mg E F0 H0) → t D σ H
def SS (X : Cx) (E : Ex T) (st : Stmt) (f : Gm → R Out) : Prop := ∃ t, PS X st t ∧ GS X.K X.mg E t f
def SB (X : Cx) (E : Ex T) (st : List Stmt) (f : Gm → R Out) : Prop := ∃ t, PSs X st t ∧ GS X.K X.mg E t f
section
variable {K : PySem.W.Frag} {mg : Str → Option Value} {E : Ex T} {F0 F F' F1 : Fz T} {H0 H H' : Hp} {σ : L2.St} {Γ : Gm}
theorem Erp.at (I : EnvOk K F0 H0 F H σ Γ) : ∀ n, Erp mg E F0 H0 n → Erp mg E F H n := fun n e => e.on I.all
theorem R.post_err {α : Type} {r : R α} {P : α → Prop} {E E' : Str → Prop} (h : r.post P E) (he : ∀ n, E n → E' n) : r.post P E' := R.post_mono h (fun _ _ x => x) he
theorem EnvOk.rebase (I : EnvOk K F0 H0 F H σ Γ) : EnvOk K F H0 F H σ Γ := ⟨I.hH, Same.refl _, I.sub, fun _ _ _ _ => rfl, I.len, I.slot, I.apart⟩
theorem EnvOk.unbase (I : EnvOk K F1 H0 F H σ Γ) (s : Same F0 F1) (o : ∀ a u, H0 a = some u → noT u → F1 a = F0 a) : EnvOk K F0 H0 F H σ Γ := ⟨I.hH, s.trans I.hF, I.sub, fun a u h n => (I.old a u h n).trans (o a u h n), I.len, I.slot, I.apart⟩
theorem Grow.unbase (g : Grow F1 H0 F H) (s : Same F0 F1) (o : ∀ a u, H0 a = some u → noT u → F1 a = F0 a) : Grow F0 H0 F H := ⟨g.hh, s.trans g.ff, g.sub, fun a u h n => (g.old a u h n).trans (o a u h n)⟩
def isSetD : D → Bool
  | .set _ => true
  | _ => false
def setO (mu : Bool) (i : Nat) (o : O) (Γ : Gm) : Gm := match o with
  | .v d => Γ.set i (.val d)
  | .o d => if mu = true ∨ isSetD d = true then Γ.set i (.own d) else Γ.set i (.val d)
theorem EnvOk.setO {o : O} {v : V} (mu : Bool) (i : Nat) (I : EnvOk K F0 H0 F H σ Γ) (g : Grow F H F' H') (r : ORep K H F' H' v o) : ∃ F'', EnvOk K F0 H0 F'' H' (σ.set i (some v)) (setO mu i o Γ) := by
  cases o with
  | v d => exact ⟨F', (I.grow g).setVal r⟩
  | o d =>
    unfold Pd.setO
    dsimp only
    split
    · obtain ⟨p, rfl, nH, nF, ow⟩ := r
      refine ⟨F', (I.grow g).setOwn (nH.back I.hH) nF ow fun j e ej hj eq => ?_⟩
      obtain ⟨q, eq', _, _, ow'⟩ := I.slot j _ ej
      rw [eq] at eq'
      cases eq'
      exact ow'.fre nH
    · rename_i hn
      have hc : (O.o d).canVal = true := by
        cases d <;> first | rfl | exact absurd (Or.inr rfl) hn
      obtain ⟨F'', g', r'⟩ := r.frozen g hc
      exact ⟨F'', (I.grow g').setVal r'⟩
def frz1 (i : Nat) (Γ : Gm) : Gm := match Γ[i]? with
  | some (.own d) => if isSetD d = true then Γ else Γ.set i (.val d)
  | _ => Γ
def frz : List Nat → Gm → Gm
  | [], Γ => Γ
  | i :: is, Γ => frz is (frz1 i Γ)
theorem EnvOk.frz1 (i : Nat) (I : EnvOk K F0 H0 F H σ Γ) : ∃ F', EnvOk K F0 H0 F' H σ (frz1 i Γ) := by
  unfold Pd.frz1
  split
  · rename_i d e
    split
    · exact ⟨F, I⟩
    · rename_i hn
      obtain ⟨F', _, I'⟩ := I.freeze e fun ns z => by subst z; exact hn rfl
      exact ⟨F', I'⟩
  · exact ⟨F, I⟩
theorem EnvOk.frz : ∀ (is : List Nat) {F : Fz T} {Γ : Gm}, EnvOk K F0 H0 F H σ Γ → ∃ F', EnvOk K F0 H0 F' H σ (frz is Γ)
  | [], F, Γ, I => ⟨F, I⟩
  | i :: is, F, Γ, I => by
    obtain ⟨F', I'⟩ := I.frz1 i
    exact EnvOk.frz is I'
theorem GS.frz {t : TS} {f : Gm → R Out} (h : GS K mg E t f) (is : List Nat) : GS K mg E t (fun Γ => f (frz is Γ)) := fun Γ F0 H0 F H σ D I q => by
  obtain ⟨F', I'⟩ := EnvOk.frz is I
  exact h _ F0 H0 F' H σ D I' q
theorem EnvOk.upd {i : Nat} {p : Addr} {d d' : D} {o : HO} (I : EnvOk K F0 H0 F H σ Γ) (e : Γ[i]? = some (.own d)) (ep : σ.getD i none = some (.ref p)) (n0 : Fre H0 p) (nF : F p = none) (ow : OwnAt K F (L2.upd H p o) p d') :
    EnvOk K F0 H0 F (L2.upd H p o) σ (Γ.set i (.own d')) := by
  have ⟨ou, eu, pu⟩ : ∃ o, H p = some o ∧ plO o := by
    obtain ⟨q, eq, _, _, ow2⟩ := I.slot i _ e
    rw [ep] at eq
    cases eq
    exact ow2.pl
  refine ⟨fun a u z n => ?_, I.hF, I.sub.upd eu pu nF, I.old, by rw [List.length_set]; exact I.len, fun j s ej => ?_, fun j k q d1 d2 e1 e2 q1 q2 => ?_⟩
  · rw [upd_ne (fun z' => by subst z'; exact n0 u z n)]; exact I.hH _ _ z n
  · by_cases hj : i = j
    · subst hj
      rw [List.getElem?_set_self (lt_of_get e)] at ej
      cases ej
      exact ⟨p, ep, n0, nF, ow⟩
    · rw [List.getElem?_set_ne hj] at ej
      have z := I.slot j s ej
      cases s with
      | un => trivial
      | val d => exact z
      | own d2 =>
        obtain ⟨q, eq, m0, mF, ow'⟩ := z
        have hne : q ≠ p := fun z => by
          subst z
          exact hj (I.apart i j q d d2 e ej ep eq)
        exact ⟨q, eq, m0, mF, ow'.mono (Same.refl _) (upd_ne hne)⟩
      | bor d2 => exact z
  · have get : ∀ {j : Nat} {d1 : D}, (Γ.set i (.own d'))[j]? = some (.own d1) → ∃ d2, Γ[j]? = some (.own d2) := fun {j d1} e1 => by
      by_cases hj : i = j
      · subst hj; exact ⟨d, e⟩
      · rw [List.getElem?_set_ne hj] at e1; exact ⟨d1, e1⟩
    obtain ⟨_, e1'⟩ := get e1
    obtain ⟨_, e2'⟩ := get e2
    exact I.apart j k q _ _ e1' e2' q1 q2
end
section
variable {X : Cx} {E : Ex T} {st : Stmt} {e a b c : PySem.Expr} {es : List PySem.Expr} {sts rest : List Stmt} {pos p p2 : Pos}
theorem SS.none : SS X E st (fun _ => .stuck) := ⟨fun _ _ _ => False, ⟨fun _ _ _ _ _ _ h => h.elim⟩, fun _ _ _ _ _ _ _ _ h => h⟩
theorem SS.frz {f : Gm → R Out} (h : SS X E st f) (is : List Nat) : SS X E st (fun Γ => f (frz is Γ)) := let ⟨t, p, g⟩ := h; ⟨t, p, GS.frz g is⟩
def sNext : Gm → R Out := fun Γ => .ok (.nx Γ)
def sSeq (f g : Gm → R Out) : Gm → R Out := fun Γ => (f Γ).bind fun o => match o with
  | .nx Γ' => g Γ'
  | o => .ok o
theorem sb_nil : SB X E [] sNext := ⟨_, pss_nil, fun Γ F0 H0 F H σ D I q => q σ F H I⟩
theorem sb_cons {f g : Gm → R Out} (h : SS X E st f) (h2 : SB X E rest g) : SB X E (st :: rest) (sSeq f g) := by
  obtain ⟨t, p, gt⟩ := h
  obtain ⟨u, pu, gu⟩ := h2
  refine ⟨_, pss_cons p pu, fun Γ F0 H0 F H σ D I q => gt Γ F0 H0 F H σ _ I (R.post_imp (R.post_bind q) fun o q => ?_)⟩
  cases o with
  | nx Γ' => exact fun σ' F' H' I' => gu Γ' F0 H0 F' H' σ' D I' q
  | bk Γ' => exact q
  | ct Γ' => exact q
  | rt o => exact q
def sExpr (f : Gm → R D) : Gm → R Out := fun Γ => (f Γ).bind fun _ => .ok (.nx Γ)
theorem ss_expr {f : Gm → R D} (h : SR X E e f) (hc : isComp e = false) : SS X E (.Expr e pos) (sExpr f) := by
  obtain ⟨t, p, g⟩ := h
  exact ⟨_, ps_expr p (swaps_of hc), fun Γ F0 H0 F H σ D I q => g Γ F0 H0 F H σ _ I (R.post_mono (R.post_bind q) (fun d _ q v F' H' gr _ => q σ F' H' (I.grow gr)) (Erp.at I))⟩
def sRet (f : Gm → R O) : Gm → R Out := fun Γ => (f Γ).bind fun o => .ok (.rt o)
theorem ss_ret {f : Gm → R O} (h : SE X E e f) : SS X E (.Return (some e) pos) (sRet f) := by
  obtain ⟨t, p, g⟩ := h
  exact ⟨_, ps_ret p, fun Γ F0 H0 F H σ D I q => g Γ F0 H0 F H σ _ I (R.post_mono (R.post_bind q) (fun o _ q v F' H' gr r => q v F' H' (I.all.trans gr) (r.back I.hH)) (Erp.at I))⟩
def sRetV (i : Nat) : Gm → R Out := fun Γ => match Γ[i]? with
  | some (.val d) => .ok (.rt (.v d))
  | some (.own d) => .ok (.rt (.o d))
  | _ => .stuck
theorem ss_retV {i : Nat} {x : Str} (hN : X.N[i]? = some x) (hv : Vis X.env.scope x) (hd : (x == ("__debug__" : Str)) = false) (hcd : (x == ("__classdict__" : Str)) = false) : SS X E (.Return (some (.Name x p)) pos) (sRetV i) := by
  refine ⟨_, ps_ret (pe_var hN hv hd hcd), fun Γ F0 H0 F H σ D I q => ?_⟩
  unfold sRetV at q
  cases e : Γ[i]? with
  | none => rw [e] at q; exact q.elim
  | some s =>
    rw [e] at q
    cases s with
    | val d =>
      obtain ⟨v, ev, r⟩ := I.slot i _ e
      exact ⟨v, getD_some ev, q v F H I.all r⟩
    | own d =>
      obtain ⟨p, ev, n0, nF, r⟩ := I.slot i _ e
      exact ⟨_, getD_some ev, q _ F H I.all ⟨p, rfl, n0, nF, r⟩⟩
    | _ => exact q.elim
def sIf (c : Gm → R Bool) (f g : Gm → R Out) : Gm → R Out := fun Γ => (c Γ).bind fun k => if k = true then f Γ else g Γ
theorem ss_if {fc : Gm → R Bool} {f g : Gm → R Out} {s1 s2 : List Stmt} (hc : ST X E c fc) (h1 : SB X E s1 f) (h2 : SB X E s2 g) : SS X E (.If c s1 s2 pos) (sIf fc f g) := by
  obtain ⟨t, p, gt⟩ := hc
  obtain ⟨u, pu, gu⟩ := h1
  obtain ⟨w, pw, gw⟩ := h2
  refine ⟨_, ps_if p pu pw, fun Γ F0 H0 F H σ D I q => gt Γ F0 H0 F H σ _ I (R.post_mono (R.post_bind q) (fun k _ q F' H' gr => ?_) (Erp.at I))⟩
  cases k with
  | true => rw [if_pos rfl] at q ⊢; exact gu Γ F0 H0 F' H' σ D (I.grow gr) q
  | false => rw [if_neg Bool.false_ne_true] at q ⊢; exact gw Γ F0 H0 F' H' σ D (I.grow gr) q
def sSet (mu : Bool) (i : Nat) (f : Gm → R O) : Gm → R Out := fun Γ => (f Γ).bind fun o => .ok (.nx (setO mu i o Γ))
theorem gs_set {te : TE} {f : Gm → R O} (mu : Bool) (i : Nat) (h : GE X.K X.mg E te f) : GS X.K X.mg E (tAsg te (gName i)) (sSet mu i f) := fun Γ F0 H0 F H σ D I q =>
  h Γ F0 H0 F H σ _ I (R.post_mono (R.post_bind q) (fun o _ q v F' H' gr r => by
    obtain ⟨F'', I'⟩ := I.setO mu i gr r
    exact q _ F'' H' I') (Erp.at I))
theorem ss_set {i : Nat} {x : Str} {f : Gm → R O} (mu : Bool) (hN : X.N.Nodup) (hi : X.N[i]? = some x) (hx : Loc X.env.scope x) (hf : X.fn x = true ∨ X.env.scope.names.lookup x = some .local) (h : SE X E e f) (hs : swapsWith e (some (.Name x p)) pos.line X.env = pure false) :
    SS X E (.Assign [.Name x p] e pos) (sSet mu i f) := by
  obtain ⟨t, pe, g⟩ := h
  exact ⟨_, ps_set hN hi hx pe hs hf, gs_set mu i g⟩
def sAsg (t : Tg) (f : Gm → R D) : Gm → R Out := fun Γ => (f Γ).bind fun d => (noE (t.fn d Γ)).bind fun Γ' => .ok (.nx Γ')
theorem ss_asg {tg : PySem.Expr} {t : Tg} {f : Gm → R D} (h : SV X E e f) (hg : SG X tg t) (hs : swapsWithSole [tg] e pos.line X.env = pure false) (hw : swappedStores [tg] e X.env = pure none) (hst : isStar tg = false) :
    SS X E (.Assign [tg] e pos) (sAsg t f) := by
  obtain ⟨te, pe, g⟩ := h
  obtain ⟨u, pg, gg⟩ := hg
  refine ⟨_, ps_asg pe pg hs hw (by rw [assign_cons hst]; rfl), fun Γ F0 H0 F H σ D I q => ?_⟩
  refine g Γ F0 H0 F H σ _ I (R.post_mono (R.post_bind q) (fun d _ q v F' H' gr r => ?_) (Erp.at I))
  refine gg Γ F0 H0 F' H' σ v d _ (I.grow gr) r ?_
  have q := R.post_bind q
  obtain ⟨Γ', e', q⟩ := noE_post q
  rw [e']
  exact fun σ' I' _ => q σ' F' H' I'
def sPar (i j : Nat) (f : Gm → R (List D)) : Gm → R Out := fun Γ => (f Γ).bind fun ds => match ds with
  | [d, e] => .ok (.nx ((Γ.set i (.val d)).set j (.val e)))
  | _ => .stuck
theorem ss_par {i j : Nat} {x y : Str} {px py pt pt2 : Pos} {kt k2 : Nat} {f : Gm → R (List D)} (hc : X.calm = true) (hN : X.N.Nodup) (hi : X.N[i]? = some x) (hj : X.N[j]? = some y) (hij : i ≠ j) (hx : X.env.scope.names.lookup x = some .local) (hy : X.env.scope.names.lookup y = some .local)
    (ha : SI X E [a, b] f) (hw : swappedStores [.Tuple [.Name x px, .Name y py] kt pt] (.Tuple [a, b] k2 pt2) X.env = pure (some [x, y])) :
    SS X E (.Assign [.Tuple [.Name x px, .Name y py] kt pt] (.Tuple [a, b] k2 pt2) pos) (sPar i j f) := by
  obtain ⟨t, p, g⟩ := ha
  refine ⟨_, ps_par hc hN hi hj hij hx hy p hw, fun Γ F0 H0 F H σ D I q => ?_⟩
  refine g Γ F0 H0 F H σ _ I (R.post_mono (R.post_bind q) (fun ds _ q vs F' H' gr r => ?_) (Erp.at I))
  split at q
  · obtain ⟨v, w, rfl, r1, r2⟩ := r.two
    exact ⟨v, w, rfl, q _ F' H' (((I.grow gr).setVal r1).setVal r2)⟩
  · exact q.elim
def whR (c : Gm → R Bool) (b : Gm → R Out) : Nat → Gm → R Out
  | 0, _ => .stuck
  | n + 1, Γ => (c Γ).bind fun k => if k = true then (b Γ).bind fun o => match o with
      | .nx Γ' => whR c b n Γ'
      | .ct Γ' => whR c b n Γ'
      | .bk Γ' => .ok (.nx Γ')
      | .rt o => .ok (.rt o)
    else .ok (.nx Γ)
theorem ss_while {fc : Gm → R Bool} {fb : Gm → R Out} (n : Nat) (hp : PassesOwn (model X.prog X.w) X.A X.env X.xe) (hc : ST X E c fc) (hb : SB X E sts fb) : SS X E (.While c sts [] pos) (whR fc fb n) := by
  obtain ⟨t, pt, gt⟩ := hc
  obtain ⟨u, pu, gu⟩ := hb
  refine ⟨_, ps_while hp pt pu, fun Γ F0 H0 F H σ D I q => ⟨fun m σ H => ∃ Γ F, EnvOk X.K F0 H0 F H σ Γ ∧ (whR fc fb m Γ).post (OutQ X.K F0 H0 D) (Erp X.mg E F0 H0), ⟨n, Γ, F, I, q⟩, ?_⟩⟩
  rintro m σ H ⟨Γ, F, I, q⟩
  cases m with
  | zero => exact q.elim
  | succ m =>
    rw [whR] at q
    refine gt Γ F0 H0 F H σ _ I (R.post_mono (R.post_bind q) (fun k _ q F' H' gr => ?_) (Erp.at I))
    cases k with
    | false => rw [if_neg Bool.false_ne_true] at q ⊢; exact q σ F' H' (I.grow gr)
    | true =>
      rw [if_pos rfl] at q ⊢
      refine ⟨fun σ H => ∃ Γ F, EnvOk X.K F0 H0 F H σ Γ ∧ (whR fc fb m Γ).post (OutQ X.K F0 H0 D) (Erp X.mg E F0 H0), fun σ' H' w => ⟨m, Nat.lt_succ_self m, w⟩, ?_⟩
      refine gu Γ F0 H0 F' H' σ _ (I.grow gr) (R.post_imp (R.post_bind q) fun o q => ?_)
      cases o with
      | nx Γ' => exact fun σ' F2 H2 I2 => ⟨Γ', F2, I2, q⟩
      | ct Γ' => exact fun σ' F2 H2 I2 => ⟨Γ', F2, I2, q⟩
      | bk Γ' => exact q
      | rt o => exact q
def forR (t : Tg) (b : Gm → R Out) : List D → Gm → R Out
  | [], Γ => .ok (.nx Γ)
  | d :: r, Γ => (noE (t.fn d Γ)).bind fun Γ1 => (b Γ1).bind fun o => match o with
      | .nx Γ' => forR t b r Γ'
      | .ct Γ' => forR t b r Γ'
      | .bk Γ' => .ok (.nx Γ')
      | .rt o => .ok (.rt o)
def sFor (fi : Gm → R (List D)) (t : Tg) (b : Gm → R Out) : Gm → R Out := fun Γ => (fi Γ).bind fun ds => forR t b ds Γ
theorem OutQ.unbase {K : PySem.W.Frag} {F0 F1 : Fz T} {H0 : Hp} {D : Ends} (s : Same F0 F1) (o : ∀ a u, H0 a = some u → noT u → F1 a = F0 a) : ∀ {u : Out}, OutQ K F0 H0 D u → OutQ K F1 H0 D u
  | .nx _, q => fun σ F H I => q σ F H (I.unbase s o)
  | .bk _, q => fun σ F H I => q σ F H (I.unbase s o)
  | .ct _, q => fun σ F H I => q σ F H (I.unbase s o)
  | .rt _, q => fun v F H g r => q v F H (g.unbase s o) r
theorem ss_for {tg iter : PySem.Expr} {fi : Gm → R (List D)} {t : Tg} {fb : Gm → R Out} (hp : PassesOwn (model X.prog X.w) X.A X.env X.xe) (hc : X.calm = true) (hi : SItF X E tg iter fi) (hg : SG X tg t) (hb : SB X E sts fb) (hs : isSetE iter = false) :
    SS X E (.For tg iter sts [] pos) (sFor fi t fb) := by
  obtain ⟨wi, pi, gi⟩ := hi
  obtain ⟨g, pg, gg⟩ := hg
  obtain ⟨u, pu, gu⟩ := hb
  refine ⟨_, ps_for hp hc pi pg pu (folded_of hs), fun Γ F0 H0 F H σ D I q => ?_⟩
  refine gi Γ F0 H0 F H σ _ I (R.post_mono (R.post_bind q) (fun ds _ q J F1 H1 g1 it => ?_) (Erp.at I))
  have I1 := (I.grow g1).rebase
  have s1 : Same F0 F1 := I.hF.trans g1.ff
  have o1 : ∀ a u, H0 a = some u → noT u → F1 a = F0 a := (I.grow g1).old
  have q1 : (forR t fb ds Γ).post (OutQ X.K F1 H0 D) (Erp X.mg E F1 H0) := R.post_mono q (fun u _ q => OutQ.unbase s1 o1 q) fun n e => e
  refine ⟨fun i m σ H => m = ds.length - i ∧ i ≤ ds.length ∧ ∃ Γ F, EnvOk X.K F1 H0 F H σ Γ ∧ (forR t fb (ds.drop i) Γ).post (OutQ X.K F1 H0 D) (Erp X.mg E F1 H0), ⟨ds.length, rfl, Nat.zero_le _, Γ, F1, I1, q1⟩, ?_⟩
  rintro i m σ H ⟨rfl, hle, Γ, F, I, q⟩
  by_cases hlt : i < ds.length
  · refine .inr ⟨it.go i F H hlt ⟨I.hF, I.sub⟩, fun σ H => ∃ Γ F, EnvOk X.K F1 H0 F H σ Γ ∧ (forR t fb (ds.drop (i + 1)) Γ).post (OutQ X.K F1 H0 D) (Erp X.mg E F1 H0), fun σ' H' w => ⟨ds.length - (i + 1), by omega, rfl, hlt, w⟩, fun x H2 y => ?_⟩
    obtain ⟨d, ed⟩ := get_some hlt
    obtain ⟨F2, g2, rx⟩ := it.yld i d F H x H2 ed ⟨I.hF, I.sub⟩ y
    have e1 : ds.drop i = d :: ds.drop (i + 1) := by
      rw [List.drop_eq_getElem_cons hlt]
      rw [List.getElem?_eq_getElem hlt] at ed
      cases ed
      rfl
    rw [e1, forR] at q
    obtain ⟨Γ', e', q⟩ := noE_post (R.post_bind q)
    refine gg Γ F1 H0 F2 H2 σ x d _ (I.grow g2) rx ?_
    rw [e']
    intro σ' I' _
    refine gu Γ' F1 H0 F2 H2 σ' _ I' (R.post_imp (R.post_bind q) fun o q => ?_)
    cases o with
    | nx Γ' => exact fun σ' F2 H2 I2 => ⟨Γ', F2, I2, q⟩
    | ct Γ' => exact fun σ' F2 H2 I2 => ⟨Γ', F2, I2, q⟩
    | bk Γ' => exact q
    | rt o => exact q
  · have e : i = ds.length := by omega
    subst e
    rw [List.drop_length] at q
    exact .inl ⟨it.stop F H ⟨I.hF, I.sub⟩, q σ F H I⟩
end
end Pd

set_option Elab.async false
set_option linter.all false
set_option maxRecDepth 100000
set_option maxHeartbeats 1000000
namespace Pd
open PySem PySem.Spec L2
section
variable {X : Cx} {E : Ex T} {st : Stmt} {e a b c : PySem.Expr} {es : List PySem.Expr} {sts rest : List Stmt} {pos p p2 apos cpos : Pos} {i : Nat} {x : Str}
theorem few1 {env : Env} (h : isStar e = false) : ((backTo cpos (starEach [e] env)).all (fun x => !x.1) && (backToKw cpos (keywordEach [] env)).all (fun x => x.1.isSome)
      && decide (([e] : List PySem.Expr).length + ([] : List Keyword).length + (if ([] : List Keyword).isEmpty then 0 else 1) < 30)) = true := by
  rw [star_few (by simpa using h)]
  rfl
theorem post_okE {α : Type} {a : α} {P : α → Prop} {E : Str → Prop} (h : (R.ok a).post P E) : P a := h
def ownL (i : Nat) (Γ : Gm) : R (List D) := match Γ[i]? with
  | some (.own (.lst ds)) => .ok ds
  | _ => .stuck
theorem ownL_post {Γ : Gm} {P : List D → Prop} {E : Str → Prop} (h : (ownL i Γ).post P E) : ∃ ds, Γ[i]? = some (.own (.lst ds)) ∧ P ds := by
  unfold ownL at h
  split at h
  · exact ⟨_, by assumption, h⟩
  · exact h.elim
theorem own_list {K : PySem.W.Frag} {F0 F : Fz T} {H0 H : Hp} {σ : L2.St} {Γ : Gm} {ds : List D} (I : EnvOk K F0 H0 F H σ Γ) (e : Γ[i]? = some (.own (.lst ds))) : ∃ p xs, σ.getD i none = some (.ref p) ∧ Fre H0 p ∧ F p = none ∧ H p = some (.lst xs) ∧ Reps K F xs ds ∧ ds.length ≤ sizeLine := by
  obtain ⟨p, ev, n0, nF, ow⟩ := I.slot i _ e
  cases ow with
  | lst hH rs hl => exact ⟨p, _, ev, n0, nF, hH, rs, hl⟩
theorem own_write {K : PySem.W.Frag} {F0 F F' : Fz T} {H0 H H' : Hp} {σ : L2.St} {Γ : Gm} {ds ds' : List D} {p : Addr} {xs xs' : List V} (I : EnvOk K F0 H0 F H σ Γ) (e : Γ[i]? = some (.own (.lst ds))) (ev : σ.getD i none = some (.ref p)) (n0 : Fre H0 p) (nF : F p = none) (hH : H p = some (.lst xs))
    (gr : Grow F H F' H') (r : Reps K F' xs' ds') (l : ds'.length ≤ sizeLine) : EnvOk K F0 H0 F' (upd H' p (.lst xs')) σ (Γ.set i (.own (.lst ds'))) :=
  (I.grow gr).upd e ev n0 ((gr.old p _ hH fun _ z => nomatch z).trans nF) (.lst upd_same r l)
def sApp (i : Nat) (f : Gm → R D) : Gm → R Out := fun Γ => (ownL i Γ).bind fun ds => (f Γ).bind fun d => if ds.length < line then .ok (.nx (Γ.set i (.own (.lst (ds ++ [d]))))) else .stuck
theorem ss_app {f : Gm → R D} (hN : X.N[i]? = some x) (hv : Vis X.env.scope x) (hd : (x == ("__debug__" : Str)) = false) (hcd : (x == ("__classdict__" : Str)) = false) (h : SV X E e f) (hs : isStar e = false) (hl : (apos.endLine == cpos.line) = true) :
    SS X E (.Expr (.Call (.Attribute (.Name x p) "append" apos) [e] [] cpos) pos) (sApp i f) := by
  obtain ⟨t, pa, g⟩ := si1 h hs
  have pm := pe_bm PySem.F.plainAttrs_list PySem.F.slot_list_append PySem.F.type_list_append (apos := apos) (cpos := cpos) mt_append (pe_var (pos := p) hN hv hd hcd) pa (attr_base rfl) (few1 hs) hl (star_cons hs)
  refine ⟨_, ps_expr pm (swaps_of rfl), fun Γ F0 H0 F H σ D I q => ?_⟩
  obtain ⟨ds, e, q⟩ := ownL_post (R.post_bind q)
  obtain ⟨a, xs, ev, n0, nF, hH, rs, _⟩ := own_list I e
  refine ⟨_, getD_some ev, .inl ⟨rfl, _, .of hH⟩, g Γ F0 H0 F H σ _ I ?_⟩
  have q := R.post_err q (Erp.at (mg := X.mg) (E := E) I)
  show R.post ((f Γ).bind fun d => R.ok [d]) _ _
  cases ef : f Γ with
  | stuck => rw [ef] at q; exact q.elim
  | err n => rw [ef] at q; exact R.post_bind q
  | ok d =>
    rw [ef] at q
    have q := post_okE (R.post_bind q)
    intro vs F' H' gr rv
    obtain ⟨v, rfl, rw1⟩ := rv.one
    split at q
    · rename_i hlt
      exact ⟨a, _, v, rfl, rfl, gr.hh _ _ hH (fun _ z => nomatch z), by rw [rs.length, line_eq]; exact hlt, q σ F' _ (own_write I e ev n0 nF hH gr ((rs.mono gr.ff).append (.cons rw1 .nil)) (by rw [List.length_append, line_eq]; exact hlt))⟩
    · exact q.elim
def sExt (i : Nat) (f : Gm → R D) : Gm → R Out := fun Γ => (ownL i Γ).bind fun ds => (f Γ).bind fun d => match d with
  | .lst es => if ds.length + es.length ≤ line then .ok (.nx (Γ.set i (.own (.lst (ds ++ es))))) else .stuck
  | _ => .stuck
theorem ss_ext {f : Gm → R D} (hN : X.N[i]? = some x) (hv : Vis X.env.scope x) (hd : (x == ("__debug__" : Str)) = false) (hcd : (x == ("__classdict__" : Str)) = false) (h : SR X E e f) (hs : isStar e = false) (hl : (apos.endLine == cpos.line) = true) :
    SS X E (.Expr (.Call (.Attribute (.Name x p) "extend" apos) [e] [] cpos) pos) (sExt i f) := by
  obtain ⟨t, pa, g⟩ := sa_of (.cons h hs .nil)
  have pm := pe_bm PySem.F.plainAttrs_list PySem.F.slot_list_extend PySem.F.type_list_extend (apos := apos) (cpos := cpos) mt_extend (pe_var (pos := p) hN hv hd hcd) pa (attr_base rfl) (few1 hs) hl (star_cons hs)
  refine ⟨_, ps_expr pm (swaps_of rfl), fun Γ F0 H0 F H σ D I q => ?_⟩
  obtain ⟨ds, e, q⟩ := ownL_post (R.post_bind q)
  obtain ⟨a, xs, ev, n0, nF, hH, rs, _⟩ := own_list I e
  refine ⟨_, getD_some ev, .inl ⟨rfl, _, .of hH⟩, g Γ F0 H0 F H σ _ I ?_⟩
  have q := R.post_err q (Erp.at (mg := X.mg) (E := E) I)
  show R.post ((f Γ).bind fun d => R.ok [d]) _ _
  cases ef : f Γ with
  | stuck => rw [ef] at q; exact q.elim
  | err n => rw [ef] at q; exact R.post_bind q
  | ok d =>
    rw [ef] at q
    have q := post_okE (R.post_bind q)
    intro vs F' H' gr rv
    obtain ⟨v, rfl, rw1⟩ := rv.one
    split at q
    · rename_i es
      obtain ⟨b, zs, rfl, hb, rz, _⟩ := rw1.lst gr.sub
      split at q
      · rename_i hle
        exact ⟨a, b, _, zs, rfl, rfl, gr.hh _ _ hH (fun _ z => nomatch z), hb, by rw [rs.length, rz.length, line_eq]; exact hle, q σ F' _ (own_write I e ev n0 nF hH gr ((rs.mono gr.ff).append rz) (by rw [List.length_append, line_eq]; exact hle))⟩
      · exact q.elim
    · exact q.elim
theorem Reps.dropLast {K : PySem.W.Frag} {F : Hp} {xs : List V} {ds : List D} (r : Reps K F xs ds) : Reps K F xs.dropLast ds.dropLast := by
  rw [List.dropLast_eq_take, List.dropLast_eq_take, r.length]
  exact r.take _
def sPop (i : Nat) (k : Option Nat) : Gm → R Out := fun Γ => (ownL i Γ).bind fun ds => match ds.getLast? with
  | some d => .ok (.nx (match k with
    | some j => (Γ.set i (.own (.lst ds.dropLast))).set j (.val d)
    | none => Γ.set i (.own (.lst ds.dropLast))))
  | none => .stuck
def stoD : D → D → D → Option D
  | .lst ds, .int j, d => (ixN ds.length j).map fun k => .lst (ds.set k d)
  | .dct kvs, k, d => if isKey k = true ∧ kindK kvs k = true ∧ kvs.length < line then some (.dct (putD kvs k d)) else none
  | _, _, _ => none
def ownD (i : Nat) (Γ : Gm) : R D := match Γ[i]? with
  | some (.own d) => .ok d
  | _ => .stuck
theorem ownD_post {Γ : Gm} {P : D → Prop} {E : Str → Prop} (h : (ownD i Γ).post P E) : ∃ d, Γ[i]? = some (.own d) ∧ P d := by
  unfold ownD at h
  split at h
  · exact ⟨_, by assumption, h⟩
  · exact h.elim
def rSto : TSet := fun o i v H Q => rSetL o i v H Q ∨ rSetD o i v H Q ∨ (∃ a b k, o = .ref a ∧ i = .ref b ∧ H a = some (.dK []) ∧ H b = some (.tup (k.map kV)) ∧ Q (upd H a (.dT [(k, v)]))) ∨ ∃ a k, o = .ref a ∧ i = kV k ∧ H a = some (.dT []) ∧ Q (upd H a (.dK [(k, v)]))
theorem set_all (hu : X.A.units + 1 < cLine) : PSet X rSto := by
  intro pins s σ H o i v ov iv u Q I ro ri rv h
  rcases h with h | h | ⟨a, b, k, rfl, rfl, ha, hb, q⟩ | ⟨a, k, rfl, rfl, ha, q⟩
  · exact set_list pins s σ H o i v ov iv u Q I ro ri rv h
  · exact set_dict hu pins s σ H o i v ov iv u Q I ro ri rv h
  · have hne : b ≠ a := fun z => by subst z; rw [ha] at hb; cases hb
    have I' := inv_toT I ha
    refine set_dict hu pins s σ _ _ _ v ov iv u Q I' ro ri rv ⟨a, _, rfl, DPut.t upd_same (by rw [upd_ne hne]; exact hb) (by decide), ?_⟩
    rw [upd_upd]
    exact q
  · have I' := inv_toK I ha
    refine set_dict hu pins s σ _ _ _ v ov iv u Q I' ro ri rv ⟨a, _, rfl, DPut.k upd_same (by decide), ?_⟩
    rw [upd_upd]
    exact q
theorem putD_len (kvs : List (D × D)) (k v : D) : (putD kvs k v).length ≤ kvs.length + 1 := by
  unfold putD
  split
  · rw [List.length_map]; omega
  · rw [List.length_append]; exact Nat.le_refl _
theorem sto_of {K : PySem.W.Frag} {F : Fz T} {H : Hp} {p : Addr} {c k d c' : D} {y v : V} (s : Sub F H) (ow : OwnAt K F H p c) (ck : Cont K F H y k) (rv : Rep K F v d) (e : stoD c k d = some c') (Q : Hp → Prop) (q : ∀ o, OwnAt K F (upd H p o) p c' → Q (upd H p o)) : rSto (.ref p) y v H Q := by
  cases c with
  | lst ds =>
    cases k with
    | int j =>
      obtain ⟨n, en, rfl⟩ := Option.map_eq_some_iff.mp (show (ixN ds.length j).map _ = _ from e)
      obtain rfl := ck.int
      cases ow with
      | lst hH rs hl => exact .inl ⟨p, _, j, n, rfl, rfl, hH, by rw [rs.length]; exact en, q _ (.lst upd_same (rs.set rv n) (by rw [List.length_set]; exact hl))⟩
    | _ => cases e
  | dct kvs =>
    have e : (if isKey k = true ∧ kindK kvs k = true ∧ kvs.length < line then some (D.dct (putD kvs k d)) else none) = some c' := by
      cases k <;> exact e
    split at e
    · rename_i h
      cases e
      have ln := putD_len kvs k d
      have flat : ∀ kk : Key, k = keyD kk → y = kV kk → rSto (.ref p) y v H Q := fun kk e1 e2 => by
        subst e1 e2
        cases ow with
        | dctK hH rs hl => exact .inr (.inl ⟨p, _, rfl, DPut.k hH (by rw [rs.length, line_eq]; exact h.2.2), q _ (.dctK upd_same (rs.put kk rv) (by rw [line_eq] at hl ⊢; omega))⟩)
        | dctT hH rs hl =>
          cases rs with
          | nil => exact .inr (.inr (.inr ⟨p, kk, rfl, rfl, hH, q _ (.dctK upd_same (RepK.cons rv .nil) (by rw [line_eq]; omega))⟩))
          | @cons k' _ _ _ _ r t => cases kk <;> simp [kindK, keyT, keyD] at h
      cases k with
      | int i => exact flat (.inl i) rfl ck.int
      | str z => exact flat (.inr z) rfl ck.str
      | tup ds =>
        obtain ⟨b, xs, rfl, hb, r1, _, _⟩ := ck.tup s
        obtain ⟨ks, hks⟩ := Option.isSome_iff_exists.mp (show (keysOf? ds).isSome = true from h.1)
        have e1 := keysOf_some hks
        subst e1
        have e2 := r1.keys
        subst e2
        cases ow with
        | dctK hH rs hl =>
          cases rs with
          | nil => exact .inr (.inr (.inl ⟨p, b, ks, rfl, rfl, hH, hb, q _ (.dctT upd_same (RepT.cons rv .nil) (by rw [line_eq]; omega))⟩))
          | @cons k' _ _ _ _ r t => cases k' <;> simp [kindK, keyD] at h
        | dctT hH rs hl => exact .inr (.inl ⟨p, _, rfl, DPut.t hH hb (by rw [rs.length, line_eq]; exact h.2.2), q _ (.dctT upd_same (rs.put ks rv) (by rw [line_eq] at hl ⊢; omega))⟩)
      | _ => exact absurd h.1 (by simp [isKey])
    · cases e
  | _ => cases e
def sSto (i : Nat) (fe fk : Gm → R D) : Gm → R Out := fun Γ => (fe Γ).bind fun d => (ownD i Γ).bind fun c => (fk Γ).bind fun k => (R.of (stoD c k d)).bind fun c' => .ok (.nx (Γ.set i (.own c')))
theorem sub_assign {o i : PySem.Expr} {v : Value} {env : Env} (h : isSlice i = false) : assign (.Subscript o i pos) env v = (do
      let ov ← holding [v] (eval o env)
      let iv ← holding [v, ov] (eval i env)
      standAt pos
      holding [v, ov, iv] (setItem ov iv v)
      release [v, ov, iv] []) := by
  cases i <;> first | rfl | cases h
theorem ss_sto {k : PySem.Expr} {fe fk : Gm → R D} (hu : X.A.units + 1 < cLine) (hN : X.N[i]? = some x) (hv : Vis X.env.scope x) (hd : (x == ("__debug__" : Str)) = false) (hcd : (x == ("__classdict__" : Str)) = false) (he : SV X E e fe) (hk : SR X E k fk) (hs : isSlice k = false) :
    SS X E (.Assign [.Subscript (.Name x p) k p2] e pos) (sSto i fe fk) := by
  obtain ⟨te, pe, ge⟩ := he
  obtain ⟨tk, pk, gk⟩ := hk
  refine ⟨_, ps_asg pe (pg_sub (pe_var (pos := p) hN hv hd hcd) pk (set_all hu) fun v => sub_assign hs) ?_ ?_ rfl, fun Γ F0 H0 F H σ D I q => ?_⟩
  · show swapsWith e (some (.Subscript (.Name x p) k p2)) pos.line X.env = _
    unfold swapsWith
    cases e <;> rfl
  · unfold swappedStores
    rfl
  · refine ge Γ F0 H0 F H σ _ I (R.post_mono (R.post_bind q) (fun d _ q v F1 H1 g1 r1 => ?_) (Erp.at I))
    have I1 := I.grow g1
    obtain ⟨c, e, q⟩ := ownD_post (R.post_bind q)
    obtain ⟨a, ev, n0, nF, ow⟩ := I1.slot i _ e
    refine ⟨_, getD_some ev, gk Γ F0 H0 F1 H1 σ _ I1 (R.post_mono (R.post_bind q) (fun k _ q y F2 H2 g2 ck => ?_) (Erp.at I1))⟩
    have I2 := I1.grow g2
    obtain ⟨c', ec, q⟩ := of_post (R.post_bind q)
    obtain ⟨a', ev', n0', nF', ow'⟩ := I2.slot i _ e
    rw [ev] at ev'
    cases ev'
    exact sto_of g2.sub ow' ck (r1.mono g2.ff) ec _ fun o ow2 => q σ F2 _ (I2.upd e ev n0' nF' ow2)
structure ExcOkN (X : Cx) (n : Str) : Prop where
  ex : ∃ (C : Addr) (B newId initId : String) (bmB : List Value), ExcBaseFacts B newId initId bmB ∧ PySem.W.excIn X.K C bmB newId = true ∧ X.mg n = some (.ref C) ∧ PySem.W.keepIn X.K (.ref C) = true ∧ Raises X (.ref C)
theorem ss_raise {n m : Str} {j : Nat} {p3 : Pos} (hc : X.calm = true) (tk : Takes X (fun cls d _ H => E cls d H)) (hx : ExcOkN X n) (hg : Gl X n) (hdb : (n == ("__debug__" : Str)) = false) :
    SS X E (.Raise (some (.Call (.Name n p) [.Constant (.str m) j p2] [] p3)) none pos) (fun _ => .err n) := by
  obtain ⟨C, B, newId, initId, bmB, F, q, gC, kC, r⟩ := hx.ex
  exact ⟨_, ps_raise hc tk (pmk_own F q gC kC r hg hdb), fun Γ F0 H0 F H σ D I q => q C H gC I.hH I.sub.tb⟩
theorem ss_setLc {y : Str} {py spos : Pos} {elt tg iter : PySem.Expr} {ifs : List PySem.Expr} {scope : Scope} {own : List (Str × Nat)} {fi : Gm → R (List D)} {t : Tg} {tt : Gm → R Bool} {te : Gm → R D} (mu : Bool) (hc : X.calm = true) (hN : X.N.Nodup) (hy : X.N[i]? = some y) (hyl : X.env.scope.names.lookup y = some .local)
    (hsw : swapsWith (.ListComp elt [⟨tg, iter, ifs, 0⟩] scope pos) (some (.Name y py)) spos.line X.env = pure true) (hi : SItC X E tg iter fi) (ok : BlkOk X.N X.env.scope scope own)
    (hg : ∀ (s : Shared) (H : Hp) (C : Addr) (cl : List (Str × Addr)) (fp : List Addr), SG (X.blk s H scope (compEnvC scope cl C X.env) fp) tg t)
    (ht : ∀ (s : Shared) (H : Hp) (C : Addr) (cl : List (Str × Addr)) (fp : List Addr), STf T (X.blk s H scope (compEnvC scope cl C X.env) fp) ifs tt)
    (he : ∀ (s : Shared) (H : Hp) (C : Addr) (cl : List (Str × Addr)) (fp : List Addr), SV (X.blk s H scope (compEnvC scope cl C X.env) fp) (EN_ T) elt te)
    (hs : isSetE iter = false) (hv : ∀ i ∈ t.ix, i ∈ own.map (·.2)) : SS X E (.Assign [.Name y py] (.ListComp elt [⟨tg, iter, ifs, 0⟩] scope pos) spos) (sSet mu i (eLc fi t tt te (own.map (·.2)))) := by
  obtain ⟨wi, pi, gi⟩ := hi
  exact ⟨_, ps_setLc hc hN hy hyl hsw pi ok (fun s H C cl fp => SG.of (hg s H C cl fp)) (fun s H C cl fp => STf.of (ht s H C cl fp)) (fun s H C cl fp => SV.of (EN_ T) (he s H C cl fp)) (folded_of hs), gs_set mu i (ge_lc hv gi)⟩
end
end Pd

set_option Elab.async false
set_option linter.all false
set_option maxRecDepth 100000
set_option maxHeartbeats 1000000
namespace Pd
open PySem PySem.Spec L2

structure Gl5 where
  P : Program
  w : World
  K : PySem.W.Frag
  mg : Str → Option Value
  base : Heap
abbrev gOf (X : Cx) : Gl5 := ⟨X.prog, X.w, X.K, X.mg, X.base⟩
structure DefG (G : Gl5) (k : Nat) (x : Str) (n : Nat) (φ : List Sl → R O) : Prop where
  ex : ∃ (f : Addr) (fd : FuncData) (ps : List Str), FnOk G.P G.w G.K G.mg G.base (L2.CX G.P G.w) k f fd ps (spOf G.K G.mg n φ) ∧ G.mg x = some (.ref f) ∧ PySem.W.keepIn G.K (.ref f) = true ∧ Binds G.K fd ps []
structure ExcG (G : Gl5) (n : Str) : Prop where
  ex : ∃ (C : Addr) (B newId initId : String) (bmB : List Value), ExcBaseFacts B newId initId bmB ∧ PySem.W.excIn G.K C bmB newId = true ∧ G.mg n = some (.ref C) ∧ PySem.W.keepIn G.K (.ref C) = true ∧
    PySem.W.subIn G.K (.ref C) (.type "BaseException") = some true ∧ PySem.W.typeIn G.K (.ref C) = some (.type "type")
structure CstG (G : Gl5) (x : Str) (d : D) : Prop where
  ex : ∃ (u : Value) (v : V), G.mg x = some u ∧ RelV v u ∧ ∀ F, Rep G.K F v d
def BltG (G : Gl5) (x : Str) : Prop := G.mg x = none
structure Cok (X : Cx) (E : Ex T) (G : Gl5) (k : Nat) (N : List Str) (sc : Scope) (fnb : Str → Bool) : Prop where
  g : gOf X = G
  calm : X.calm = true
  hN : X.N = N
  nd : N.Nodup
  sc : X.env.scope = sc
  fn : ∀ x, fnb x = true → X.fn x = true
  hu : X.A.units + 100 < cLine
  room : Room k X.A
  tk : Takes X (fun cls d _ H => E cls d H)
structure Sok (X : Cx) : Prop where
  po : PassesOwn (model X.prog X.w) X.A X.env X.xe
def fnAll : Str → Bool := fun _ => true
def fnBlk (scope : Scope) : Str → Bool := fun x => scope.names.lookup x == some .cell
section
variable {X : Cx} {E : Ex T} {G : Gl5} {k : Nat} {N : List Str} {sc : Scope} {fnb : Str → Bool}
theorem Cok.blk (C : Cok X E G k N sc fnb) (s : Shared) (H : Hp) (scope : Scope) (c : Addr) (cl : List (Str × Addr)) (fp : List Addr) :
    Cok (X.blk s H scope (compEnvC scope cl c X.env) fp) (EN_ T) G k N (relS scope sc) (fnBlk scope) :=
  ⟨C.g, C.calm, C.hN, C.nd, by rw [← C.sc]; rfl, fun x h => h, C.hu, C.room, takes0⟩
def visB (sc : Scope) (x : Str) : Bool := sc.names.lookup x == some .local || sc.names.lookup x == some .cell || sc.names.lookup x == some .free
def varB (N : List Str) (sc : Scope) (i : Nat) (x : Str) : Bool := N[i]? == some x && visB sc x && !(x == ("__debug__" : Str)) && !(x == ("__classdict__" : Str))
def stoB (N : List Str) (sc : Scope) (fnb : Str → Bool) (i : Nat) (x : Str) : Bool := N[i]? == some x && ((sc.names.lookup x == some .local) || (sc.names.lookup x == some .cell && fnb x))
def gloB (sc : Scope) (x : Str) : Bool := sc.names.lookup x == some .globalImplicit && !(x == ("__debug__" : Str))
theorem lk_of {sc : Scope} {x : Str} {k : NameKind} (h : (sc.names.lookup x == some k) = true) : sc.names.lookup x = some k := by
  cases e : sc.names.lookup x with
  | none => rw [e] at h; cases h
  | some k' =>
    rw [e] at h
    cases k <;> cases k' <;> first | rfl | cases h
theorem Cok.var (C : Cok X E G k N sc fnb) {i : Nat} {x : Str} (h : varB N sc i x = true) : X.N[i]? = some x ∧ Vis X.env.scope x ∧ (x == ("__debug__" : Str)) = false ∧ (x == ("__classdict__" : Str)) = false := by
  unfold varB visB at h
  simp only [Bool.and_eq_true, Bool.or_eq_true, Bool.not_eq_true'] at h
  obtain ⟨⟨⟨h1, h2⟩, h3⟩, h4⟩ := h
  refine ⟨by rw [C.hN]; exact eq_of_beq h1, ?_, h3, h4⟩
  rw [C.sc]
  rcases h2 with (h2 | h2) | h2
  · exact .inl (lk_of h2)
  · exact .inr (.inl (lk_of h2))
  · exact .inr (.inr (lk_of h2))
theorem Cok.sto (C : Cok X E G k N sc fnb) {i : Nat} {x : Str} (h : stoB N sc fnb i x = true) : X.N[i]? = some x ∧ Loc X.env.scope x ∧ (X.fn x = true ∨ X.env.scope.names.lookup x = some .local) := by
  unfold stoB at h
  simp only [Bool.and_eq_true, Bool.or_eq_true] at h
  obtain ⟨h1, h2⟩ := h
  refine ⟨by rw [C.hN]; exact eq_of_beq h1, ?_⟩
  rw [C.sc]
  rcases h2 with h2 | ⟨h2, h3⟩
  · exact ⟨.inl (lk_of h2), .inr (lk_of h2)⟩
  · exact ⟨.inr (lk_of h2), .inl (C.fn x h3)⟩
theorem Cok.glo (C : Cok X E G k N sc fnb) {x : Str} (h : gloB sc x = true) : Gl X x ∧ (x == ("__debug__" : Str)) = false := by
  unfold gloB at h
  simp only [Bool.and_eq_true, Bool.not_eq_true'] at h
  refine ⟨?_, h.2⟩
  show X.env.scope.names.lookup x = _
  rw [C.sc]
  exact lk_of h.1
theorem Cok.no (C : Cok X E G k N sc fnb) {x : Str} (h : BltG G x) : X.mg x = none := by
  have e := C.g; subst e; exact h
section
variable {e a b c tg iter elt : PySem.Expr} {es : List PySem.Expr} {pos p p2 p3 apos cpos : Pos} {i j : Nat} {x y : Str} {st : Stmt} {sts rest : List Stmt}
theorem n_e (C : Cok X E G k N sc fnb) (h : varB N sc i x = true) : SE X E (.Name x pos) (eVar i) := let ⟨a, b, c, d⟩ := C.var h; se_var a b c d
theorem n_r (C : Cok X E G k N sc fnb) (h : varB N sc i x = true) : SR X E (.Name x pos) (rVar i) := let ⟨a, b, c, d⟩ := C.var h; sr_var a b c d
theorem n_u (C : Cok X E G k N sc fnb) (h : varB N sc i x = true) : SU X E (.Name x pos) (uVar i) := let ⟨a, b, c, d⟩ := C.var h; su_var a b c d
theorem n_g (C : Cok X E G k N sc fnb) {d : D} (h : gloB sc x = true) (c : CstG G x d) : SE X E (.Name x pos) (eC d) := by
  have e := C.g; subst e
  obtain ⟨u, v, hm, r, hr⟩ := c.ex
  exact se_glob (C.glo h).1 hm r hr (C.glo h).2
def tyOf : List (Str × String) := [("int", "int"), ("bool", "bool"), ("str", "str"), ("tuple", "tuple"), ("list", "list"), ("dict", "dict")]
theorem n_t (C : Cok X E G k N sc fnb) {n : String} (h : gloB sc x = true) (hb : BltG G x) (hv : bootBuiltins x = some (.type n)) (hn : x ≠ "__name__") : SE X E (.Name x pos) (eC (.ty n)) :=
  se_type (C.glo h).1 (C.no hb) hv hn (C.glo h).2
theorem t_name (C : Cok X E G k N sc fnb) (h : stoB N sc fnb i x = true) : SG X (.Name x pos) (.nm i) := let ⟨a, b, c⟩ := C.sto h; sg_name (by rw [C.hN]; exact C.nd) a b c
theorem t_tup (C : Cok X E G k N sc fnb) {ts : List Tg} {m : Nat} (h : SGs X es ts) (hl : es.length = ts.length := by rfl) (hs : es.all (fun e => !isStar e) = true := by rfl) : SG X (.Tuple es m pos) (.tp ts) := sg_tup C.calm h hl hs
theorem c_blt (C : Cok X E G k N sc fnb) {f : List D → Option O} {fs : List (Gm → R D)} (hf : bFn x = some f) (h : gloB sc x = true) (hb : BltG G x) (ha : SRs X E (e :: es) fs) : SE X E (.Call (.Name x p) (e :: es) [] pos) (eCall f (seqR fs)) := by
  obtain ⟨b1, b2, b3⟩ := bFn_ok C.calm hf
  exact se_call b1 b2 b3 (C.glo h).1 (C.no hb) ha
theorem c_def (C : Cok X E G k N sc fnb) {m n : Nat} {φ : List Sl → R O} {fs : List (Gm → R Sl)} (D : DefG G m x n φ) (h : gloB sc x = true) (ha : SUs X E es fs) (hm : m ≤ k := by decide) (hn : fs.length = n := by rfl) : SE X E (.Call (.Name x p) es [] pos) (eUser φ (seqR fs)) := by
  have e := C.g; subst e
  exact se_user ⟨let ⟨f, fd, ps, F, q⟩ := D.ex; ⟨f, fd, ps, F.mono hm, q⟩⟩ C.room C.tk (C.glo h).1 (C.glo h).2 hn ha
theorem s_raise (C : Cok X E G k N sc fnb) {m : Str} {j : Nat} (hx : ExcG G x) (h : gloB sc x = true) : SS X E (.Raise (some (.Call (.Name x p) [.Constant (.str m) j p2] [] p3)) none pos) (fun _ => .err x) := by
  have e := C.g; subst e
  obtain ⟨C', B, newId, initId, bmB, F, q, gC, kC, r1, r2⟩ := hx.ex
  exact ss_raise C.calm C.tk ⟨C', B, newId, initId, bmB, F, q, gC, kC, raises_own r1 r2⟩ (C.glo h).1 (C.glo h).2
variable {scope : Scope} {own : List (Str × Nat)} {ifs : List PySem.Expr}
theorem c_lc (C : Cok X E G k N sc fnb) {fi : Gm → R (List D)} {t : Tg} {tt : Gm → R Bool} {te : Gm → R D} (own : List (Str × Nat)) (hi : SItC X E tg iter fi) (ok : blkC N sc scope own = true)
    (hg : ∀ Y, Cok Y (EN_ T) G k N (relS scope sc) (fnBlk scope) → SG Y tg t) (ht : ∀ Y, Cok Y (EN_ T) G k N (relS scope sc) (fnBlk scope) → STf T Y ifs tt) (he : ∀ Y, Cok Y (EN_ T) G k N (relS scope sc) (fnBlk scope) → SV Y (EN_ T) elt te)
    (hs : isSetE iter = false := by rfl) (hv : ∀ i ∈ t.ix, i ∈ own.map (·.2) := by decide) : SE X E (.ListComp elt [⟨tg, iter, ifs, 0⟩] scope pos) (eLc fi t tt te (own.map (·.2))) :=
  se_lc C.calm (by rw [C.hN]; exact C.nd) hi (by rw [C.hN, C.sc]; exact blkOk_by ok) (fun s H c cl fp => hg _ (C.blk s H scope c cl fp)) (fun s H c cl fp => ht _ (C.blk s H scope c cl fp)) (fun s H c cl fp => he _ (C.blk s H scope c cl fp)) hs hv
def swB (sc scope : Scope) (y : Str) (py pos : Pos) : Bool := sc.kind == .function && sc.names.lookup y == some .local && py.line == pos.line && !(scope.names.any fun (n, k) => n == y && (k == .local || k == .cell))
theorem s_setLc (C : Cok X E G k N sc fnb) {fi : Gm → R (List D)} {t : Tg} {tt : Gm → R Bool} {te : Gm → R D} (mu : Bool) (own : List (Str × Nat)) (hy : stoB N sc fnb i y = true) (sw : swB sc scope y p pos = true) (hi : SItC X E tg iter fi) (ok : blkC N sc scope own = true)
    (hg : ∀ Y, Cok Y (EN_ T) G k N (relS scope sc) (fnBlk scope) → SG Y tg t) (ht : ∀ Y, Cok Y (EN_ T) G k N (relS scope sc) (fnBlk scope) → STf T Y ifs tt) (he : ∀ Y, Cok Y (EN_ T) G k N (relS scope sc) (fnBlk scope) → SV Y (EN_ T) elt te)
    (hs : isSetE iter = false := by rfl) (hv : ∀ i ∈ t.ix, i ∈ own.map (·.2) := by decide) : SS X E (.Assign [.Name y p] (.ListComp elt [⟨tg, iter, ifs, 0⟩] scope pos) p2) (sSet mu i (eLc fi t tt te (own.map (·.2)))) := by
  unfold swB at sw
  simp only [Bool.and_eq_true, Bool.not_eq_true'] at sw
  obtain ⟨⟨⟨w1, w2⟩, w3⟩, w4⟩ := sw
  have w1' : sc.kind = .function := by
    cases e : sc.kind <;> rw [e] at w1 <;> first | rfl | cases w1
  have yl : X.env.scope.names.lookup y = some .local := by rw [C.sc]; exact lk_of w2
  exact ss_setLc mu C.calm (by rw [C.hN]; exact C.nd) (C.sto hy).1 yl (sw_true (by rw [C.sc]; exact w1') yl w3 w4) hi (by rw [C.hN, C.sc]; exact blkOk_by ok) (fun s H c cl fp => hg _ (C.blk s H scope c cl fp)) (fun s H c cl fp => ht _ (C.blk s H scope c cl fp)) (fun s H c cl fp => he _ (C.blk s H scope c cl fp)) hs hv
theorem s_set (C : Cok X E G k N sc fnb) {f : Gm → R O} (mu : Bool) (hy : stoB N sc fnb i y = true) (he : SE X E e f) (hs : isComp e = false := by rfl) : SS X E (.Assign [.Name y p] e pos) (sSet mu i f) :=
  ss_set mu (by rw [C.hN]; exact C.nd) (C.sto hy).1 (C.sto hy).2.1 (C.sto hy).2.2 he (swaps_of hs)
theorem swSole {tg e : PySem.Expr} {l : Nat} {env : Env} (h : isName tg = false) : swapsWithSole [tg] e l env = pure false := by
  show swapsWith e (some tg) l env = _
  unfold swapsWith
  cases tg <;> first | (cases h; done) | (cases e <;> rfl)
def isTupE : PySem.Expr → Bool
  | .Tuple .. => true
  | _ => false
theorem s_asg (C : Cok X E G k N sc fnb) {tg : PySem.Expr} {t : Tg} {f : Gm → R D} (h : SV X E e f) (hg : SG X tg t) (h1 : isName tg = false := by rfl) (h2 : isTupE e = false := by rfl) (h3 : isStar tg = false := by rfl) : SS X E (.Assign [tg] e pos) (sAsg t f) :=
  ss_asg h hg (swSole h1) (by
    unfold swappedStores
    cases e <;> first | (cases h2; done) | (cases tg <;> rfl)) h3
def parB (sc : Scope) (x y : Str) (px py : Pos) (a b : PySem.Expr) : Bool := sc.kind == .function && sc.names.lookup x == some .local && sc.names.lookup y == some .local && px.line == py.line && !(x == y) && !isStar a && !isStar b && !(foldedForSure 8 a && foldedForSure 8 b) && !(constantsAlone 8 a && constantsAlone 8 b)
theorem par_swapped {env : Env} {x y : Str} {px py pt pt2 : Pos} {kt k2 : Nat} (hs : env.scope = sc) (h : parB sc x y px py a b = true) : swappedStores [.Tuple [.Name x px, .Name y py] kt pt] (.Tuple [a, b] k2 pt2) env = pure (some [x, y]) := by
  unfold parB at h
  simp only [Bool.and_eq_true, Bool.not_eq_true'] at h
  obtain ⟨⟨⟨⟨⟨⟨⟨⟨h1, h2⟩, h3⟩, h4⟩, h5⟩, h6⟩, h7⟩, h8⟩, h9⟩ := h
  have e1 : sc.kind = .function := by
    cases e : sc.kind <;> rw [e] at h1 <;> first | rfl | cases h1
  have e2 : env.blockKind = .function := by unfold Env.blockKind; rw [hs, e1]; rfl
  have s1 : (env.kindOf x == some .local) = true := by show (env.scope.names.lookup x == some .local) = true; rw [hs]; exact h2
  have s2 : (env.kindOf y == some .local) = true := by show (env.scope.names.lookup y == some .local) = true; rw [hs]; exact h3
  have st : ([a, b].any fun | .Starred .. => true | _ => false) = false := by
    cases a <;> first | (cases h6; done) | (cases b <;> first | (cases h7; done) | rfl)
  have ln : (py.line == px.line) = true := by rw [beq_iff_eq] at h4 ⊢; exact h4.symm
  have f1 : ([a, b].all (foldedForSure 8)) = false := by simpa using h8
  have f2 : ([a, b].all (constantsAlone 8)) = false := by simpa using h9
  have nb : (x != y) = true := by rw [bne, h5]; rfl
  have nb2 : (y == x) = false := by
    cases q : y == x with
    | false => rfl
    | true =>
      rw [eq_of_beq q] at h5
      simp at h5
  unfold swappedStores
  simp only [e2, st, f1, f2, List.filterMap, s1, s2, ln, Expr.pos, List.head?, Option.map, Option.getD, beq_self_eq_true, Bool.and_self]
  simp only [List.any_cons, List.any_nil, Bool.or_false, Bool.or_eq_false_iff] at st
  simp [List.eraseDups, List.eraseDupsBy, List.eraseDupsBy.loop, nb2]
  intro q
  rcases q with q | q
  · exact absurd (q.symm.trans st.1) (by decide)
  · exact absurd (q.symm.trans st.2) (by decide)
end
end
end Pd

set_option Elab.async false
set_option linter.all false
set_option maxRecDepth 100000
set_option maxHeartbeats 1000000
namespace Pd
open PySem PySem.Spec L2
section
variable {X : Cx} {E : Ex T} {G : Gl5} {k : Nat} {N : List Str} {sc : Scope} {fnb : Str → Bool}
variable {e a b c tg iter elt : PySem.Expr} {es : List PySem.Expr} {pos p p2 p3 apos cpos : Pos} {i j : Nat} {x y : Str} {st : Stmt} {sts rest : List Stmt}
theorem s_par (C : Cok X E G k N sc fnb) {px py pt pt2 : Pos} {kt k2 : Nat} {f : Gm → R (List D)} (hi : stoB N sc fnb i x = true) (hj : stoB N sc fnb j y = true) (hp : parB sc x y px py a b = true) (ha : SI X E [a, b] f) (hij : i ≠ j := by decide) :
    SS X E (.Assign [.Tuple [.Name x px, .Name y py] kt pt] (.Tuple [a, b] k2 pt2) pos) (sPar i j f) := by
  have h := hp
  unfold parB at h
  simp only [Bool.and_eq_true, Bool.not_eq_true'] at h
  exact ss_par C.calm (by rw [C.hN]; exact C.nd) (C.sto hi).1 (C.sto hj).1 hij (by rw [C.sc]; exact lk_of h.1.1.1.1.1.1.1.2) (by rw [C.sc]; exact lk_of h.1.1.1.1.1.1.2) ha (par_swapped C.sc hp)
theorem s_app (C : Cok X E G k N sc fnb) {f : Gm → R D} (h : varB N sc i x = true) (he : SV X E e f) (hs : isStar e = false := by rfl) (hl : (apos.endLine == cpos.line) = true := by rfl) :
    SS X E (.Expr (.Call (.Attribute (.Name x p) "append" apos) [e] [] cpos) pos) (sApp i f) := let ⟨a, b, c, d⟩ := C.var h; ss_app a b c d he hs hl
theorem s_ext (C : Cok X E G k N sc fnb) {f : Gm → R D} (h : varB N sc i x = true) (he : SR X E e f) (hs : isStar e = false := by rfl) (hl : (apos.endLine == cpos.line) = true := by rfl) :
    SS X E (.Expr (.Call (.Attribute (.Name x p) "extend" apos) [e] [] cpos) pos) (sExt i f) := let ⟨a, b, c, d⟩ := C.var h; ss_ext a b c d he hs hl
theorem s_sto (C : Cok X E G k N sc fnb) {f : PySem.Expr} {fe fk : Gm → R D} (h : varB N sc i x = true) (he : SV X E e fe) (hk : SR X E f fk) (hs : isSlice f = false := by rfl) : SS X E (.Assign [.Subscript (.Name x p) f p2] e pos) (sSto i fe fk) :=
  let ⟨a, b, c, d⟩ := C.var h; ss_sto (by have := C.hu; omega) a b c d he hk hs
theorem s_retV (C : Cok X E G k N sc fnb) (h : varB N sc i x = true) : SS X E (.Return (some (.Name x p)) pos) (sRetV i) := let ⟨a, b, c, d⟩ := C.var h; ss_retV a b c d
theorem s_expr {f : Gm → R D} (h : SR X E e f) (hc : isComp e = false := by rfl) : SS X E (.Expr e pos) (sExpr f) := ss_expr h hc
theorem s_while (S : Sok X) {fc : Gm → R Bool} {fb : Gm → R Out} (n : Nat) (hc : ST X E c fc) (hb : SB X E sts fb) : SS X E (.While c sts [] pos) (whR fc fb n) := ss_while n S.po hc hb
theorem s_for (C : Cok X E G k N sc fnb) (S : Sok X) {fi : Gm → R (List D)} {t : Tg} {fb : Gm → R Out} (hi : SItF X E tg iter fi) (hg : SG X tg t) (hb : SB X E sts fb) (hs : isSetE iter = false := by rfl) : SS X E (.For tg iter sts [] pos) (sFor fi t fb) := ss_for S.po C.calm hi hg hb hs
theorem i_rng1 (C : Cok X E G k N sc fnb) {f : Gm → R D} (hg : gloB sc "range" = true) (hm : BltG G "range") (h : SR X E a f) (hs : isStar a = false := by rfl) : SItF X E tg (.Call (.Name "range" p) [a] [] pos) (iOf rngF1 (seqR [f])) := sit_rng1 (C.glo hg).1 (C.no hm) h hs
theorem i_rng2 (C : Cok X E G k N sc fnb) {f g : Gm → R D} (hg : gloB sc "range" = true) (hm : BltG G "range") (h : SR X E a f) (h2 : SR X E b g) (hs : isStar a = false := by rfl) (hs2 : isStar b = false := by rfl) :
    SItF X E tg (.Call (.Name "range" p) [a, b] [] pos) (iOf rngF2 (seqR [f, g])) := sit_rng2 (C.glo hg).1 (C.no hm) h hs h2 hs2
variable {elts : List PySem.Expr} {kk : Nat} {tpos : Pos}
theorem e_cmp (C : Cok X E G k N sc fnb) {op : CmpOp} {fa fb : Gm → R D} (ha : SR X E a fa) (hb : SR X E b fb) (hs : isSetE b = false := by rfl) : SE X E (.Compare a [op] [b] pos) (e2 (dCmp op) fa fb) := se_cmp C.hu ha hb hs
theorem t_cmp (C : Cok X E G k N sc fnb) {op : CmpOp} {fa fb : Gm → R D} (ha : SR X E a fa) (hb : SR X E b fb) (hs : isSetE b = false := by rfl) : ST X E (.Compare a [op] [b] pos) (isB (e2 (dCmp op) fa fb)) := st_cmp C.hu ha hb hs
theorem e_chain (C : Cok X E G k N sc fnb) {op op' : CmpOp} {fa fb fc : Gm → R D} (ha : SR X E a fa) (hb : SR X E b fb) (hc : SR X E c fc) (hs : isSetE c = false := by rfl) : SE X E (.Compare a [op, op'] [b, c] pos) (e3 (dCmp op) (dCmp op') fa fb fc) := se_chain C.hu ha hb hc hs
theorem t_tru {f : Gm → R D} (h : SR X E e f) (hl : isLogic e = false := by rfl) : ST X E e (tTru f) := st_truth h hl
theorem e_ix (C : Cok X E G k N sc fnb) {fa fb : Gm → R D} (ha : SR X E a fa) (hb : SR X E b fb) (hs : isSlice b = false := by rfl) : SE X E (.Subscript a b pos) (e2 dIx fa fb) := se_ix (by have := C.hu; omega) ha hb hs
theorem a_cons {f : Gm → R D} {fs : List (Gm → R D)} (h : SR X E e f) (t : SRs X E es fs) (hs : isStar e = false := by rfl) : SRs X E (e :: es) (f :: fs) := .cons h hs t
theorem v_cons {f : Gm → R D} {fs : List (Gm → R D)} (h : SV X E e f) (t : SVs X E es fs) (hs : isStar e = false := by rfl) : SVs X E (e :: es) (f :: fs) := .cons h hs t
theorem u_cons {f : Gm → R Sl} {fs : List (Gm → R Sl)} (h : SU X E e f) (t : SUs X E es fs) (hs : isStar e = false := by rfl) : SUs X E (e :: es) (f :: fs) := .cons h hs t
theorem g_cons {t : Tg} {ts : List Tg} (h : SG X e t) (h2 : SGs X es ts) (hs : isStar e = false := by rfl) : SGs X (e :: es) (t :: ts) := sgs_cons h hs h2
theorem f_none : STf T X [] (fun _ => .ok true) := .inl ⟨rfl, rfl⟩
theorem f_one {f : Gm → R Bool} (h : ST X (EN_ T) c f) : STf T X [c] f := .inr ⟨c, rfl, h⟩
end
def retO : Out → R O
  | .rt o => .ok o
  | .nx _ => .ok (.v .non)
  | _ => .stuck
def defF (m : Nat) (f : Gm → R Out) : List Sl → R O := fun ss => (f (ss ++ List.replicate m .un)).bind retO
section
variable {P : Program} {w : World} {K : PySem.W.Frag} {mg : Str → Option Value} {base : Heap}
theorem start_ok {F : Fz T} {H : Hp} {vs : List V} {ss : List Sl} {N : List Str} {m : Nat} (s : Sub F H) (r : SlVs K F H vs ss) (hm : N.length = vs.length + m) : EnvOk K F H F H (L2.start N vs) (ss ++ List.replicate m .un) := by
  have e : N.length - vs.length = m := by omega
  unfold L2.start
  rw [e]
  have ll := r.length
  refine ⟨Ext.refl _, Same.refl _, s, fun _ _ _ _ => rfl, by simp [ll], fun i sl ei => ?_, fun i j p d1 d2 e1 _ _ _ => ?_⟩
  · by_cases hi : i < ss.length
    · rw [List.getElem?_append_left hi] at ei
      have get : ∀ {vs : List V} {ss : List Sl}, SlVs K F H vs ss → ∀ (i : Nat) (sl : Sl), ss[i]? = some sl → ∃ v, vs[i]? = some v ∧ SlV K F H v sl := by
        intro vs ss r
        induction r with
        | nil => intro i sl h; simp at h
        | cons a t ih =>
          intro i sl h
          cases i with
          | zero => simp at h; subst h; exact ⟨_, rfl, a⟩
          | succ i => simp at h; obtain ⟨v, h1, h2⟩ := ih i sl h; exact ⟨v, by simpa using h1, h2⟩
      obtain ⟨v, hv, rv⟩ := get r i sl ei
      have eg : (List.map some vs ++ List.replicate m none).getD i none = some v := by
        rw [List.getD_eq_getElem?_getD, List.getElem?_append_left (by rw [List.length_map]; omega), List.getElem?_map, hv]
        rfl
      rw [eg]
      cases sl with
      | un => trivial
      | val d => exact ⟨v, rfl, rv⟩
      | bor d => obtain ⟨p, rfl, o⟩ := rv; exact ⟨p, rfl, o⟩
      | own d => exact rv.elim
    · rw [List.getElem?_append_right (by omega), List.getElem?_replicate] at ei
      split at ei
      · cases ei; trivial
      · cases ei
  · have no : ∀ {vs : List V} {ss : List Sl}, SlVs K F H vs ss → ∀ (i : Nat) (d : D), ss[i]? ≠ some (.own d) := by
      intro vs ss r
      induction r with
      | nil => intro i d h; simp at h
      | cons a t ih =>
        intro i d h
        cases i with
        | zero => simp at h; subst h; exact a
        | succ i => simp at h; exact ih i d h
    by_cases hi : i < ss.length
    · rw [List.getElem?_append_left hi] at e1
      exact absurd e1 (no r i d1)
    · rw [List.getElem?_append_right (by omega), List.getElem?_replicate] at e1
      split at e1 <;> cases e1
theorem room100 {k : Nat} {A : Around} (hr : Room k A) : A.units + 100 < cLine := by have := hr.un; omega
theorem def_ok {x qual : Str} {st : Stmt} {f : Addr} {fd : FuncData} {N ps : List Str} {k n m : Nat} {fn : Gm → R Out} (F : L2.Fun K x qual st f fd) (S : FnScope N ps (L2.defScope st)) (hn : ps.length = n) (hm : N.length = n + m)
    (hb : ∀ (X : Cx) (T : List (Addr × Str)) (E : Ex T), Cok X E ⟨P, w, K, mg, base⟩ k N (L2.defScope st) fnAll → Sok X → SB X E (L2.defBody st) fn) : FnOk P w K mg base (L2.CX P w) (k + 1) f fd ps (spOf K mg n (defF m fn)) := by
  refine F.okX S (fun vs H Q E h => by rw [hn]; exact h.1) (fun cdv A outer s H vs Q E hr h => ?_)
  obtain ⟨hl, T, F0, ss, sb, sv, q⟩ := h
  have tk : Takes (cxOf (L2.CX P w) P w K mg base N qual (L2.defScope st) f cdv A outer s H E) (fun cls d _ H => E cls d H) := takes_of rfl rfl rfl rfl
  have C : Cok (cxOf (L2.CX P w) P w K mg base N qual (L2.defScope st) f cdv A outer s H E) (⟨E⟩ : Ex T) ⟨P, w, K, mg, base⟩ k N (L2.defScope st) fnAll :=
    ⟨rfl, rfl, rfl, S.nd, rfl, fun _ _ => rfl, room100 hr, hr, tk⟩
  obtain ⟨t, p, g⟩ := hb _ T ⟨E⟩ C ⟨passes_of rfl⟩
  refine ⟨t, p, g _ F0 H F0 H _ _ (start_ok sb sv (by omega)) (R.post_mono (R.post_bind q) (fun o _ q => ?_) fun n e => e)⟩
  cases o with
  | nx Γ => exact fun σ F' H' I => q .non F' H' I.all .non
  | bk Γ => exact q.elim
  | ct Γ => exact q.elim
  | rt o => exact q
theorem def_g {x : Str} {st : Stmt} {f : Addr} {fd : FuncData} {N ps : List Str} {k n m : Nat} {fn : Gm → R Out} (F : L2.Fun K x x st f fd) (hf : mg x = some (.ref f)) (B : Binds K fd ps []) (S : FnScope N ps (L2.defScope st)) (hn : ps.length = n) (hm : N.length = n + m)
    (hb : ∀ (X : Cx) (T : List (Addr × Str)) (E : Ex T), Cok X E ⟨P, w, K, mg, base⟩ k N (L2.defScope st) fnAll → Sok X → SB X E (L2.defBody st) fn) : DefG ⟨P, w, K, mg, base⟩ (k + 1) x n (defF m fn) :=
  ⟨f, fd, ps, def_ok F S hn hm hb, hf, F.kp, B⟩
def hidT (H : Hp) : Hp := fun b => match H b with
  | some (.tbl _) => none
  | o => o
theorem hidT_some {H : Hp} {b : Addr} {o : HO} (e : hidT H b = some o) : H b = some o ∧ noT o := by
  unfold hidT at e
  split at e
  · cases e
  · rename_i h
    exact ⟨e, fun ps z => h ps (by rw [e, z])⟩
theorem hidT_of {H : Hp} {b : Addr} {o : HO} (e : H b = some o) (n : noT o) : hidT H b = some o := by
  unfold hidT
  split
  · rename_i ps h
    rw [e] at h
    exact absurd (Option.some.inj h) (n ps)
  · exact e
theorem hid_sub {T : List (Addr × Str)} {H : Hp} (h : LamX.Tabs T H) : Sub (⟨hidT H⟩ : Fz T) H := ⟨fun a o e => .inl (hidT_some e).1, fun a ps e => (hidT_some e).2 ps rfl, h⟩
theorem hid_seq {H : Hp} {a : Addr} {xs : List V} (h : SqL K H a xs) : SqL K (hidT H) a xs := by
  rcases h with (h | ⟨o, h⟩) | h
  · exact .inl (.inl (hidT_of h fun _ z => nomatch z))
  · exact .inl (.inr ⟨o, hidT_of h fun _ z => nomatch z⟩)
  · exact .inr h
def spAll (K : PySem.W.Frag) (n : Nat) (φ : List Sl → R O) : Sp := fun vs H Q E => ∀ mg, spOf K mg n φ vs H Q E
end
end Pd

set_option Elab.async false
set_option linter.all false
set_option maxRecDepth 100000
set_option maxHeartbeats 4000000
namespace Pd
open PySem PySem.Spec L2 PyProof.Rows

abbrev fso (w : World) : Obj := { cls := .type "set", dict := none, data := .set #[] 0 (.fresh 0 0 (!w.params.followText "set-order")) }
section
variable {P : Program} {w : World} {A : Around} {E : Value → Shared → Prop} {s : Shared}
def SetMade (w : World) (s : Shared) (ns : List Int) (h' : Heap) (c : Nat) : Prop :=
  SetR w h' s.heap.objs.size (fun j => decide (j ∈ ns)) c ∧ c ≤ ns.length ∧ ∀ b o, s.heap.get? b = some o → h'.get? b = some o
theorem fill_list {l : Addr} {items : Array Value} (ns : List Int) (no : A.handled = none) (il : s.heap.IsList l items) (ia : IntsAre items.toList ns) (small : ns.length + 1 < scanBound)
    {R : Result → Shared → Prop} (k : ∀ (h' : Heap) (tk c : Nat), SetMade w s ns h' c → R (.ok (.ret .none)) { s with heap := h', toks := tk }) :
    codeAny (model P w) A (.builtin "set.update.loop" ⟨[.ref s.heap.objs.size, .ref (s.heap.objs.size + 1)], []⟩) R
      { s with heap := (s.heap.push (fso w)).push { cls := .type "list_iterator", data := .fields #[.ref l, .int 0 0] } } := by
  have len : items.size = ns.length := by
    have := IntsAre.length ia
    rwa [Array.length_toList] at this
  have below : l < s.heap.objs.size := let ⟨_, e, _⟩ := il; Heap.lt_size e
  have apart : l ≠ s.heap.objs.size + 1 := Nat.ne_of_lt (Nat.lt_succ_of_lt below)
  have sz : (s.heap.push (fso w)).objs.size = s.heap.objs.size + 1 := Heap.size_push ..
  have off : s.heap.objs.size ∉ [s.heap.objs.size + 1, l] := by
    simp only [List.mem_cons, List.not_mem_nil, or_false, not_or]
    exact ⟨Nat.ne_of_lt (Nat.lt_succ_self _), Nat.ne_of_gt below⟩
  have each : ∀ (i : Nat) (v : Value), items[i]? = some v → ∃ k t, ns[i]? = some k ∧ v = .int k t := fun i v e => by
    have lt : i < ns.length := by
      rw [← len]
      exact (Array.getElem?_eq_some_iff.mp e).1
    obtain ⟨t, q⟩ := IntsAre.int_at ia i v (by rw [Array.getElem?_toList]; exact e)
    exact ⟨ns[i], t, List.getElem?_eq_getElem lt, by
      rw [q, List.getD_eq_getElem?_getD, List.getElem?_eq_getElem lt]
      rfl⟩
  have atS : ((s.heap.push (fso w)).push { cls := .type "list_iterator", data := .fields #[.ref l, .int 0 0] }).get? s.heap.objs.size = some (fso w) :=
    Heap.get?_push_of_some _ (Heap.get?_push_size _ rfl)
  have atI : ((s.heap.push (fso w)).push { cls := .type "list_iterator", data := .fields #[.ref l, .int 0 0] }).get? (s.heap.objs.size + 1) = some { cls := .type "list_iterator", data := .fields #[.ref l, .int 0 0] } := by
    rw [← sz]
    exact Heap.get?_push_size _ rfl
  have hin : A.in1.handled = none := by simpa using no
  refine set_update_ints (Walks.list hin _ l apart items).toS s.heap.objs.size off ns len small each (items.size - 0) 0 _ rfl (Nat.zero_le _) ?_ ⟨0, Nat.le_refl 0, setR_new_at atS⟩ fun s' c mv cl R' => ?_
  · exact ⟨⟨_, atI, rfl, rfl⟩, (il.push _).push _⟩
  · obtain ⟨hp, gs, dr, tk, os⟩ := s'
    have e1 : gs = s.gens := mv.gens
    have e2 : dr = s.drawn := mv.drawn
    have e3 : os = s.os := mv.os
    subst e1 e2 e3
    refine k hp tk c ⟨R', by omega, fun b o e => mv.heap b o ?_ (Heap.get?_push_of_some _ (Heap.get?_push_of_some _ e))⟩
    have q := Heap.lt_size e
    simp only [List.mem_cons, List.not_mem_nil, or_false, not_or]
    exact ⟨Nat.ne_of_lt q, Nat.ne_of_lt (Nat.lt_succ_of_lt q)⟩
theorem set_of_list {l : Addr} {items : Array Value} (ns : List Int) {Q : Value → Shared → Prop} (no : A.handled = none) (il : s.heap.IsList l items) (ia : IntsAre items.toList ns) (small : ns.length + 1 < scanBound)
    (k : ∀ (h' : Heap) (tk c : Nat), SetMade w s ns h' c → Q (.ref s.heap.objs.size) { s with heap := h', toks := tk }) : wpAny (model P w) A (call (.type "set") [.ref l]) Q E s := by
  obtain ⟨c0, tl, mro⟩ := F.called_set.mro
  have made := F.called_set.made
  have sub := F.called_set.sub
  refine wpAny_call (codeAny_of_tree ?_)
  show wpAny _ _ (callAny (.type "set") _) _ _ _
  refine wpAny_pure ⟨Code.quiet_builtin _ (by decide +kernel),
    codeAny_builtin F.entry_type_call ?_⟩
  rw [Around.under_plain
    (weight_type_call_type "set" [.ref l] []) rfl]
  have f1 := F.called_set.notType
  have f2 := F.called_set.canCreate
  have f3 := F.typeCall_set_1 (.ref l)
  repeat (any_goals (first | assumption | wp_step))
  refine codeAny_mono (code_set_led1 (.ref l) (E := E) (Q₁ := fun z t => z = .ref s.heap.objs.size ∧ t = { s with heap := s.heap.push (fso w) }) ⟨rfl, rfl⟩) fun r t hr => ?_
  cases r with
  | error e => exact hr
  | ok fl =>
    cases fl with
    | ret z =>
      obtain ⟨rfl, rfl⟩ := hr
      have here : (s.heap.push (fso w)).get? s.heap.objs.size = some (fso w) := Heap.get?_push_size _ rfl
      have ty : Shared.TypeIs { s with heap := s.heap.push (fso w) } (.ref s.heap.objs.size) "set" := ⟨_, here, rfl⟩
      have g1 := F.called_set.init.lookup
      have g2 := F.called_set.init.bind (.ref s.heap.objs.size)
      repeat (any_goals (first | assumption | wp_step))
      refine codeAny_mono (codeAny_call_builtin
        (R := wants (fun r t => r = .none ∧ ∃ h' tk c, t = { s with heap := h', toks := tk } ∧ SetMade w s ns h' c) E)
        F.called_set.init.plain F.entry_set_init (check_set_init_1 ty ?_)) fun r t hr => ?_
      · obtain ⟨⟨ocls, odict, odata, oslots⟩, ol, oc, nl, od⟩ := il
        simp only at oc od
        subst oc od
        have ol1 : (s.heap.push (fso w)).get? l = some { cls := .type "list", dict := odict, data := .seq items nl, slots := oslots } := Heap.get?_push_of_some _ ol
        have k1 := F.sub_list_set
        have k2 := F.sub_list_frozenset
        have k3 : (Value.type "list" == Value.type "dict") = false := by decide
        have il1 : (s.heap.push (fso w)).IsList l items := ⟨_, ol1, rfl, nl, rfl⟩
        unfold Builtin.«set.__init__» noKeywords Builtin.Frozenset.updateFrom
        generalize hit : pyIter = it
        wp_walk
        subst hit
        refine wpAny_pyIter_list il1 ?_
        refine wpAny_bind (wpAny_runValue ?_)
        have sz : (s.heap.push (fso w)).objs.size = s.heap.objs.size + 1 := Heap.size_push ..
        rw [sz]
        have no3 : A.in1.in1.handled = none := by simp [no]
        refine fill_list (A := A.in1.in1) ns no3 ⟨_, ol, rfl, nl, rfl⟩ ia small fun h' tk c R => ?_
        show wpAny _ _ _ _ _ _
        refine wpAny_pure ?_
        show wpAny _ _ (ret Value.none) _ _ _
        exact wpAny_pure ⟨rfl, h', tk, c, rfl, R⟩
      · cases r with
        | error e => exact hr
        | ok fl =>
          cases fl with
          | ret z =>
            obtain ⟨rfl, h', tk, c, rfl, R⟩ := hr
            repeat (any_goals (first | assumption | wp_step))
            exact k _ _ _ R
          | _ => exact hr.elim
    | _ => exact hr.elim
end
end Pd

set_option Elab.async false
set_option linter.all false
set_option maxRecDepth 100000
set_option maxHeartbeats 1000000
namespace Pd
open PySem PySem.Spec L2

def insU (x : Int) : List Int → List Int
  | [] => [x]
  | y :: r => if x < y then x :: y :: r else if x = y then y :: r else y :: insU x r
def setL : List Int → List Int
  | [] => []
  | x :: r => insU x (setL r)
theorem mem_insU {x z : Int} : ∀ {l : List Int}, z ∈ insU x l ↔ z = x ∨ z ∈ l
  | [] => by simp [insU]
  | y :: r => by
    unfold insU
    split
    · simp
    · split
      · rename_i h; subst h; simp
      · rw [List.mem_cons, List.mem_cons, mem_insU (l := r)]
        constructor
        · rintro (h | h | h)
          · exact .inr (.inl h)
          · exact .inl h
          · exact .inr (.inr h)
        · rintro (h | h | h)
          · exact .inr (.inl h)
          · exact .inl h
          · exact .inr (.inr h)
theorem mem_setL {z : Int} : ∀ {l : List Int}, z ∈ setL l ↔ z ∈ l
  | [] => by simp [setL]
  | x :: r => by rw [setL, mem_insU, mem_setL (l := r), List.mem_cons]
theorem insU_ris (x : Int) : ∀ {l : List Int}, l.Pairwise (· < ·) → (insU x l).Pairwise (· < ·)
  | [], _ => List.pairwise_singleton _ _
  | y :: r, h => by
    have h' := List.pairwise_cons.mp h
    unfold insU
    split
    · rename_i hxy
      refine List.pairwise_cons.mpr ⟨fun z hz => ?_, h⟩
      rcases List.mem_cons.mp hz with rfl | hz
      · exact hxy
      · exact Int.lt_trans hxy (h'.1 z hz)
    · split
      · exact h
      · rename_i h1 h2
        refine List.pairwise_cons.mpr ⟨fun z hz => ?_, insU_ris x h'.2⟩
        rcases mem_insU.mp hz with rfl | hz
        · omega
        · exact h'.1 z hz
theorem setL_ris : ∀ l : List Int, (setL l).Pairwise (· < ·)
  | [] => .nil
  | x :: r => insU_ris x (setL_ris r)
theorem ris_unique : ∀ {a b : List Int}, a.Pairwise (· < ·) → b.Pairwise (· < ·) → (∀ z, z ∈ a ↔ z ∈ b) → a = b
  | [], [], _, _, _ => rfl
  | [], y :: b, _, _, h => absurd ((h y).mpr List.mem_cons_self) (by simp)
  | x :: a, [], _, _, h => absurd ((h x).mp List.mem_cons_self) (by simp)
  | x :: a, y :: b, ha, hb, h => by
    have ha' := List.pairwise_cons.mp ha
    have hb' := List.pairwise_cons.mp hb
    have e : x = y := by
      rcases List.mem_cons.mp ((h x).mp List.mem_cons_self) with e | m
      · exact e
      · rcases List.mem_cons.mp ((h y).mpr List.mem_cons_self) with e | m2
        · exact e.symm
        · have := hb'.1 x m
          have := ha'.1 y m2
          omega
    subst e
    rw [ris_unique ha'.2 hb'.2 fun z => ?_]
    constructor
    · intro m
      rcases List.mem_cons.mp ((h z).mp (List.mem_cons_of_mem _ m)) with e | m2
      · have := ha'.1 z m
        omega
      · exact m2
    · intro m
      rcases List.mem_cons.mp ((h z).mpr (List.mem_cons_of_mem _ m)) with e | m2
      · have := hb'.1 z m
        omega
      · exact m2
theorem setL_len : ∀ l : List Int, (setL l).length ≤ l.length
  | [] => Nat.le_refl _
  | x :: r => by
    have ih := setL_len r
    have h : ∀ l : List Int, (insU x l).length ≤ l.length + 1 := by
      intro l
      induction l with
      | nil => exact Nat.le_refl _
      | cons y r ih =>
        unfold insU
        split
        · exact Nat.le_refl _
        · split
          · exact Nat.le_succ _
          · rw [List.length_cons, List.length_cons]; omega
    rw [setL, List.length_cons]
    have := h (setL r)
    omega
def tSetI (K : PySem.W.Frag) (ta : TE) (r : List Int → Hp → VK → Prop) : TE := fun σ H Q => ta σ H fun x H1 => ∃ (l : Addr) (ns : List Int), x = .ref l ∧ (SqL K H1 l (ns.map V.int) ∨ SqT K H1 l (ns.map V.int)) ∧ ns.length < 64 ∧ r (setL ns) H1 Q
def rNewL (ns : List Int) : Hp → VK → Prop := fun H Q => ∀ p, H p = none → Q (.ref p) (upd H p (.lst (ns.map V.int)))
def rNum (ns : List Int) : Hp → VK → Prop := fun H Q => Q (.int (ns.length : Nat)) H
section
variable {X : Cx} {E : Ex T} {e a b c tg : PySem.Expr} {es : List PySem.Expr} {pos p p2 p3 q0 : Pos}
theorem vals_is : ∀ {ns : List Int} {us : List Value}, Vals (ns.map V.int) us → PyProof.Rows.IntsAre us ns
  | [], _, .nil => .nil
  | n :: ns, _, .cons r t => by
    obtain ⟨k, rfl⟩ := r
    exact .cons n k (vals_is t)
theorem set_run {ta : TE} {Q : Value → Shared → Prop} {σ : L2.St} {H : Hp} {s : Shared} {pins : List (Addr × Obj)} {r : List Int → Hp → VK → Prop} {QK : VK} (hc : X.calm = true) (hg : Gl X "set") (hm : X.mg "set" = none) (ha : PE X a ta) (hs : isStar a = false) (I : Inv X pins σ H s) (h : tSetI X.K ta r σ H QK)
    (k : ∀ (l : Addr) (ns : List Int) (H1 : Hp) (n : Nat) (s1 : Shared), Inv X pins σ H1 s1 → L2.SetR X.w s1.heap l (fun j => decide (j ∈ ns)) n → n < 64 → r (setL ns) H1 QK → Q (.ref l) s1) :
    wpAny (model X.prog X.w) X.A (eval (.Call (.Name "set" p2) [a] [] q0) X.env) Q X.xe s := by
  have na := star_cons (es := []) (env := X.env) hs
  refine PyProof.Rows.Call_ (ld_blt I hg hm PyProof.Rows.boot_set ?_)
  refine PyProof.Rows.callWith_type1 (PyProof.Rows.args_cons (thn (ha.run pins s σ H _ I h) fun v s1 hv => PyProof.Rows.args_nil ?_) na) na rfl
  obtain ⟨x, H1, I1, r1, l, ns, rfl, hq, hl, q⟩ := hv
  cases r1
  have sc : ns.length + 1 < scanBound := by unfold scanBound; omega
  rcases hq with hq | hq
  · obtain ⟨its, rv, pl, hz⟩ := I1.list hq
    refine set_of_list ns (I1.ok.hd hc) pl.isList (by simpa using vals_is rv) sc fun h' tk c R => ?_
    have hn : c < 64 := Nat.lt_of_le_of_lt R.2.1 hl
    exact k _ ns H1 c _ (I1.kept R.2.2) R.1 hn q
  · obtain ⟨its, rv, pl, hz⟩ := I1.tuple hq
    refine L2.call_set_tupI ns (I1.ok.hd hc) (show s1.heap.IsTuple l its.toArray from pl) (by simpa using vals_is rv) sc fun h' tk c R hcn kp => ?_
    have hn : c < 64 := Nat.lt_of_le_of_lt hcn hl
    exact k _ ns H1 c _ (I1.kept kp) R hn q
theorem setR_mem {w : World} {h : Heap} {l : Addr} {ns xs : List Int} {n : Nat} (h1 : xs.Pairwise (· < ·)) (h2 : ∀ k, k ∈ xs ↔ decide (k ∈ ns) = true) : xs = setL ns :=
  ris_unique h1 (setL_ris ns) fun z => by rw [h2, mem_setL]; simp
theorem pe_sortSet {ta : TE} (hc : X.calm = true) (hg : Gl X "sorted") (hm : X.mg "sorted" = none) (hg2 : Gl X "set") (hm2 : X.mg "set" = none) (ha : PE X a ta) (hs : isStar a = false) :
    PE X (.Call (.Name "sorted" p) [.Call (.Name "set" p2) [a] [] q0] [] pos) (tSetI X.K ta fun ns => rNewL ns) := by
  refine ⟨fun pins s σ H Q I h => PyProof.Rows.Call_ (ld_blt (u := .builtin "sorted") I hg hm (by decide +kernel) (PyProof.Rows.callWith_builtin1 (PyProof.Rows.args_cons ?_ rfl) rfl rfl))⟩
  refine set_run hc hg2 hm2 ha hs I h fun l ns H1 n s1 I1 R h64 q => PyProof.Rows.args_nil ?_
  refine L2.sorted_set R (I1.ok.hd hc) h64 fun s' t out c ms kp eg eo hp hat hi hris hmem hlen => ?_
  have e := setR_mem (w := X.w) (h := s1.heap) (l := l) (n := n) hris hmem
  subst e
  have nH : H1 t = none := I1.hok.fresh hp
  have hz : ((setL ns).map V.int).length ≤ sizeLine := by rw [List.length_map, hlen, line_eq]; unfold line; omega
  obtain ⟨hp', gs, dr, tk, os⟩ := s'
  have eo : os = s1.os := eo
  have eg : gs = s1.gens := eg
  subst eo eg
  have new : ObjOk X.prog X.w (upd H1 t (.lst ((setL ns).map V.int))) hp' t (.lst ((setL ns).map V.int)) := ⟨hz, out.toList, c, vals_of_ints hi, hat⟩
  exact ⟨.ref t, _, I1.call (ch := []) (Un.laid kp hp nH) (I1.hok.laid kp hp new) I1.bare (fun _ z => nomatch z), rfl, q t nH⟩
def setF : D → R (List Int)
  | .lst ds => (R.of (intsOf ds)).bind fun ns => if ns.length < 64 then .ok (setL ns) else .stuck
  | .tup ds => (R.of (intsOf ds)).bind fun ns => if ns.length < 64 then .ok (setL ns) else .stuck
  | _ => .stuck
def eSortSet (f : Gm → R D) : Gm → R O := fun Γ => (f Γ).bind fun d => (setF d).bind fun ns => .ok (.o (.lst (ns.map D.int)))
def eLenSet (f : Gm → R D) : Gm → R O := fun Γ => (f Γ).bind fun d => (setF d).bind fun ns => .ok (.v (.int (ns.length : Nat)))
theorem setF_ok {K : PySem.W.Frag} {F : Fz T} {H : Hp} {v : V} {d : D} {P : List Int → Prop} {E : Str → Prop} (s : Sub F H) (cv : Cont K F H v d) (h : (setF d).post P E) : ∃ (l : Addr) (ns : List Int), v = .ref l ∧ (SqL K H l (ns.map V.int) ∨ SqT K H l (ns.map V.int)) ∧ ns.length < 64 ∧ P (setL ns) := by
  cases d with
  | lst ds =>
    obtain ⟨ns, e, h'⟩ := of_post (R.post_bind (show ((R.of (intsOf ds)).bind _).post P E from h))
    split at h'
    · rename_i hl
      obtain rfl := intsOf_some e
      obtain ⟨a, ys, rfl, hH, r, _⟩ := cv.lst s
      obtain rfl := r.ints_of
      exact ⟨a, ns, rfl, .inl (.of hH), hl, h'⟩
    · exact h'.elim
  | tup ds =>
    obtain ⟨ns, e, h'⟩ := of_post (R.post_bind (show ((R.of (intsOf ds)).bind _).post P E from h))
    split at h'
    · rename_i hl
      obtain rfl := intsOf_some e
      obtain ⟨a, ys, rfl, hH, r, _⟩ := cv.tup s
      obtain rfl := r.ints_of
      exact ⟨a, ns, rfl, .inr (.of hH), hl, h'⟩
    · exact h'.elim
  | _ => exact h.elim
theorem se_sortSet {f : Gm → R D} (hc : X.calm = true) (hg : Gl X "sorted") (hm : X.mg "sorted" = none) (hg2 : Gl X "set") (hm2 : X.mg "set" = none) (h : SR X E a f) (hs : isStar a = false) :
    SE X E (.Call (.Name "sorted" p) [.Call (.Name "set" p2) [a] [] q0] [] pos) (eSortSet f) := by
  obtain ⟨t, pa, g⟩ := h
  refine ⟨_, pe_sortSet hc hg hm hg2 hm2 pa hs, fun Γ F0 H0 F H σ Q I q => g Γ F0 H0 F H σ _ I (R.post_imp (R.post_bind q) fun d q v F' H' gr cv => ?_)⟩
  obtain ⟨l, ns, rfl, hq, hl, q⟩ := setF_ok gr.sub cv (R.post_bind q)
  refine ⟨l, ns, rfl, hq, hl, fun z hz => ?_⟩
  have hz2 : ((setL ns).map D.int).length ≤ sizeLine := by
    have := setL_len ns
    rw [List.length_map, line_eq]
    unfold line
    omega
  obtain ⟨g', r'⟩ := new_lst gr.sub hz (Reps.ints (setL ns)) hz2
  exact q _ _ _ (gr.trans g') (r'.back gr.hh)
end
end Pd

set_option Elab.async false
set_option linter.all false
set_option maxRecDepth 100000
set_option maxHeartbeats 1000000
namespace Pd
open PySem PySem.Spec L2

def pairD (p : Int × Int) : D := .tup [.int p.1, .int p.2]
def pairsOf : List D → Option (List (Int × Int))
  | [] => some []
  | .tup [.int a, .int b] :: r => (pairsOf r).map fun l => (a, b) :: l
  | _ => none
theorem pairsOf_some : ∀ {ds : List D} {ps : List (Int × Int)}, pairsOf ds = some ps → ds = ps.map pairD
  | [], ps, h => by cases h; rfl
  | d :: r, ps, h => by
    unfold pairsOf at h
    split at h
    · rename_i e; cases e
    · rename_i a b r' e
      cases e
      obtain ⟨l, hl, rfl⟩ := Option.map_eq_some_iff.mp h
      rw [pairsOf_some hl]; rfl
    · cases h
@[simp] theorem pairsOf_map (ps : List (Int × Int)) : pairsOf (ps.map pairD) = some ps := by
  induction ps with
  | nil => rfl
  | cons p r ih =>
    show (pairsOf (r.map pairD)).map _ = _
    rw [ih]; rfl
def insP (x : Int × Int) : List (Int × Int) → List (Int × Int)
  | [] => [x]
  | y :: r => if SrtO.lexB y x = false then x :: y :: r else y :: insP x r
def sortP : List (Int × Int) → List (Int × Int)
  | [] => []
  | x :: r => insP x (sortP r)
theorem lexB_not {a b : Int × Int} : SrtO.lexB a b = false ↔ b.1 < a.1 ∨ (b.1 = a.1 ∧ b.2 ≤ a.2) := by
  rw [SrtO.lexB_no]
  omega
theorem insP_perm (x : Int × Int) : ∀ l, (insP x l).Perm (x :: l)
  | [] => .refl _
  | y :: r => by
    unfold insP
    split
    · exact .refl _
    · exact ((insP_perm x r).cons y).trans (.swap x y r)
theorem sortP_perm : ∀ l, (sortP l).Perm l
  | [] => .refl _
  | x :: r => (insP_perm x _).trans ((sortP_perm r).cons x)
abbrev RisP (l : List (Int × Int)) : Prop := l.Pairwise fun x y => SrtO.lexB y x = false
theorem insP_ris (x : Int × Int) : ∀ {l}, RisP l → RisP (insP x l)
  | [], _ => List.pairwise_singleton _ _
  | y :: r, h => by
    have h' := List.pairwise_cons.mp h
    unfold insP
    split
    · rename_i hxy
      refine List.pairwise_cons.mpr ⟨fun z hz => ?_, h⟩
      rcases List.mem_cons.mp hz with rfl | hz
      · exact hxy
      · have a := lexB_not.mp hxy
        have b := lexB_not.mp (h'.1 z hz)
        refine lexB_not.mpr ?_
        omega
    · rename_i hxy
      refine List.pairwise_cons.mpr ⟨fun z hz => ?_, insP_ris x h'.2⟩
      rcases List.mem_cons.mp ((insP_perm x r).mem_iff.mp hz) with rfl | hz
      · have a := mt lexB_not.mpr hxy
        refine lexB_not.mpr ?_
        omega
      · exact h'.1 z hz
theorem sortP_ris : ∀ l, RisP (sortP l)
  | [] => .nil
  | x :: r => insP_ris x (sortP_ris r)
theorem risP_unique : ∀ {a b : List (Int × Int)}, a.Perm b → RisP a → RisP b → a = b
  | [], b, p, _, _ => by
    have := p.length_eq
    cases b with
    | nil => rfl
    | cons => simp at this
  | x :: a, [], p, _, _ => by have := p.length_eq; simp at this
  | x :: a, y :: b, p, ha, hb => by
    have ha' := List.pairwise_cons.mp ha
    have hb' := List.pairwise_cons.mp hb
    have e : x = y := by
      have h1 : x ∈ y :: b := p.mem_iff.mp List.mem_cons_self
      have h2 : y ∈ x :: a := p.mem_iff.mpr List.mem_cons_self
      rcases List.mem_cons.mp h1 with h | h
      · exact h
      · rcases List.mem_cons.mp h2 with h2 | h2
        · exact h2.symm
        · have u := lexB_not.mp (ha'.1 y h2)
          have v := lexB_not.mp (hb'.1 x h)
          exact Prod.ext (by omega) (by omega)
    subst e
    rw [risP_unique (List.Perm.cons_inv p) ha'.2 hb'.2]
def ikeys : List (D × D) → Option (List Int)
  | [] => some []
  | (.int k, _) :: r => (ikeys r).map fun l => k :: l
  | _ => none
def fSorted : List D → Option O
  | [.lst ds] => match intsOf ds with
    | some ns => some (.o (.lst ((sortL ns).map D.int)))
    | none => (pairsOf ds).map fun ps => .o (.lst ((sortP ps).map pairD))
  | [.dct kvs] => (ikeys kvs).bind fun ks => if 0 < ks.length ∧ ks.length < 64 then some (.o (.lst ((sortL ks).map D.int))) else none
  | _ => none
def rSortedDI : List V → Hp → VK → Prop := fun xs H Q => ∃ (a : Addr) (kvs : List (Key × V)) (ks : List Int), xs = [.ref a] ∧ Rd H a (.dK kvs) ∧ kvs.map (·.1) = ks.map Sum.inl ∧ ks.length < 64 ∧
    ∀ (ys : List Int) (p : Addr), ys.Perm ks → ys.Pairwise (· ≤ ·) → H p = none → Q (.ref p) (upd H p (.lst (ys.map V.int)))
def rSorted (K : PySem.W.Frag) : List V → Hp → VK → Prop := fun xs H Q => rSortedI K xs H Q ∨ rSortedPO K xs H Q ∨ rSortedDI xs H Q
theorem cr_sorted {X : Cx} (hc : X.calm = true) : CallR X (.builtin "sorted") (rSorted X.K) := cr_sortedI.or (cr_sortedPO.or (call_sortedDI hc))
section
variable {K : PySem.W.Frag} {F F' : Fz T} {H H' : Hp} {v : V}
theorem ikeys_rep : ∀ {kvs : List (Key × V)} {ds : List (D × D)} {ks : List Int}, RepK K F kvs ds → ikeys ds = some ks → kvs.map (·.1) = ks.map Sum.inl
  | _, _, ks, .nil, h => by cases h; rfl
  | _, _, ks, .cons (k := k) r t, h => by
    cases k with
    | inl i =>
      obtain ⟨l, hl, rfl⟩ := Option.map_eq_some_iff.mp (show (ikeys _).map _ = some ks from h)
      rw [List.map_cons, ikeys_rep t hl]; rfl
    | inr x => exact absurd h (by simp [ikeys, keyD])
def prV (H : Hp) : V → Int × Int
  | .ref t => match H t with
    | some (.tup [.int a, .int b]) => (a, b)
    | _ => (0, 0)
  | _ => (0, 0)
theorem pair_at {x : V} {p : Int × Int} (s : Sub F H) (r : Rep K F x (pairD p)) : (∃ t, x = .ref t ∧ H t = some (.tup [.int p.1, .int p.2])) ∧ prV H x = p := by
  cases r with
  | tup hF rs _ =>
    obtain ⟨y, z, rfl, r1, r2⟩ := rs.two
    cases r1
    cases r2
    have hH := s.tup hF
    exact ⟨⟨_, rfl, hH⟩, by simp [prV, hH]⟩
theorem pairs_at (s : Sub F H) : ∀ {xs : List V} {ps : List (Int × Int)}, Reps K F xs (ps.map pairD) → (∀ x ∈ xs, Rep K F x (pairD (prV H x))) ∧ xs.map (prV H) = ps
  | _, [], .nil => ⟨fun x h => absurd h (by simp), rfl⟩
  | _, p :: ps, .cons r t => by
    have q := pair_at s r
    have ih := pairs_at s (ps := ps) t
    refine ⟨fun x h => ?_, by rw [List.map_cons, q.2, ih.2]⟩
    rcases List.mem_cons.mp h with rfl | h
    · rw [q.2]; exact r
    · exact ih.1 x h
theorem reps_each {k : V → Int × Int} : ∀ {ys : List V}, (∀ y ∈ ys, Rep K F y (pairD (k y))) → Reps K F ys ((ys.map k).map pairD)
  | [], _ => .nil
  | y :: ys, h => .cons (h y List.mem_cons_self) (reps_each fun z hz => h z (List.mem_cons_of_mem _ hz))
theorem cd_sorted : CallD K (rSorted K) fSorted := fun xs ds o F H Q s cs eo q => by
  unfold fSorted at eo
  split at eo
  · rename_i ds
    obtain ⟨x, rfl, c⟩ := cs.one
    obtain ⟨a, ys, rfl, hH, r, l⟩ := c.lst s
    split at eo
    · rename_i ns e
      cases eo
      obtain rfl := intsOf_some e
      obtain rfl := r.ints_of
      refine .inl ⟨a, ns, rfl, .of hH, fun ms p pm so hp => ?_⟩
      rw [sortL_eq pm so]
      obtain ⟨g, r'⟩ := new_lst s hp (Reps.ints (sortL ns)) (by rw [List.length_map] at l ⊢; rw [(sortL_perm ns).length_eq]; exact l)
      exact q _ _ _ g r'
    · obtain ⟨ps, e, rfl⟩ := Option.map_eq_some_iff.mp eo
      obtain rfl := pairsOf_some e
      obtain ⟨each, em⟩ := pairs_at s r
      refine .inr (.inl ⟨a, ys, prV H, rfl, .of hH, fun x hx => (pair_at s (each x hx)).1, fun zs p so st hp => ?_⟩)
      have e1 : zs.map (prV H) = sortP ps := by
        refine risP_unique (((st.perm.map (prV H)).trans (by rw [em])).trans (sortP_perm ps).symm) (List.pairwise_map.mpr so) (sortP_ris ps)
      have rz := reps_each (k := prV H) fun y hy => each y (st.perm.mem_iff.mp hy)
      rw [e1] at rz
      obtain ⟨g, r'⟩ := new_lst s hp rz (by rw [List.length_map] at l ⊢; rw [(sortP_perm ps).length_eq]; exact l)
      exact q _ _ _ g r'
  · rename_i kvs
    obtain ⟨x, rfl, c⟩ := cs.one
    cases e : ikeys kvs with
    | none => rw [e] at eo; cases eo
    | some ks =>
      rw [e, Option.bind_some] at eo
      split at eo
      · rename_i hl
        cases eo
        obtain ⟨_, a, rfl, hd⟩ := c.dct s
        rcases hd with ⟨w, hw, r⟩ | ⟨w, hw, r⟩
        · refine .inr (.inr ⟨a, w, ks, rfl, hw, ikeys_rep r e, hl.2, fun ms p pm so hp => ?_⟩)
          rw [sortL_eq pm so]
          obtain ⟨g, r'⟩ := new_lst s hp (Reps.ints (sortL ks)) (by rw [List.length_map, (sortL_perm ks).length_eq, line_eq]; unfold line; omega)
          exact q _ _ _ g r'
        · cases r with
          | nil => cases e; exact absurd hl.1 (by simp)
          | cons r t => exact absurd e (by simp [ikeys, keyT])
      · cases eo
  · cases eo
end
section
variable {X : Cx} {E : Ex T} {e a b c d tg : PySem.Expr} {es : List PySem.Expr} {pos p p2 p3 q0 : Pos}
theorem sorted_ok (hc : X.calm = true) : BuiltinOk X "sorted" fSorted := .inl ⟨_, _, by decide +kernel, cr_sorted hc, cd_sorted⟩
def eRevL (f : Gm → R D) : Gm → R O := fun Γ => (f Γ).bind fun d => match d with
  | .lst ds => .ok (.o (.lst ds.reverse))
  | _ => .stuck
theorem Reps.reverse {K : PySem.W.Frag} {F : Hp} : ∀ {vs : List V} {ds : List D}, Reps K F vs ds → Reps K F vs.reverse ds.reverse
  | _, _, .nil => .nil
  | _, _, .cons r t => by
    rw [List.reverse_cons, List.reverse_cons]
    exact (Reps.reverse t).append (.cons r .nil)
def e4 (o1 o2 o3 : D → D → Option O) (fa fb fc fd : Gm → R D) : Gm → R O := fun Γ => (fa Γ).bind fun a => (fb Γ).bind fun b => match o1 a b with
  | some (.v (.bl true)) => (fc Γ).bind fun c => match o2 b c with
    | some (.v (.bl true)) => (fd Γ).bind fun d => R.of (o3 c d)
    | some (.v (.bl false)) => .ok (.v (.bl false))
    | _ => .stuck
  | some (.v (.bl false)) => .ok (.v (.bl false))
  | _ => .stuck
def rgArgs : List D → Option (Int × Int × Int)
  | [.int j] => some (0, j, 1)
  | [.int i, .int j] => some (i, j, 1)
  | [.int i, .int j, .int c] => some (i, j, c)
  | _ => none
def rgAll (ds : List D) : Option (List D) := (rgArgs ds).bind fun (i, j, c) => (rgC i j c).map fun n => stpD i c n
def eTupRg (f : Gm → R (List D)) : Gm → R O := fun Γ => (f Γ).bind fun ds => R.of ((rgAll ds).map fun xs => .v (.tup xs))
def eLstRg (f : Gm → R (List D)) : Gm → R O := fun Γ => (f Γ).bind fun ds => R.of ((rgAll ds).map fun xs => .o (.lst xs))
def stpV (lo c : Int) : Nat → List V
  | 0 => []
  | n + 1 => .int lo :: stpV (lo + c) c n
def tRgN (ta : TA) (mk : List V → HO) : TE := fun σ H Q => ta σ H fun vs H1 => ∃ i j c n, (vs = [.int j] ∧ i = 0 ∧ c = 1 ∨ vs = [.int i, .int j] ∧ c = 1 ∨ vs = [.int i, .int j, .int c]) ∧ RgC i j c n ∧ n ≤ line ∧ ∀ p, H1 p = none → Q (.ref p) (upd H1 p (mk (stpV i c n)))
end
end Pd

set_option Elab.async false
set_option linter.all false
set_option maxRecDepth 100000
set_option maxHeartbeats 1000000
namespace Pd
open PySem PySem.Spec L2
def whN : Nat := 1000000000
section
variable {X : Cx} {E : Ex T} {G : Gl5} {k : Nat} {N : List Str} {sc : Scope} {fnb : Str → Bool}
variable {e a b c d tg iter elt : PySem.Expr} {es : List PySem.Expr} {pos p p2 p3 q0 apos cpos : Pos} {i j : Nat} {x y : Str} {st : Stmt} {sts rest : List Stmt}
theorem k_int {i : Int} {j : Nat} : SE X E (.Constant (.int i) j pos) (eC (.int i)) := se_const
theorem k_str {i : Str} {j : Nat} : SE X E (.Constant (.str i) j pos) (eC (.str i)) := se_const
theorem k_bl {i : Bool} {j : Nat} : SE X E (.Constant (.bool i) j pos) (eC (.bl i)) := se_const
theorem k_non {j : Nat} : SE X E (.Constant .none j pos) (eC .non) := se_const
theorem c_sorted (C : Cok X E G k N sc fnb) {fs : List (Gm → R D)} (h : gloB sc "sorted" = true) (hb : BltG G "sorted") (ha : SRs X E (e :: es) fs) : SE X E (.Call (.Name "sorted" p) (e :: es) [] pos) (eCall fSorted (seqR fs)) :=
  se_call (sorted_ok C.calm) (by decide) (by decide) (C.glo h).1 (C.no hb) ha
theorem c_sortSet (C : Cok X E G k N sc fnb) {f : Gm → R D} (h : gloB sc "sorted" = true) (hb : BltG G "sorted") (h2 : gloB sc "set" = true) (hb2 : BltG G "set") (ha : SR X E a f) (hs : isStar a = false := by rfl) :
    SE X E (.Call (.Name "sorted" p) [.Call (.Name "set" p2) [a] [] q0] [] pos) (eSortSet f) := se_sortSet C.calm (C.glo h).1 (C.no hb) (C.glo h2).1 (C.no hb2) ha hs
end
end Pd

set_option Elab.async false
set_option linter.all false
set_option maxRecDepth 100000
set_option maxHeartbeats 1000000
namespace Pd
open PySem PySem.Spec L2

def rCountD (K : PySem.W.Frag) : V → List V → Hp → VK → Prop := fun x xs H Q => ∃ (a : Addr) (y : V) (d : PyData) (ds : List PyData), x = V.ref a ∧ xs = [y] ∧ Dp K H (V.ref a) (.list ds) ∧ Dp K H y d ∧
  SeqAt.shaped (.list ds) = true ∧ SeqAt.shaped d = true ∧ Q (.int (ds.countP (fun z => PyData.eqv z d) : Nat)) H
theorem mt_countD {X : Cx} (hu : X.A.units + 65 < cLine) : MtR X "list.count" (rCountD X.K) := by
  intro pins s σ H x xs v us Q I rx rxs h
  obtain ⟨a, y, d, ds, rfl, rfl, hl, hy, sl, sd, q⟩ := h
  cases rx
  obtain ⟨uy, rfl, ry⟩ := rxs.one
  obtain ⟨bs, r1⟩ := Dp.reads I d y uy hy ry
  have lay : PyData.canLayAll0 ds = true := SeqAt.canLay_of_shaped sl
  have room := PyProof.Rows.room_in_shaped (xs := ds) sd hu
  cases hl with
  | lst hs ha =>
    obtain ⟨its, rv, ⟨⟨cls, dd, data, sls⟩, n, ho, hc, hdn, hdt⟩, hlen⟩ := I.list hs
    simp only at hc hdt
    subst hc hdt
    obtain ⟨as, h4⟩ := Dp.readsAll I ds _ its ha rv
    have em : its.map (SeqAt.readOf s.heap) = ds := SeqAt.readsAll_map ds its as lay h4
    refine PySem.call_meets PySem.F.slot_list_count ⟨_, ho, rfl⟩ PySem.F.entry_list_count (PySem.F.args_list_count_2 _ _)
      (SeqAt.list_countAt a its.toArray n dd sls uy fun u => PyData.eqv (SeqAt.readOf s.heap u) d)
      ⟨ho, SeqAt.items_eqAt (vs := its.toArray) (show ReadsAll s.heap its.toArray.toList ds as from h4) r1 lay (SeqAt.canLay_of_shaped sd) room, ?_⟩
    have ec : its.toArray.toList.countP (fun u => PyData.eqv (SeqAt.readOf s.heap u) d) = ds.countP fun z => PyData.eqv z d := by
      rw [← em, List.countP_map]
      rfl
    refine ⟨.int (ds.countP (fun z => PyData.eqv z d) : Nat), H, I.tok _, ⟨s.toks, ?_⟩, q⟩
    show Value.int ((its.toArray.toList.countP (fun u => PyData.eqv (SeqAt.readOf s.heap u) d) : Nat) : Int) s.toks = _
    rw [ec]
def MtD (K : PySem.W.Frag) (r : V → List V → Hp → VK → Prop) (φ : List D → D → Option O) : Prop :=
  ∀ {T : List (Addr × Str)} (x y : V) (ds : List D) (d : D) (o : O) (F : Fz T) (H : Hp) (Q : VK), Sub F H → Cont K F H x (.lst ds) → Cont K F H y d → φ ds d = some o → (∀ v F' H', Grow F H F' H' → ORep K H F' H' v o → Q v H') → r x [y] H Q
def eMt (φ : List D → D → Option O) (fo fa : Gm → R D) : Gm → R O := fun Γ => (fo Γ).bind fun o => match o with
  | .lst ds => (fa Γ).bind fun a => R.of (φ ds a)
  | _ => .stuck
def cntD (ds : List D) (d : D) : Option O := if shp (.lst ds) = true ∧ shp d = true then some (.v (.int ((pyDs ds).countP (fun z => PyData.eqv z (pyD d)) : Nat))) else none
def idxD (ds : List D) (d : D) : Option O := if shp (.lst ds) = true ∧ shp d = true then ((pyDs ds).findIdx? fun z => PyData.eqv z (pyD d)).map fun j => .v (.int (j : Nat)) else none
section
variable {K : PySem.W.Frag}
theorem md_count : MtD K (rCountD K) cntD := fun x y ds d o F H Q s cx cy e q => by
  unfold cntD at e
  split at e
  · rename_i h
    cases e
    have c1 := cx.dp s h.1
    rw [pyD] at c1
    obtain ⟨a, xs, rfl, _⟩ := cx.lst s
    have h1 : SeqAt.shaped (.list (pyDs ds)) = true := by have := h.1; unfold shp at this; rw [pyD] at this; exact this
    exact ⟨a, y, _, _, rfl, rfl, c1, cy.dp s h.2, h1, h.2, q _ F H (.refl s) (.int _)⟩
  · cases e
theorem md_index : MtD K (rIndexD K) idxD := fun x y ds d o F H Q s cx cy e q => by
  unfold idxD at e
  split at e
  · rename_i h
    obtain ⟨j, ej, rfl⟩ := Option.map_eq_some_iff.mp e
    have c1 := cx.dp s h.1
    rw [pyD] at c1
    obtain ⟨a, xs, rfl, _⟩ := cx.lst s
    have h1 : SeqAt.shaped (.list (pyDs ds)) = true := by have := h.1; unfold shp at this; rw [pyD] at this; exact this
    obtain ⟨hj, hz, hno⟩ := List.findIdx?_eq_some_iff_getElem.mp ej
    refine ⟨a, y, _, _, j, (pyDs ds)[j], rfl, rfl, c1, cy.dp s h.2, h1, h.2, List.getElem?_eq_getElem hj, hz, fun m z hm hz' => ?_, q _ F H (.refl s) (.int _)⟩
    have hml : m < (pyDs ds).length := by omega
    rw [List.getElem?_eq_getElem hml] at hz'
    cases hz'
    simpa using hno m hm
  · cases e
end
section
variable {X : Cx} {E : Ex T} {e a b o : PySem.Expr} {pos p apos cpos : Pos}
theorem se_mt {name : Str} {id : String} {r : V → List V → Hp → VK → Prop} {φ : List D → D → Option O} {fo fa : Gm → R D} (slot : Slot "list" name id) (hty : typeOf (.builtin id) = pure (.type "method_descriptor")) (hm : MtR X id r) (hd : MtD X.K r φ) (ho : SR X E o fo) (ha : SR X E a fa)
    (hb : isSuper o = false) (hs : isStar a = false) (hl : (apos.endLine == cpos.line) = true) : SE X E (.Call (.Attribute o name apos) [a] [] cpos) (eMt φ fo fa) := by
  obtain ⟨t, po, go⟩ := ho
  obtain ⟨u, pa, ga⟩ := sa_of (.cons ha hs .nil)
  refine ⟨_, pe_bm PySem.F.plainAttrs_list slot hty hm po pa (attr_base hb) (few1 hs) hl (star_cons hs), fun Γ F0 H0 F H σ Q I q => ?_⟩
  refine go Γ F0 H0 F H σ _ I (R.post_imp (R.post_bind q) fun d q x F1 H1 g1 c1 => ?_)
  cases d with
  | lst ds =>
    obtain ⟨l, xs, rfl, hH, _⟩ := c1.lst g1.sub
    refine ⟨.inl ⟨rfl, xs, .of hH⟩, ga Γ F0 H0 F1 H1 σ _ (I.grow g1) ?_⟩
    have q := R.post_bind (R.post_err q fun n e => e.on g1)
    show R.post ((fa Γ).bind fun d => R.ok [d]) _ _
    cases ef : fa Γ with
    | stuck => rw [ef] at q; exact q.elim
    | err n => rw [ef] at q; exact q
    | ok d =>
      rw [ef] at q
      have q := post_okE q
      intro vs F2 H2 g2 cs
      obtain ⟨y, rfl, c2⟩ := cs.one
      obtain ⟨w, ew, q⟩ := of_post q
      exact hd _ y ds d w F2 H2 Q g2.sub (c1.grow g2) c2 ew fun v F3 H3 g3 r3 => q v F3 H3 ((g1.trans g2).trans g3) (r3.back (g1.trans g2).hh)
  | _ => exact q.elim
theorem se_count {fo fa : Gm → R D} (hu : X.A.units + 65 < cLine) (ho : SR X E o fo) (ha : SR X E a fa) (hb : isSuper o = false) (hs : isStar a = false) (hl : (apos.endLine == cpos.line) = true) : SE X E (.Call (.Attribute o "count" apos) [a] [] cpos) (eMt cntD fo fa) :=
  se_mt PySem.F.slot_list_count PySem.F.type_list_count (mt_countD hu) md_count ho ha hb hs hl
theorem se_index {fo fa : Gm → R D} (hu : X.A.units + 65 < cLine) (ho : SR X E o fo) (ha : SR X E a fa) (hb : isSuper o = false) (hs : isStar a = false) (hl : (apos.endLine == cpos.line) = true) : SE X E (.Call (.Attribute o "index" apos) [a] [] cpos) (eMt idxD fo fa) :=
  se_mt PySem.F.slot_list_index PySem.F.type_list_index (mt_indexD hu) md_index ho ha hb hs hl
end
end Pd

set_option Elab.async false
set_option linter.all false
set_option maxRecDepth 100000
set_option maxHeartbeats 1000000
namespace Pd
open PySem PySem.Spec L2

structure Hok (X : Cx) (G : Gl5) (N : List Str) (sc : Scope) (a D : Addr) : Prop where
  g : gOf X = G
  hN : X.N = N
  nd : N.Nodup
  sc : X.env.scope = sc
  fn : ∀ x, X.fn x = true
  hu : X.A.units + 100 < cLine
  pin : ∃ oe, (a, oe) ∈ X.pn ∧ Zc (.ref D) none oe ∧ ∃ vs, oe.data = .fields vs
  ex : ExcC X.K D
def fIsE (a : Addr) (c : D) (b : Bool) : List D → Option O
  | [.ref a', .ref C'] => match c with
    | .ref C => if a' = a ∧ C' = C then some (bO b) else none
    | _ => none
  | [.ref a', .ty n'] => match c with
    | .ty n => if a' = a ∧ n' = n then some (bO b) else none
    | _ => none
  | _ => none
def kitD (K : PySem.W.Frag) (D : Addr) : Pd.D → Option Bool
  | .ref C => PySem.W.kitOne K (.ref D) (.ref C)
  | .ty n => PySem.W.kitOne K (.ref D) (.type n)
  | _ => none
section
variable {X : Cx} {E : Ex T} {G : Gl5} {N : List Str} {sc : Scope} {a D : Addr}
theorem Hok.isE (C : Hok X G N sc a D) : CallR X (.builtin "isinstance") (rIsE X.K D a) := by
  intro pins s σ H xs us Q I r h
  obtain ⟨c, cv, b, rfl, hcv, e, q⟩ := h
  obtain ⟨u1, u2, rfl, r1, r2⟩ := vals2 r
  obtain rfl := hcv _ r2
  cases r1
  obtain ⟨oe, hp, hz, vs, hv⟩ := C.pin
  have at_ := (I.pin (a, oe) (List.mem_append_left _ hp)).1
  have J : PySem.W.InstAt s.heap a oe D none := by
    cases oe with
    | mk oc od oda osl =>
      obtain ⟨h1, h2⟩ := hz
      cases h1
      cases h2
      cases hv
      exact ⟨at_, rfl, rfl, trivial⟩
  have K1 := PySem.W.handS_kitx_exc C.ex.hg C.ex.hk C.ex.hs C.ex.hd C.ex.ha C.ex.hn C.ex.ht C.ex.hm (x := a) (ox := oe)
  exact PySem.W.kia_one K1 I.kIn J e (fun z => nomatch z) fun tk => ⟨.bl b, H, I.tok tk, rfl, q⟩
theorem Hok.cd (C : Hok X G N sc a D) {c : Pd.D} {b : Bool} (h : kitD X.K D c = some b) : BuiltinOk X "isinstance" (fIsE a c b) := by
  refine .inl ⟨_, _, by decide +kernel, C.isE, fun xs ds o F H Q s cs eo q => ?_⟩
  unfold fIsE at eo
  split at eo
  · obtain ⟨x, y, rfl, c1, c2⟩ := cs.two
    obtain rfl := c1.ref
    obtain rfl := c2.ref
    cases c with
    | ref C =>
      dsimp only at eo
      split at eo
      · rename_i hh
        obtain ⟨rfl, rfl⟩ := hh
        cases eo
        exact ⟨_, _, b, rfl, (fun u r => r), h, q _ F H (.refl s) (.bl _)⟩
      · cases eo
    | _ => cases eo
  · obtain ⟨x, y, rfl, c1, c2⟩ := cs.two
    obtain rfl := c1.ref
    obtain rfl := c2.ty
    cases c with
    | ty n =>
      dsimp only at eo
      split at eo
      · rename_i hh
        obtain ⟨rfl, rfl⟩ := hh
        cases eo
        exact ⟨_, _, b, rfl, (fun u r => r), h, q _ F H (.refl s) (.bl _)⟩
      · cases eo
    | _ => cases eo
  · cases eo
variable {e b c o : PySem.Expr} {pos p p2 apos cpos : Pos} {i : Nat} {x y : Str}
theorem Hok.glo (C : Hok X G N sc a D) {x : Str} (h : gloB sc x = true) : Gl X x ∧ (x == ("__debug__" : Str)) = false := by
  unfold gloB at h
  simp only [Bool.and_eq_true, Bool.not_eq_true'] at h
  refine ⟨?_, h.2⟩
  show X.env.scope.names.lookup x = _
  rw [C.sc]
  exact lk_of h.1
theorem h_r (C : Hok X G N sc a D) (h : varB N sc i x = true) : SR X E (.Name x pos) (rVar i) := by
  unfold varB visB at h
  simp only [Bool.and_eq_true, Bool.or_eq_true, Bool.not_eq_true'] at h
  obtain ⟨⟨⟨h1, h2⟩, h3⟩, h4⟩ := h
  refine sr_var (by rw [C.hN]; exact eq_of_beq h1) ?_ h3 h4
  rw [C.sc]
  rcases h2 with (h2 | h2) | h2
  · exact .inl (lk_of h2)
  · exact .inr (.inl (lk_of h2))
  · exact .inr (.inr (lk_of h2))
theorem h_set (C : Hok X G N sc a D) {f : Gm → R O} (hy : stoB N sc fnAll i y = true) (he : SE X E e f) (hs : isComp e = false := by rfl) : SS X E (.Assign [.Name y p] e pos) (sSet false i f) := by
  unfold stoB at hy
  simp only [Bool.and_eq_true, Bool.or_eq_true] at hy
  obtain ⟨h1, h2⟩ := hy
  refine ss_set false (by rw [C.hN]; exact C.nd) (by rw [C.hN]; exact eq_of_beq h1) ?_ (.inl (C.fn y)) he (swaps_of hs)
  rw [C.sc]
  rcases h2 with h2 | ⟨h2, _⟩
  · exact .inl (lk_of h2)
  · exact .inr (lk_of h2)
theorem h_isC (C : Hok X G N sc a D) {Cx : Addr} {k : Bool} (hi : gloB sc "isinstance" = true) (bi : BltG G "isinstance") (hv : varB N sc i x = true) (hg : gloB sc y = true) (hm : G.mg y = some (.ref Cx)) (hk : PySem.W.kitOne G.K (.ref D) (.ref Cx) = some k) :
    SE X E (.Call (.Name "isinstance" p) [.Name x p2, .Name y cpos] [] pos) (eCall (fIsE a (.ref Cx) k) (seqR [rVar i, rd (eC (.ref Cx))])) := by
  have e := C.g; subst e
  exact se_call (C.cd (c := .ref Cx) hk) (by decide) (by decide) (C.glo hi).1 bi (.cons (h_r C hv) rfl (.cons (SE.read (se_glob (C.glo hg).1 hm (v := .ref Cx) rfl (fun _ => .ref _) (C.glo hg).2)) rfl .nil))
theorem h_isT (C : Hok X G N sc a D) {n : String} {k : Bool} (hi : gloB sc "isinstance" = true) (bi : BltG G "isinstance") (hv : varB N sc i x = true) (hg : gloB sc y = true) (hm : BltG G y) (hb : bootBuiltins y = some (.type n)) (hn : y ≠ "__name__") (hk : PySem.W.kitOne G.K (.ref D) (.type n) = some k) :
    SE X E (.Call (.Name "isinstance" p) [.Name x p2, .Name y cpos] [] pos) (eCall (fIsE a (.ty n) k) (seqR [rVar i, rd (eC (.ty n))])) := by
  have e := C.g; subst e
  exact se_call (C.cd (c := .ty n) hk) (by decide) (by decide) (C.glo hi).1 bi (.cons (h_r C hv) rfl (.cons (SE.read (se_type (C.glo hg).1 hm hb hn (C.glo hg).2)) rfl .nil))
theorem h_cmpT (C : Hok X G N sc a D) {op : CmpOp} {fa fb : Gm → R Pd.D} (ha : SR X E b fa) (hb : SR X E c fb) (hs : isSetE c = false := by rfl) : ST X E (.Compare b [op] [c] pos) (isB (e2 (dCmp op) fa fb)) := st_cmp C.hu ha hb hs
theorem h_ix (C : Hok X G N sc a D) {fa fb : Gm → R Pd.D} (ha : SR X E b fa) (hb : SR X E c fb) (hs : isSlice c = false := by rfl) : SE X E (.Subscript b c pos) (e2 dIx fa fb) := se_ix (by have := C.hu; omega) ha hb hs
theorem h_count (C : Hok X G N sc a D) {fo fa : Gm → R Pd.D} (ho : SR X E o fo) (ha : SR X E b fa) (hb : isSuper o = false := by rfl) (hs : isStar b = false := by rfl) (hl : (apos.endLine == cpos.line) = true := by rfl) : SE X E (.Call (.Attribute o "count" apos) [b] [] cpos) (eMt cntD fo fa) := se_count (by have := C.hu; omega) ho ha hb hs hl
theorem h_index (C : Hok X G N sc a D) {fo fa : Gm → R Pd.D} (ho : SR X E o fo) (ha : SR X E b fa) (hb : isSuper o = false := by rfl) (hs : isStar b = false := by rfl) (hl : (apos.endLine == cpos.line) = true := by rfl) : SE X E (.Call (.Attribute o "index" apos) [b] [] cpos) (eMt idxD fo fa) := se_index (by have := C.hu; omega) ho ha hb hs hl
end
def HotP (P : Program) (w : World) (K : PySem.W.Frag) (mg : Str → Option Value) (base : Heap) (k : Nat) (f : Addr) (fd : FuncData) (ps : List Str) (D : Addr) (ans : Pd.D) : Prop :=
  ps.length = 1 ∧ ∀ (A : Around) (outer : List Env) (s : Shared) (H : Hp) (args : Args) (us : List Value) (a : Addr) (oe : Obj) (T : List (Addr × Str)) (F : Fz T) (Q : VK), L2H.RoomH k A → L2H.PinOk outer H s (a, oe) → Zc (.ref D) none oe → (∃ vs, oe.data = .fields vs) →
    Env0 P w K mg base A outer s H → BindsTo s fd args (ps.zip us) → Vals [V.ref a] us → Sub F H → (∀ v F' H', Grow F H F' H' → ORep K H F' H' v (.v ans) → Q v H') →
    codeAny (model P w) A (.call (.ref f) args) (CR (L2.CX P w) outer P w H s Q (fun _ _ _ => False)) s
theorem roomH100 {k : Nat} {A : Around} (hr : L2H.RoomH k A) : A.units + 100 < cLine := by have := hr.un; omega
theorem hot_ok {P : Program} {w : World} {K : PySem.W.Frag} {mg : Str → Option Value} {base : Heap} {x : Str} {st : Stmt} {f : Addr} {fd : FuncData} {N ps : List Str} {k m : Nat} {D : Addr} {fn : Addr → Gm → R Out} {ans : Pd.D} (Fu : L2.Fun K x x st f fd) (S : FnScope N ps (L2.defScope st)) (hn : ps.length = 1) (hm : N.length = 1 + m) (ex : ExcC K D)
    (hb : ∀ (X : Cx) (T : List (Addr × Str)) (E : Ex T) (a : Addr), Hok X ⟨P, w, K, mg, base⟩ N (L2.defScope st) a D → SB X E (L2.defBody st) (fn a))
    (hv : ∀ a, defF m (fn a) [.val (.ref a)] = .ok (.v ans)) : HotP P w K mg base (k + 1) f fd ps D ans := by
  refine ⟨hn, fun A outer s H args us a oe T F Q hr pin hz hf e0 bd rv sb q => ?_⟩
  obtain ⟨oc, od, kV, doc, pm, an, cdv, ct, osl, rfl, lk, hcd⟩ := Fu.ex
  have KX : K.In s.heap := e0.mod.kin.keeps fun b o e => (e0.bs b o e).1
  have lim : s.heap.NoLimit := e0.mod.nolimit.keeps fun b o e => (e0.bs b o e).1
  have hl : [V.ref a].length = ps.length := hn.symm
  have kinds : ∀ y ∈ ps.zip us, (L2.defScope st).names.lookup y.1 = some .local ∨ ((L2.defScope st).names.lookup y.1 = some .cell ∧ ((cellsFrom (s.heap.objs.size + 1) (L2.defScope st).names []).lookup y.1).isSome = true) := fun y hy => by
    obtain ⟨n, v⟩ := y
    rcases S.par n (List.of_mem_zip hy).1 with z | z
    · exact .inl z
    · exact .inr ⟨z, PySem.W.cellsFrom_some _ _ _ (.inl z)⟩
  refine codeAny_call_function hr.depth (KX _ _ lk) rfl S.co S.gen rfl (PySem.W.codeRec_of KX hcd) (bd _ _ _ _ ?_)
  refine wpAny_newFunctionEnv_cells S.kind kinds fun env he s1 inC => ?_
  subst he
  refine ⟨lim.keeps inC.toInCall.keep, codeAny_func ?_⟩
  have I := L2H.inv_startH (CX := L2.CX P w) (E := fun _ _ _ => False) (cd := cdv) S pin e0 hl rv inC
  have C : Hok (L2H.cxH (L2.CX P w) P w K mg base N x (L2.defScope st) f cdv A outer s H (fun _ _ _ => False) (a, oe)) ⟨P, w, K, mg, base⟩ N (L2.defScope st) a D := by
    refine ⟨rfl, rfl, S.nd, rfl, fun _ => rfl, ?_, ⟨oe, ?_, hz, hf⟩, ex⟩
    · exact roomH100 (hr.deeper _)
    · show (a, oe) ∈ [(a, oe)]
      exact List.mem_singleton.mpr rfl
  obtain ⟨t, p, g⟩ := hb _ T ⟨fun _ _ _ => False⟩ a C
  have go := g _ F H F H (L2.start N [V.ref a]) { nx := fun _ H' => Q .non H', rt := Q } (start_ok (m := m) sb (.cons (show SlV K F H (V.ref a) (.val (.ref a)) from .ref a) .nil) hm) (by
    have ev := hv a
    unfold defF at ev
    cases e : fn a ([Sl.val (.ref a)] ++ List.replicate m .un) with
    | stuck => rw [e] at ev; cases ev
    | err n => rw [e] at ev; cases ev
    | ok u =>
      rw [e] at ev
      cases u with
      | nx Γ =>
        cases (show R.ok (O.v .non) = _ from ev)
        exact fun σ F' H' I => q .non F' H' I.all .non
      | rt o =>
        cases (show R.ok o = _ from ev)
        exact q
      | bk Γ => cases ev
      | ct Γ => cases ev)
  refine wpAny_mono (p.run [] s1 _ H _ I go) (fun fl s' hs => ?_) fun e s' hs => hs
  cases fl with
  | ret u =>
    obtain ⟨v, σ', H', J, r, z⟩ := hs
    exact ⟨v, H', J.os, J.bare, J.base, J.hok, r, z⟩
  | next =>
    obtain ⟨σ', H', J, z⟩ := hs
    exact ⟨V.non, H', J.os, J.bare, J.base, J.hok, rfl, z⟩
  | brk => obtain ⟨_, _, _, z⟩ := hs; exact z.elim
  | cont => obtain ⟨_, _, _, z⟩ := hs; exact z.elim
end Pd

set_option Elab.async false
set_option linter.all false
set_option maxRecDepth 100000
set_option maxHeartbeats 1000000
namespace Pd
open PySem PySem.Spec L2

theorem Sub.ext {F : Fz T} {H H' : Hp} (s : Sub F H) (e : Ext H H') (t : LamX.Tabs T H') : Sub F H' :=
  ⟨fun a o q => (s.at_ a o q).imp (fun z => e _ _ z fun ps y => s.nt a ps (by rw [q, y])) fun ⟨h, x, z⟩ => ⟨h, x, e _ _ z fun _ y => nomatch y⟩, s.nt, t⟩
theorem Grow.tab {F : Fz T} {H H' : Hp} (s : Sub F H) (e : Ext H H') (t : LamX.Tabs T H') : Grow F H F H' := ⟨e, Same.refl _, s.ext e t, fun _ _ _ _ => rfl⟩
def tHot (K : PySem.W.Frag) (run : Addr → Pd.D → Prop) (i : Nat) (a : Addr) (cls : Value) (d : Option Addr) : TE := fun σ H Q =>
  σ[i]? = some (some (.ref a)) ∧ d = none ∧ ∃ (D : Addr) (ans : Pd.D) (T : List (Addr × Str)) (F : Fz T), cls = .ref D ∧ run D ans ∧ Sub F H ∧ ∀ v F' H', Grow F H F' H' → ORep K H F' H' v (.v ans) → Q v H'
theorem pe_hot {X : Cx} {p : Addr × Obj} {f : Addr} {fd : FuncData} {ps : List Str} {k i : Nat} {x y : Str} {cls : Value} {d : Option Addr} {q pos p2 : Pos} (hp : p ∈ X.pn) (hz : Zc cls d p.2) (hf : ∃ vs, p.2.data = .fields vs) (hr : L2H.RoomH k X.A) (hg : Gl X x) (hm : X.mg x = some (.ref f))
    (hk : PySem.W.keepIn X.K (.ref f) = true) (hb : Binds X.K fd ps []) (hN : X.N[i]? = some y) (hv : Vis X.env.scope y) (hd : (x == ("__debug__" : Str)) = false) (hd2 : (y == ("__debug__" : Str)) = false) (hcd : (y == ("__classdict__" : Str)) = false) :
    PE X (.Call (.Name x q) [.Name y p2] [] pos) (tHot X.K (fun D ans => HotP X.prog X.w X.K X.mg X.base k f fd ps D ans) i p.1 cls d) := by
  refine ⟨fun pins s σ H Q I h => ?_⟩
  obtain ⟨hs, rfl, D, ans, T, F, rfl, hrun, sb, go⟩ := h
  obtain ⟨hl, run⟩ := hrun
  have ha : PA X [.Name y p2] (tCons (tVar i) tNil) := pa_cons (pe_var hN hv hd2 hcd) pa_nil
  refine wpAny_Call_Name_kw (ld_glob I hg hm ?_ hd)
  refine PySem.W.callWith_K (h₀ := X.base) I.ok.mod.kin hk (thn (ha.run pos pins s σ H (fun vs H1 => vs = [V.ref p.1] ∧ H1 = H) I ⟨_, hs, rfl, rfl⟩) fun us s1 hq => ?_) rfl rfl
  obtain ⟨vs, H1, I1, r, rfl, rfl⟩ := hq
  refine ⟨I1.kIn, ?_⟩
  have P1 := I1.pin p (List.mem_append_left _ hp)
  have pin : L2H.PinOk X.stack H1 s1 p := ⟨P1.1, P1.2.1, fun m => (List.mem_cons.mp (I1.stkSub p.1 m)).elim P1.2.2.1 P1.2.2.2.1, P1.2.2.2.2⟩
  have len : us.length = ps.length := by rw [← r.length, hl]; rfl
  have bd := hb s1 us I1.kIn (by rw [List.append_nil]; exact len)
  rw [List.append_nil] at bd
  obtain ⟨a, oe⟩ := p
  refine wpAny_call (codeAny_mono (run X.A X.stack s1 H1 ⟨us, []⟩ us a oe T F Q hr pin hz hf I1.env0 bd r sb go) fun r s' hq => ?_)
  cases r with
  | error e =>
    obtain ⟨_, _, _, _, _, _, _, _, _, _, _, _, z⟩ := hq
    exact z.elim
  | ok fl =>
    cases fl with
    | ret u => exact I1.after hq
    | next => exact False.elim hq
    | brk => exact False.elim hq
    | cont => exact False.elim hq
def wRef (K : PySem.W.Frag) (run : Addr → Pd.D → Prop) (CL : Addr) (Q : VK) : XK := fun cls d H' =>
  d = none ∧ ∃ (D : Addr) (w : Str) (T : List (Addr × Str)) (F : Fz T), cls = .ref D ∧ run D (.str w) ∧ PySem.W.exmOne K (.ref D) (.ref CL) = some true ∧ Sub F H' ∧ ∀ F' H'', Grow F H' F' H'' → Q (.str w) H''
def TRef (K : PySem.W.Frag) (run : Addr → Pd.D → Prop) (CL : Addr) : (XK → Hp → VK → Prop) → Hp → VK → Prop := fun tl H Q => tl (wRef K run CL Q) H fun _ H1 => Q (.str "told") H1
theorem takes_len {X : Cx} {W : WX} (t : Takes X W) : Takes X (fun cls d σ H => σ.length = X.N.length → W cls d σ H) := fun u s' x => by
  obtain ⟨a, B, sI, pins, σ, H, cls, d, e, I, nb, up, sky, na, os, ag, w⟩ := x
  exact t u s' ⟨a, B, sI, pins, σ, H, cls, d, e, I, nb, up, sky, na, os, ag, w I.len⟩
theorem roomH_mark {k : Nat} {A : Around} {v : Option Value} (h : L2H.RoomH k A) : L2H.RoomH k (A.mark v) := ⟨h.dp, h.un⟩
theorem ref_gives {X : Cx} {Ng : List Str} {x a e w cl lp q : Str} {sg : Scope} {g CL fc : Addr} {cdg : Value} {fdc : FuncData} {psc : List Str} {k j : Nat} {p1 p2 p3 p4 p5 p6 p7 p8 p9 p10 p11 p12 p13 p14 p15 p16 : Pos}
    (nd : Ng.Nodup) (n0 : Ng[0]? = some a) (n1 : Ng[1]? = some w) (n2 : Ng[2]? = some e) (lw : sg.names.lookup w = some .local) (le : sg.names.lookup e = some .local) (hlp : sg.names.lookup lp = some .globalImplicit) (hcl : sg.names.lookup cl = some .globalImplicit)
    (dlp : (lp == ("__debug__" : Str)) = false) (dcl : (cl == ("__debug__" : Str)) = false) (dw : (w == ("__debug__" : Str)) = false) (cw : (w == ("__classdict__" : Str)) = false) (de : (e == ("__debug__" : Str)) = false) (ce : (e == ("__classdict__" : Str)) = false)
    (mlp : X.mg lp = some (.ref CL)) (mcl : X.mg cl = some (.ref fc)) (kcl : PySem.W.keepIn X.K (.ref fc) = true) (bcl : Binds X.K fdc psc []) (hr : ∀ env : Env, L2H.RoomH k (X.A.deeper env)) (hs0 : ∀ f : Addr, L2.start Ng [V.ref f] = [some (V.ref f), none, none]) (hN3 : Ng.length = 3) :
    LamX.GivesTo X Ng x sg g cdg [.Assign [.Name w p1] (.Constant (.str "told") j p2) p3,
      .Try [.Expr (.Call (.Name a p4) [] [] p5) p6] [.ExceptHandler (some (.Name lp p7)) (some e) [.Assign [.Name w p8] (.Call (.Name cl p9) [.Name e p10] [] p11) p12] p13] [] [] p14, .Return (some (.Name w p15)) p16] a q (TRef X.K (fun D ans => HotP X.prog X.w X.K X.mg X.base k fc fdc psc D ans) CL) := by
  intro f c' s H Q tl act hc h
  have tr := @ps_try_as (cxOf C8.CX0 X.prog X.w X.K X.mg X.base Ng x sg g cdg X.A X.stack s H C8.E0).nox lp e (.ref CL) 2 [.Expr (.Call (.Name a p4) [] [] p5) p6] [] (.Assign [.Name w p8] (.Call (.Name cl p9) [.Name e p10] [] p11) p12) p7 p14 p13
    (fun W D σ H => ∃ Ech : XK, (∀ cls d σ' H', Ech cls d H' → σ'.length = Ng.length → W cls d σ' H') ∧ σ[0]? = some (some (.ref f)) ∧ H c' = some (LamX.CodeO c' q) ∧ tl Ech H fun _ H1 => D.nx σ H1)
    (fun a cls d => tAsg (tHot X.K (fun D ans => HotP X.prog X.w X.K X.mg X.base k fc fdc psc D ans) 2 a cls d) (gName 1)) (fun _ _ _ _ => False) rfl rfl nd n2 le ⟨hlp, dlp, .inl mlp⟩ LamX.takes0 ?_ ?_
  · refine ⟨_, pss_cons (ps_set (i := 1) nd n1 (.inl lw) pe_str (swaps_of rfl) (.inl rfl)) (pss_cons tr (pss_one (ps_ret (pe_var n1 (.inl lw) dw cw)))), ?_⟩
    show ∃ Ech : XK, _
    rw [hs0]
    have e1 : ∀ (σ : L2.St) (v : V), σ[1]? = some (some v) → (fun (_ : V) (H1 : Hp) => tRet (tVar 1) { nx := fun _ H' => Q .non H', rt := Q } σ H1) = fun _ H1 => Q v H1 := fun σ v hv => by
      funext _ H1
      refine propext ⟨fun ⟨u, hu, z⟩ => ?_, fun z => ⟨v, hv, z⟩⟩
      rw [hv] at hu
      cases hu
      exact z
    refine ⟨wRef X.K (fun D ans => HotP X.prog X.w X.K X.mg X.base k fc fdc psc D ans) CL Q, fun cls d σ' H' z len => ?_, rfl, hc, ?_⟩
    · obtain ⟨rfl, D, wd, T, F, rfl, run, ex, sb, go⟩ := z
      have l3 : σ'.length = 3 := len.trans hN3
      refine ⟨true, ex, fun _ ad na => ?_, fun z => nomatch z⟩
      refine ⟨?_, rfl, D, .str wd, T, F, rfl, run, sb, fun v F' H'' gr r => ?_⟩
      · rw [List.getElem?_set_self (by omega)]
      · cases (show Rep X.K F' v (.str wd) from r)
        refine ⟨.str wd, ?_, go F' H'' gr⟩
        rw [List.getElem?_set_ne (by decide), List.getElem?_set_self (by rw [List.length_set]; omega)]
    · show tl _ H fun (x : V) (H1 : Hp) => tRet (tVar 1) { nx := fun _ H' => Q .non H', rt := Q } [some (V.ref f), some (.str "told"), none] H1
      rw [e1 _ _ rfl]
      exact h
  · intro W pn xe tk _
    refine ⟨fun pins s' σ H' D I h' => ?_⟩
    obtain ⟨Ech, hW, h1, h2, h3⟩ := h'
    exact (pss_one (ps_expr (pos := p6) (act _ pn xe Ech p4 p5 (takes_len tk) hW) (swaps_of rfl))).run pins s' σ H' D I ⟨h1, h2, h3⟩
  · intro ad oe cls d pn hz hf
    exact pss_one (ps_set (i := 1) nd n1 (.inl lw) (pe_hot (p := (ad, oe)) List.mem_cons_self hz hf (roomH_mark (hr _)) hcl mcl kcl bcl n2 (.inl le) dcl de ce) (swaps_of rfl) (.inl rfl))
end Pd

set_option Elab.async false
set_option linter.all false
set_option maxRecDepth 100000
set_option maxHeartbeats 1000000
namespace Pd
open PySem PySem.Spec L2

def tEof (T : List (Addr × Str)) (K : PySem.W.Frag) (mg : Str → Option Value) (f : Gm → R O) (E : XK) : TE := fun σ H Q => ∃ (Γ : Gm) (F0 : Fz T) (H0 : Hp) (F : Fz T), EnvOk K F0 H0 F H σ Γ ∧
  (f Γ).post (fun o => ∀ v F' H', Grow F H F' H' → ORep K H F' H' v o → Q v H') (Erp mg (⟨E⟩ : Ex T) F H)
theorem SE.all {X : Cx} {e : PySem.Expr} {E : XK} {f : Gm → R O} (h : SE X (⟨E⟩ : Ex T) e f) : PE X e (tEof T X.K X.mg f E) := by
  obtain ⟨t, p, g⟩ := h
  exact PE.imp p fun σ H Q ⟨Γ, F0, H0, F, I, q⟩ => g Γ F0 H0 F H σ Q I q
def eRef (word : Str → Option Str) (f : Gm → R O) : Gm → R O := fun Γ => match f Γ with
  | .ok _ => .ok (.v (.str "told"))
  | .err n => match word n with
    | some w => .ok (.v (.str w))
    | none => .stuck
  | .stuck => .stuck
structure RefG (G : Gl5) (k : Nat) (x a w e lp cl : Str) (st : Stmt) (word : Str → Option Str) : Prop where
  ex : ∃ (g CL fc : Addr) (fd fdc : FuncData) (psc : List Str), L2.Fun G.K x x st g fd ∧ Binds G.K fd [a] [] ∧ FnScope [a, w, e] [a] (L2.defScope st) ∧ G.mg x = some (.ref g) ∧ G.mg lp = some (.ref CL) ∧ G.mg cl = some (.ref fc) ∧ PySem.W.keepIn G.K (.ref fc) = true ∧ Binds G.K fdc psc [] ∧
    ∀ n wd, word n = some wd → ∃ D, G.mg n = some (.ref D) ∧ HotP G.P G.w G.K G.mg G.base k fc fdc psc D (.str wd) ∧ PySem.W.exmOne G.K (.ref D) (.ref CL) = some true
  body : ∃ (j : Nat) (p1 p2 p3 p4 p5 p6 p7 p8 p9 p10 p11 p12 p13 p14 p15 p16 : Pos), L2.defBody st = [.Assign [.Name w p1] (.Constant (.str "told") j p2) p3,
      .Try [.Expr (.Call (.Name a p4) [] [] p5) p6] [.ExceptHandler (some (.Name lp p7)) (some e) [.Assign [.Name w p8] (.Call (.Name cl p9) [.Name e p10] [] p11) p12] p13] [] [] p14, .Return (some (.Name w p15)) p16]
  ok : ((L2.defScope st).names.lookup w == some .local && (L2.defScope st).names.lookup e == some .local && (L2.defScope st).names.lookup lp == some .globalImplicit && (L2.defScope st).names.lookup cl == some .globalImplicit && (L2.defScope st).names.lookup a == some .local &&
    [lp, cl, w, e, a, x].all (fun y => !(y == ("__debug__" : Str)) && !(y == ("__classdict__" : Str)))) = true
structure Lok (X : Cx) (T : List (Addr × Str)) (c P : Addr) : Prop where
  code : X.env.code = .ref c
  tb : LamX.TabB X.base X.mg c P
  tm : (P, X.env.qual ++ "<lambda>") ∈ T
  tu : ∀ p ∈ T, p.1 = P → p.2 = X.env.qual ++ "<lambda>"
def fnNo : Str → Bool := fun _ => false
theorem se_ref {X : Cx} {E : Ex T} {G : Gl5} {k k' : Nat} {N : List Str} {sc : Scope} {fnb : Str → Bool} {x a w e lp cl : Str} {st : Stmt} {word : Str → Option Str} {c P : Addr} {f : Gm → R O} {params : Arguments} {body : PySem.Expr} {scope : Scope} {p lpos pos : Pos}
    (C : Cok X E G (k + 2) N sc fnb) (L : Lok X T c P) (Rf : RefG G k' x a w e lp cl st word) (hg : gloB sc x = true) (hS : LamX.lamSB sc scope = true) (hk' : k' ≤ k + 1) (hdef : defaultsOf params X.env = ([], []))
    (hbind : ∀ (q : Str) (cl : List (Str × Addr)) (pm cv ctv : Value), bindArgs (PySem.W.kla_fn "<lambda>" q params body scope cl pm cv ctv) ⟨[], []⟩ = pure [])
    (hb : ∀ (Y : Cx) (E' : XK), Cok Y (⟨E'⟩ : Ex T) G k N scope fnNo → SE Y (⟨E'⟩ : Ex T) body f) : SE X E (.Call (.Name x p) [.Lambda params body scope lpos] [] pos) (eRef word f) := by
  have eg := C.g
  subst eg
  obtain ⟨g, CL, fc, fd, fdc, psc, Fu, bg, Sg, mx, mlp, mcl, kcl, bcl, hot⟩ := Rf.ex
  obtain ⟨j, p1, p2, p3, p4, p5, p6, p7, p8, p9, p10, p11, p12, p13, p14, p15, p16, eb⟩ := Rf.body
  have ok := Rf.ok
  simp only [Bool.and_eq_true, List.all_cons, List.all_nil, Bool.not_eq_true', Bool.and_true] at ok
  obtain ⟨⟨⟨⟨⟨k1, k2⟩, k3⟩, k4⟩, k5⟩, ⟨z1, _⟩, ⟨z2, _⟩, ⟨z3, z3'⟩, ⟨z4, z4'⟩, ⟨z5, z5'⟩, ⟨z6, _⟩⟩ := ok
  have kp := Fu.kp
  obtain ⟨oc, od, kV, doc, pm, an, cdv, ct, osl, rfl, lk, hcd⟩ := Fu.ex
  have hrm : ∀ env : Env, L2H.RoomH k' (X.A.deeper env) := fun env => (L2H.roomH_of (C.room.deeper env)).mono hk'
  have hG := ref_gives (X := X) (Ng := [a, w, e]) (x := x) (a := a) (e := e) (w := w) (cl := cl) (lp := lp) (q := X.env.qual ++ "<lambda>") (sg := L2.defScope st) (g := g) (CL := CL) (fc := fc) (cdg := cdv) (fdc := fdc) (psc := psc) (k := k') (j := j) (p1 := p1) (p2 := p2) (p3 := p3) (p4 := p4) (p5 := p5) (p6 := p6) (p7 := p7) (p8 := p8) (p9 := p9) (p10 := p10) (p11 := p11) (p12 := p12) (p13 := p13) (p14 := p14) (p15 := p15) (p16 := p16)
    Sg.nd rfl rfl rfl (lk_of k1) (lk_of k2) (lk_of k3) (lk_of k4) z1 z2 z3 z3' z4 z4' mlp mcl kcl bcl hrm (fun _ => rfl) rfl
  rw [← eb] at hG
  have hsc : LamX.LamS X.env.scope scope := by rw [C.sc]; exact LamX.lamS_by hS
  have pe := LamX.pe_lamcall (X := X) (T := T) (p := p) (pos := pos) (lpos := lpos) (t := fun E' => tEof T X.K X.mg f E') (C.glo hg).1 mx kp lk hcd bg Sg rfl (.inl (lk_of k5)) hG L.tb L.code L.tm
    (fun q hq e => L.tu q hq e) C.room hsc hdef hbind (fun A outer s H E' f' c' hr => SE.all (hb _ E' ⟨rfl, rfl, C.hN, C.nd, rfl, (fun _ z => nomatch z), room100 hr, hr, takes_of rfl rfl rfl rfl⟩)) z6 z5 z5'
  refine ⟨_, pe, fun Γ F0 H0 F H σ Q I q => ⟨I.sub.tb, fun H1 ex tb => ?_⟩⟩
  have g1 : Grow F H F H1 := Grow.tab I.sub ex tb
  refine ⟨Γ, F0, H0, F, I.grow g1, ?_⟩
  unfold eRef at q
  cases ef : f Γ with
  | stuck => rw [ef] at q; exact q.elim
  | ok o =>
    rw [ef] at q
    exact fun v F' H' gr _ => q (.str "told") F' H' (g1.trans gr) (.str _)
  | err n =>
    rw [ef] at q
    intro C' H' mC ex' tb'
    dsimp only at q
    cases ew : word n with
    | none => rw [ew] at q; exact q.elim
    | some wd =>
      rw [ew] at q
      obtain ⟨Dc, mD, run, exm⟩ := hot n wd ew
      have e1 : X.mg n = some (.ref Dc) := mD
      rw [e1] at mC
      cases mC
      have g2 : Grow F H1 F H' := Grow.tab g1.sub ex' tb'
      exact ⟨rfl, _, wd, T, F, rfl, run, exm, g2.sub, fun F' H'' gr => q (.str wd) F' H'' ((g1.trans g2).trans gr) (.str _)⟩
end Pd

set_option Elab.async false
set_option linter.all false
set_option maxRecDepth 100000
set_option maxHeartbeats 1000000
namespace Pd
open PySem PySem.Spec L2

def lamQ (x : Str) : Str := (x ++ ".<locals>.") ++ "<lambda>"
def spT (K : PySem.W.Frag) (T : List (Addr × Str)) (n : Nat) (φ : List Sl → R O) : Sp := fun vs H Q E => vs.length = n ∧ ∀ mg, ∃ (F : Fz T) (ss : List Sl), Sub F H ∧ SlVs K F H vs ss ∧
  (φ ss).post (fun o => ∀ v F' H', Grow F H F' H' → ORep K H F' H' v o → Q v H') (Erp mg (⟨E⟩ : Ex T) F H)
section
variable {P : Program} {w : World} {K : PySem.W.Frag} {mg : Str → Option Value} {base : Heap}
theorem def_okT {x : Str} {st : Stmt} {f c Pt : Addr} {oc kV doc pm ct : Value} {od an : Option Addr} {osl : Array (Option Value)} {N ps : List Str} {k n m : Nat} {fn : Gm → R Out}
    (lk : K.lookup f = some ⟨oc, od, .func (PySem.W.fnOf x x (L2.defArgs st) (L2.defBody st) (L2.defScope st) .none kV doc pm an (.ref c) ct), osl⟩) (hcd : PySem.W.codeIn K (.ref c) x = true) (TB : LamX.TabB base mg c Pt) (S : FnScope N ps (L2.defScope st)) (hn : ps.length = n) (hm : N.length = n + m)
    (hb : ∀ (X : Cx) (E : Ex [(Pt, lamQ x)]), Cok X E ⟨P, w, K, mg, base⟩ k N (L2.defScope st) fnAll → Sok X → Lok X [(Pt, lamQ x)] c Pt → SB X E (L2.defBody st) fn) :
    FnOk P w K mg base (L2.CX P w) (k + 1) f (PySem.W.fnOf x x (L2.defArgs st) (L2.defBody st) (L2.defScope st) .none kV doc pm an (.ref c) ct) ps (spT K [(Pt, lamQ x)] n (defF m fn)) := by
  refine fn_of lk hcd S (fun vs H Q E h => by rw [hn]; exact h.1) fun A outer s H vs Q E hr h => ?_
  obtain ⟨hl, h⟩ := h
  obtain ⟨F0, ss, sb, sv, q⟩ := h mg
  have C : Cok (cxOf (L2.CX P w) P w K mg base N x (L2.defScope st) f (.ref c) A outer s H E) (⟨E⟩ : Ex [(Pt, lamQ x)]) ⟨P, w, K, mg, base⟩ k N (L2.defScope st) fnAll :=
    ⟨rfl, rfl, rfl, S.nd, rfl, fun _ _ => rfl, room100 hr, hr, takes_of rfl rfl rfl rfl⟩
  obtain ⟨t, p, g⟩ := hb _ ⟨E⟩ C ⟨passes_of rfl⟩ ⟨rfl, TB, List.mem_singleton.mpr rfl, fun p hp _ => by rw [List.mem_singleton.mp hp]; rfl⟩
  refine ⟨t, p, g _ F0 H F0 H _ _ (start_ok sb sv (by omega)) (R.post_mono (R.post_bind q) (fun o _ q => ?_) fun n e => e)⟩
  cases o with
  | nx Γ => exact fun σ F' H' I => q .non F' H' I.all .non
  | bk Γ => exact q.elim
  | ct Γ => exact q.elim
  | rt o => exact q
theorem law_T {φ : List Sl → R O} {H : Hp} {a Pt : Addr} {qs : Str} {ns : List Int} (hP : H Pt = some (.tbl #[])) (hS : SqL K H a (ns.map V.int)) (hl : ns.length ≤ 63) (h : φ [.val (.scr ns)] = .ok (.v (.bl true))) : spT K [(Pt, qs)] 1 φ [.ref a] H (fun v _ => v = .bl true) fun _ _ _ => False := by
  have hT : LamX.Tabs [(Pt, qs)] H := fun p hp => by
    rw [List.mem_singleton.mp hp]
    exact LamX.TabS.nil hP
  refine ⟨rfl, fun mg => ⟨⟨hidT H⟩, [.val (.scr ns)], hid_sub hT, .cons (.scr (hid_seq hS) (Nat.le_trans hl (by rw [line_eq]; decide))) .nil, ?_⟩⟩
  rw [h]
  intro v F' H' g r
  cases (show Rep K F' v (.bl true) from r)
  rfl
theorem law_at {l : PySem.W.OpenLaw} {h : Heap} {x : Str} {st : Stmt} {f c Pt : Addr} {oc kV doc pm ct e : Value} {od an dd : Option Addr} {osl sl : Array (Option Value)} {vs : Array Value} {k : Nat} {p : Str} {φ : List Sl → R O} (X : K.In h) (own : LamX.OwnTab K f h)
    (lk : K.lookup f = some ⟨oc, od, .func (PySem.W.fnOf x x (L2.defArgs st) (L2.defBody st) (L2.defScope st) .none kV doc pm an (.ref c) ct), osl⟩) (lc : K.lookup c = some ⟨e, dd, .fields vs, sl⟩) (v11 : vs[11]? = some (.ref Pt)) (hd : PySem.W.codeHdIn K c Pt = true) (nT : K.lookup Pt = none)
    (hb : ∀ (s : Shared) (u : Value), BindsTo s (PySem.W.fnOf x x (L2.defArgs st) (L2.defBody st) (L2.defScope st) .none kV doc pm an (.ref c) ct) ⟨[u], []⟩ [(p, u)]) (good : ∀ ns : List Int, ns.length ≤ 63 → φ [.val (.scr ns)] = .ok (.v (.bl true)))
    (F : ∀ base : Heap, K.In base → base.Ns mainGlobals mg → LamX.TabB base mg c Pt → FnOk l.prog w K mg base (L2.CX l.prog w) k f (PySem.W.fnOf x x (L2.defArgs st) (L2.defBody st) (L2.defScope st) .none kV doc pm an (.ref c) ct) [p] (spT K [(Pt, lamQ x)] 1 φ)) :
    LamX.LawAtS l w K (L2.CX l.prog w) k 63 p mg f h := by
  refine ⟨_, [(c, Pt)], spT K [(Pt, lamQ x)] 1 φ, fun q hq => ?_, fun q hq => ?_, fun q hq => ?_, hb, fun H a ns hl _ hP hS => law_T (hP _ List.mem_cons_self) hS hl (good ns hl), fun base hB hN hT => F base hB hN (hT _ List.mem_cons_self)⟩
  · rw [List.mem_singleton.mp hq]
    exact own c Pt _ _ _ _ _ _ lk rfl rfl lc v11
  · rw [List.mem_singleton.mp hq]; exact nT
  · rw [List.mem_singleton.mp hq]; exact PySem.W.codeHd_of_K X hd
end
section
variable {X : Cx} {E : Ex T} {G : Gl5} {k : Nat} {N : List Str} {sc : Scope} {fnb : Str → Bool} {b o : PySem.Expr} {apos cpos : Pos}
end
@[simp] theorem R.bind_ok {α β : Type} (a : α) (f : α → R β) : (R.ok a).bind f = f a := rfl
@[simp] theorem R.bind_err {α β : Type} (n : Str) (f : α → R β) : (R.err n).bind f = .err n := rfl
@[simp] theorem R.bind_stuck {α β : Type} (f : α → R β) : (R.stuck : R α).bind f = .stuck := rfl
@[simp] theorem R.of_some {α : Type} (a : α) : R.of (some a) = .ok a := rfl
@[simp] theorem noE_ok' {α : Type} (a : α) : noE (R.ok a) = .ok a := rfl
theorem fIsE_ref (a C : Addr) (b : Bool) : fIsE a (.ref C) b [.ref a, .ref C] = some (bO b) := by simp [fIsE]
theorem fIsE_ty (a : Addr) (n : String) (b : Bool) : fIsE a (.ty n) b [.ref a, .ty n] = some (bO b) := by simp [fIsE]

end Pd

set_option Elab.async false
set_option linter.all false
set_option maxRecDepth 100000
set_option maxHeartbeats 1000000
namespace Pd
open PySem PySem.Spec L2

theorem mul_r {i j : Int} (h1 : -18446744073709551616 < j) (h2 : j < 18446744073709551616) : dMul (.int i) (.int j) = some (.v (.int (i * j))) := by
  unfold dMul
  exact if_pos (.inr ⟨by omega, by omega⟩)
theorem div_i {i j : Int} (h1 : 0 < j) (h2 : j < 1073741824) : dDiv (.int i) (.int j) = some (.v (.int (i / j))) := if_pos ⟨h1, Nat.lt_of_lt_of_le ((Nat.log2_lt (by omega)).mpr (show j.natAbs < 2 ^ 30 by omega)) (by decide)⟩
theorem div_w {i j : Int} (h1 : 0 < j) (h2 : j.natAbs.log2 < 9000) : dDiv (.int i) (.int j) = some (.v (.int (i / j))) := if_pos ⟨h1, h2⟩
theorem mod_i {i j : Int} (h1 : 0 < j) : dMod (.int i) (.int j) = some (.v (.int (i % j))) := if_pos h1
theorem add_i {i j : Int} : dAdd (.int i) (.int j) = some (.v (.int (i + j))) := rfl
theorem sub_i {i j : Int} : dSub (.int i) (.int j) = some (.v (.int (i - j))) := rfl
theorem lt_i {i j : Int} : dLt (.int i) (.int j) = some (.v (.bl (decide (i < j)))) := rfl
theorem le_i {i j : Int} : dLe (.int i) (.int j) = some (.v (.bl (decide (i ≤ j)))) := rfl
theorem gt_i {i j : Int} : dGt (.int i) (.int j) = some (.v (.bl (decide (j < i)))) := rfl
theorem ge_i {i j : Int} : dGe (.int i) (.int j) = some (.v (.bl (decide (j ≤ i)))) := rfl
theorem eq_i {i j : Int} : dEq (.int i) (.int j) = some (.v (.bl (i == j))) := rfl
theorem ne_i {i j : Int} : dNe (.int i) (.int j) = some (.v (.bl (!(i == j)))) := rfl
theorem pow18 : dPow (.int 10) (.int 18) = some (.v (.int 1000000000000000000)) := rfl
def gTail : Gm → R Out := (sSeq (sSet false 3 (e2 (dBin .Mod) (rd (e2 (dBin .Mult) (rd (e2 (dBin .Add) (rd (e2 (dBin .Add) (rd (e2 (dBin .Mod) (rVar 0) (rd (eC (.int 1000000007))))) (rd (e2 (dBin .Mult) (rd (eC (.int 1009))) (rVar 1))))) (rd (eC (.int 17))))) (rd (eC (.int 69621))))) (rd (eC (.int 2147483647)))))
  (sSeq (sSet false 3 (e2 (dBin .Mod) (rd (e2 (dBin .Add) (rd (e2 (dBin .Add) (rd (e2 (dBin .Mult) (rVar 3) (rVar 3))) (rd (e2 (dBin .Mult) (rd (eC (.int 40503))) (rVar 1))))) (rd (eC (.int 5))))) (rd (eC (.int 2147483629)))))
  (sSeq (sRet (e2 (dBin .Mod) (rd (e2 (dBin .FloorDiv) (rd (e2 (dBin .Mod) (rd (e2 (dBin .Mult) (rVar 3) (rd (eC (.int 48271))))) (rd (eC (.int 2147483647))))) (rd (eC (.int 32))))) (rVar 2)))
  (sNext))))
def gHead : Gm → R Out := (sIf (isB (e2 (dCmp .GtE) (rVar 0) (rd (e2 (dBin .Pow) (rd (eC (.int 10))) (rd (eC (.int 18))))))) (sSeq (sSet false 4 (eVar 0))
  (sSeq (sFor (iOf rngF1 (seqR [rVar 1])) (.nm 5) (sSeq (sSet false 4 (e2 (dBin .FloorDiv) (rVar 4) (rVar 2)))
  (sNext)))
  (sSeq (sIf (isB (e2 (dCmp .Gt) (rVar 4) (rd (eC (.int 0))))) (sSeq (sRet (e2 (dBin .Mod) (rVar 4) (rVar 2)))
  (sNext)) (sNext))
  (sNext)))) (sNext))
theorem tail_ok (c k b : Int) (s3 s4 s5 : Sl) (hk : 0 ≤ k) (hk2 : k < 1000000) (hb : 0 < b) : ∃ r, 0 ≤ r ∧ r < b ∧ gTail [.val (.int c), .val (.int k), .val (.int b), s3, s4, s5] = .ok (.rt (.v (.int r))) := by
  have e : gTail [.val (.int c), .val (.int k), .val (.int b), s3, s4, s5] = .ok (.rt (.v (.int (((c % 1000000007 + 1009 * k + 17) * 69621 % 2147483647 * ((c % 1000000007 + 1009 * k + 17) * 69621 % 2147483647) + 40503 * k + 5) % 2147483629 * 48271 % 2147483647 / 32 % b)))) := by
    unfold gTail
    simp (implicitDefEqProofs := false) (disch := omega) only [defF, retO, sSeq, sNext, sIf, sSet, setO, isSetD, sRet, sRetV, sExpr, sAsg, sPar, sFor, tOrF, tAndF, tNotF, tTru, isB, vAndF, vOrF, eIf, eNot, eNeg, eCall, eUser, seqR, rVar, eVar, uVar, uVal, rd, vl, eC, eLst, eTup, Pd.e2, Pd.e3, dBin, dCmp, iOf, iF, rngF1, rngF2, O.d, O.val, O.canVal, bO, truD, R.bind_ok, R.bind_err, R.bind_stuck, R.of_some, noE_ok', Tg.fn, mul_r, div_i, mod_i, add_i, sub_i, lt_i, le_i, gt_i, ge_i, eq_i, ne_i, pow18, List.cons_append, List.nil_append, List.getElem?_cons_zero, List.getElem?_cons_succ, List.replicate_succ, List.replicate_zero, List.set_cons_zero, List.set_cons_succ, List.length_cons, List.length_nil, if_true, if_false, Bool.not_true, Bool.not_false, Bool.false_eq_true, reduceIte, Nat.reduceAdd, Nat.reduceLeDiff, Nat.zero_add, false_or, or_false, decide_eq_true_eq]
  exact ⟨_, Int.emod_nonneg _ (by omega), Int.emod_lt_of_pos _ hb, e⟩
theorem for_inv (t : Nat) (f : Gm → R Out) (P : Gm → Prop) (h : ∀ Γ d, P Γ → ∃ Γ', f (Γ.set t (.val d)) = .ok (.nx Γ') ∧ P Γ') : ∀ (ds : List D) (Γ : Gm), P Γ → ∃ Γ', forR (.nm t) f ds Γ = .ok (.nx Γ') ∧ P Γ' := by
  intro ds
  induction ds with
  | nil => intro Γ p; exact ⟨Γ, by rw [forR], p⟩
  | cons d r ih =>
    intro Γ p
    obtain ⟨Γ1, e1, p1⟩ := h Γ d p
    obtain ⟨Γ2, e2, p2⟩ := ih Γ1 p1
    refine ⟨Γ2, ?_, p2⟩
    rw [forR, Tg.fn, noE_ok', R.bind_ok, e1, R.bind_ok]
    exact e2
theorem loop_ok (c k b : Int) (hb : 0 < b) (hb2 : b.natAbs.log2 < 9000) (s3 : Sl) (ds : List D) (L : Int) (s5 : Sl) : ∃ L' s5', forR (.nm 5) (sSeq (sSet false 4 (e2 (dBin .FloorDiv) (rVar 4) (rVar 2))) (sNext)) ds [.val (.int c), .val (.int k), .val (.int b), s3, .val (.int L), s5] = .ok (.nx [.val (.int c), .val (.int k), .val (.int b), s3, .val (.int L'), s5']) := by
  obtain ⟨Γ', e, L', s5', p⟩ := for_inv 5 (sSeq (sSet false 4 (e2 (dBin .FloorDiv) (rVar 4) (rVar 2))) (sNext)) (fun Γ => ∃ L' s5', Γ = [.val (.int c), .val (.int k), .val (.int b), s3, .val (.int L'), s5']) (by
    rintro Γ d ⟨L', s5', rfl⟩
    refine ⟨[.val (.int c), .val (.int k), .val (.int b), s3, .val (.int (L' / b)), .val d], ?_, _, _, rfl⟩
    have dv : dDiv (.int L') (.int b) = some (.v (.int (L' / b))) := div_w hb hb2
    simp (implicitDefEqProofs := false) (disch := omega) only [defF, retO, sSeq, sNext, sIf, sSet, setO, isSetD, sRet, sRetV, sExpr, sAsg, sPar, sFor, tOrF, tAndF, tNotF, tTru, isB, vAndF, vOrF, eIf, eNot, eNeg, eCall, eUser, seqR, rVar, eVar, uVar, uVal, rd, vl, eC, eLst, eTup, Pd.e2, Pd.e3, dBin, dCmp, iOf, iF, rngF1, rngF2, O.d, O.val, O.canVal, bO, truD, R.bind_ok, R.bind_err, R.bind_stuck, R.of_some, noE_ok', Tg.fn, mul_r, div_i, mod_i, add_i, sub_i, lt_i, le_i, gt_i, ge_i, eq_i, ne_i, pow18, List.cons_append, List.nil_append, List.getElem?_cons_zero, List.getElem?_cons_succ, List.replicate_succ, List.replicate_zero, List.set_cons_zero, List.set_cons_succ, List.length_cons, List.length_nil, if_true, if_false, Bool.not_true, Bool.not_false, Bool.false_eq_true, reduceIte, Nat.reduceAdd, Nat.reduceLeDiff, Nat.zero_add, false_or, or_false, decide_eq_true_eq, dv]) ds _ ⟨L, s5, rfl⟩
  exact ⟨L', s5', p ▸ e⟩
theorem head_no (c k b : Int) (h : ¬ (1000000000000000000 : Int) ≤ c) : gHead [.val (.int c), .val (.int k), .val (.int b), .un, .un, .un] = .ok (.nx [.val (.int c), .val (.int k), .val (.int b), .un, .un, .un]) := by
  unfold gHead
  simp (implicitDefEqProofs := false) (disch := omega) only [defF, retO, sSeq, sNext, sIf, sSet, setO, isSetD, sRet, sRetV, sExpr, sAsg, sPar, sFor, tOrF, tAndF, tNotF, tTru, isB, vAndF, vOrF, eIf, eNot, eNeg, eCall, eUser, seqR, rVar, eVar, uVar, uVal, rd, vl, eC, eLst, eTup, Pd.e2, Pd.e3, dBin, dCmp, iOf, iF, rngF1, rngF2, O.d, O.val, O.canVal, bO, truD, R.bind_ok, R.bind_err, R.bind_stuck, R.of_some, noE_ok', Tg.fn, mul_r, div_i, mod_i, add_i, sub_i, lt_i, le_i, gt_i, ge_i, eq_i, ne_i, pow18, List.cons_append, List.nil_append, List.getElem?_cons_zero, List.getElem?_cons_succ, List.replicate_succ, List.replicate_zero, List.set_cons_zero, List.set_cons_succ, List.length_cons, List.length_nil, if_true, if_false, Bool.not_true, Bool.not_false, Bool.false_eq_true, reduceIte, Nat.reduceAdd, Nat.reduceLeDiff, Nat.zero_add, false_or, or_false, decide_eq_true_eq, h]
theorem cond_yes (c k b : Int) (h : (1000000000000000000 : Int) ≤ c) : (isB (e2 (dCmp .GtE) (rVar 0) (rd (e2 (dBin .Pow) (rd (eC (.int 10))) (rd (eC (.int 18))))))) [.val (.int c), .val (.int k), .val (.int b), .un, .un, .un] = .ok true := by
  simp (implicitDefEqProofs := false) (disch := omega) only [defF, retO, sSeq, sNext, sIf, sSet, setO, isSetD, sRet, sRetV, sExpr, sAsg, sPar, sFor, tOrF, tAndF, tNotF, tTru, isB, vAndF, vOrF, eIf, eNot, eNeg, eCall, eUser, seqR, rVar, eVar, uVar, uVal, rd, vl, eC, eLst, eTup, Pd.e2, Pd.e3, dBin, dCmp, iOf, iF, rngF1, rngF2, O.d, O.val, O.canVal, bO, truD, R.bind_ok, R.bind_err, R.bind_stuck, R.of_some, noE_ok', Tg.fn, mul_r, div_i, mod_i, add_i, sub_i, lt_i, le_i, gt_i, ge_i, eq_i, ne_i, pow18, List.cons_append, List.nil_append, List.getElem?_cons_zero, List.getElem?_cons_succ, List.replicate_succ, List.replicate_zero, List.set_cons_zero, List.set_cons_succ, List.length_cons, List.length_nil, if_true, if_false, Bool.not_true, Bool.not_false, Bool.false_eq_true, reduceIte, Nat.reduceAdd, Nat.reduceLeDiff, Nat.zero_add, false_or, or_false, decide_eq_true_eq, h, decide_true]
theorem rng_yes (c k b : Int) (sm : smallI k = true) (kl : k.toNat ≤ line) (s4 : Sl) : iOf rngF1 (seqR [rVar 1]) [.val (.int c), .val (.int k), .val (.int b), .un, s4, .un] = .ok (rngD 0 k.toNat) := by
  simp (implicitDefEqProofs := false) (disch := omega) only [defF, retO, sSeq, sNext, sIf, sSet, setO, isSetD, sRet, sRetV, sExpr, sAsg, sPar, sFor, tOrF, tAndF, tNotF, tTru, isB, vAndF, vOrF, eIf, eNot, eNeg, eCall, eUser, seqR, rVar, eVar, uVar, uVal, rd, vl, eC, eLst, eTup, Pd.e2, Pd.e3, dBin, dCmp, iOf, iF, rngF1, rngF2, O.d, O.val, O.canVal, bO, truD, R.bind_ok, R.bind_err, R.bind_stuck, R.of_some, noE_ok', Tg.fn, mul_r, div_i, mod_i, add_i, sub_i, lt_i, le_i, gt_i, ge_i, eq_i, ne_i, pow18, List.cons_append, List.nil_append, List.getElem?_cons_zero, List.getElem?_cons_succ, List.replicate_succ, List.replicate_zero, List.set_cons_zero, List.set_cons_succ, List.length_cons, List.length_nil, if_true, if_false, Bool.not_true, Bool.not_false, Bool.false_eq_true, reduceIte, Nat.reduceAdd, Nat.reduceLeDiff, Nat.zero_add, false_or, or_false, decide_eq_true_eq, sm, kl, true_and, and_true, and_self]
theorem sSeq_nx {f g : Gm → R Out} {Γ Γ' : Gm} (e : f Γ = .ok (.nx Γ')) : sSeq f g Γ = g Γ' := by unfold sSeq; rw [e]; rfl
theorem sSeq_rt {f g : Gm → R Out} {Γ : Gm} {o : O} (e : f Γ = .ok (.rt o)) : sSeq f g Γ = .ok (.rt o) := by unfold sSeq; rw [e]; rfl
theorem sIf_t {c : Gm → R Bool} {f g : Gm → R Out} {Γ : Gm} (e : c Γ = .ok true) : sIf c f g Γ = f Γ := by unfold sIf; rw [e]; rfl
theorem sIf_f {c : Gm → R Bool} {f g : Gm → R Out} {Γ : Gm} (e : c Γ = .ok false) : sIf c f g Γ = g Γ := by unfold sIf; rw [e]; rfl
theorem sFor_eq {fi : Gm → R (List D)} {t : Tg} {b : Gm → R Out} {Γ : Gm} {ds : List D} (e : fi Γ = .ok ds) : sFor fi t b Γ = forR t b ds Γ := by unfold sFor; rw [e]; rfl
theorem head_yes (c k b : Int) (hb : 0 < b) (hb2 : b.natAbs.log2 < 9000) (sm : smallI k = true) (kl : k.toNat ≤ line) (h : (1000000000000000000 : Int) ≤ c) :
    (∃ L, 0 < L ∧ gHead [.val (.int c), .val (.int k), .val (.int b), .un, .un, .un] = .ok (.rt (.v (.int (L % b))))) ∨ (∃ s4 s5, gHead [.val (.int c), .val (.int k), .val (.int b), .un, .un, .un] = .ok (.nx [.val (.int c), .val (.int k), .val (.int b), .un, s4, s5])) := by
  have e1 : sSet false 4 (eVar 0) [.val (.int c), .val (.int k), .val (.int b), .un, .un, .un] = .ok (.nx [.val (.int c), .val (.int k), .val (.int b), .un, .val (.int c), .un]) := by simp (implicitDefEqProofs := false) (disch := omega) only [defF, retO, sSeq, sNext, sIf, sSet, setO, isSetD, sRet, sRetV, sExpr, sAsg, sPar, sFor, tOrF, tAndF, tNotF, tTru, isB, vAndF, vOrF, eIf, eNot, eNeg, eCall, eUser, seqR, rVar, eVar, uVar, uVal, rd, vl, eC, eLst, eTup, Pd.e2, Pd.e3, dBin, dCmp, iOf, iF, rngF1, rngF2, O.d, O.val, O.canVal, bO, truD, R.bind_ok, R.bind_err, R.bind_stuck, R.of_some, noE_ok', Tg.fn, mul_r, div_i, mod_i, add_i, sub_i, lt_i, le_i, gt_i, ge_i, eq_i, ne_i, pow18, List.cons_append, List.nil_append, List.getElem?_cons_zero, List.getElem?_cons_succ, List.replicate_succ, List.replicate_zero, List.set_cons_zero, List.set_cons_succ, List.length_cons, List.length_nil, if_true, if_false, Bool.not_true, Bool.not_false, Bool.false_eq_true, reduceIte, Nat.reduceAdd, Nat.reduceLeDiff, Nat.zero_add, false_or, or_false, decide_eq_true_eq]
  obtain ⟨L', s5', e2⟩ := loop_ok c k b hb hb2 .un (rngD 0 k.toNat) c .un
  by_cases h2 : 0 < L'
  · refine .inl ⟨L', h2, ?_⟩
    unfold gHead
    rw [sIf_t (cond_yes c k b h), sSeq_nx e1, sSeq_nx ((sFor_eq (rng_yes c k b sm kl _)).trans e2)]
    simp (implicitDefEqProofs := false) (disch := omega) only [defF, retO, sSeq, sNext, sIf, sSet, setO, isSetD, sRet, sRetV, sExpr, sAsg, sPar, sFor, tOrF, tAndF, tNotF, tTru, isB, vAndF, vOrF, eIf, eNot, eNeg, eCall, eUser, seqR, rVar, eVar, uVar, uVal, rd, vl, eC, eLst, eTup, Pd.e2, Pd.e3, dBin, dCmp, iOf, iF, rngF1, rngF2, O.d, O.val, O.canVal, bO, truD, R.bind_ok, R.bind_err, R.bind_stuck, R.of_some, noE_ok', Tg.fn, mul_r, div_i, mod_i, add_i, sub_i, lt_i, le_i, gt_i, ge_i, eq_i, ne_i, pow18, List.cons_append, List.nil_append, List.getElem?_cons_zero, List.getElem?_cons_succ, List.replicate_succ, List.replicate_zero, List.set_cons_zero, List.set_cons_succ, List.length_cons, List.length_nil, if_true, if_false, Bool.not_true, Bool.not_false, Bool.false_eq_true, reduceIte, Nat.reduceAdd, Nat.reduceLeDiff, Nat.zero_add, false_or, or_false, decide_eq_true_eq, h2, decide_true]
  · refine .inr ⟨.val (.int L'), s5', ?_⟩
    unfold gHead
    rw [sIf_t (cond_yes c k b h), sSeq_nx e1, sSeq_nx ((sFor_eq (rng_yes c k b sm kl _)).trans e2)]
    simp (implicitDefEqProofs := false) (disch := omega) only [defF, retO, sSeq, sNext, sIf, sSet, setO, isSetD, sRet, sRetV, sExpr, sAsg, sPar, sFor, tOrF, tAndF, tNotF, tTru, isB, vAndF, vOrF, eIf, eNot, eNeg, eCall, eUser, seqR, rVar, eVar, uVar, uVal, rd, vl, eC, eLst, eTup, Pd.e2, Pd.e3, dBin, dCmp, iOf, iF, rngF1, rngF2, O.d, O.val, O.canVal, bO, truD, R.bind_ok, R.bind_err, R.bind_stuck, R.of_some, noE_ok', Tg.fn, mul_r, div_i, mod_i, add_i, sub_i, lt_i, le_i, gt_i, ge_i, eq_i, ne_i, pow18, List.cons_append, List.nil_append, List.getElem?_cons_zero, List.getElem?_cons_succ, List.replicate_succ, List.replicate_zero, List.set_cons_zero, List.set_cons_succ, List.length_cons, List.length_nil, if_true, if_false, Bool.not_true, Bool.not_false, Bool.false_eq_true, reduceIte, Nat.reduceAdd, Nat.reduceLeDiff, Nat.zero_add, false_or, or_false, decide_eq_true_eq, h2, decide_false]
theorem def_rt {m : Nat} {f : Gm → R Out} {as : List Sl} {o : O} (e : f (as ++ List.replicate m .un) = .ok (.rt o)) : defF m f as = .ok o := by unfold defF; rw [e]; rfl
theorem draw_w (c : Int) (k b : Nat) (hk : k < 1000000) (hb : 0 < b) (hb2 : b.log2 < 9000) : ∃ r : Nat, r < b ∧ defF 3 (sSeq gHead gTail) [.val (.int c), .val (.int k), .val (.int b)] = .ok (.v (.int r)) := by
  have sm : smallI (k : Int) = true := decide_eq_true ⟨by omega, by omega⟩
  have kl : ((k : Int)).toNat ≤ line := by unfold line; omega
  have fin : ∀ (s3 s4 s5 : Sl), gHead [.val (.int c), .val (.int k), .val (.int b), .un, .un, .un] = .ok (.nx [.val (.int c), .val (.int k), .val (.int b), s3, s4, s5]) → ∃ r : Nat, r < b ∧ defF 3 (sSeq gHead gTail) [.val (.int c), .val (.int k), .val (.int b)] = .ok (.v (.int r)) := fun s3 s4 s5 e1 => by
    obtain ⟨r, h1, h2, e⟩ := tail_ok c k b s3 s4 s5 (by omega) (by omega) (by omega)
    refine ⟨r.toNat, by omega, def_rt ?_⟩
    rw [show ((r.toNat : Nat) : Int) = r by omega]
    exact (sSeq_nx e1).trans e
  by_cases h : (1000000000000000000 : Int) ≤ c
  · rcases head_yes c k b (by omega) (by rw [Int.natAbs_natCast]; exact hb2) sm kl h with ⟨L, hL, e⟩ | ⟨s4, s5, e⟩
    · refine ⟨(L % b).toNat, ?_, def_rt ?_⟩
      · have := Int.emod_lt_of_pos L (show (0 : Int) < b by omega)
        have := Int.emod_nonneg L (show (b : Int) ≠ 0 by omega)
        omega
      · have := Int.emod_nonneg L (show (b : Int) ≠ 0 by omega)
        rw [show (((L % b).toNat : Nat) : Int) = L % b by omega]
        exact sSeq_rt e
    · exact fin _ _ _ e
  · exact fin _ _ _ (head_no c k b h)
theorem draw_ok (c : Int) (k b : Nat) (hk : k < 1000000) (hb : 0 < b) (hb2 : b < 1073741824) : ∃ r : Nat, r < b ∧ defF 3 (sSeq gHead gTail) [.val (.int c), .val (.int k), .val (.int b)] = .ok (.v (.int r)) :=
  draw_w c k b hk hb (Nat.lt_of_lt_of_le ((Nat.log2_lt (by omega)).mpr (show b < 2 ^ 30 by omega)) (by decide))
end Pd

set_option Elab.async false
set_option linter.all false
set_option maxRecDepth 100000
set_option maxHeartbeats 1000000
namespace Pd
open PySem PySem.Spec L2
section
variable {α β : Type} {f g h : Gm → R O} {c c' : Gm → R Bool} {s s' : Gm → R Out} {d : D} {ds : List D} {Γ : Gm} {i j : Nat} {mu : Bool}
def seqK (g : Gm → R Out) : Out → R Out
  | .nx Γ => g Γ
  | .bk Γ => .ok (.bk Γ)
  | .ct Γ => .ok (.ct Γ)
  | .rt o => .ok (.rt o)
theorem r_seq {f g : Gm → R Out} : sSeq f g Γ = (f Γ).bind (seqK g) := by
  unfold sSeq
  congr 1
  funext o
  cases o <;> rfl
theorem r_seqNx {g : Gm → R Out} : seqK g (.nx Γ) = g Γ := rfl
theorem r_seqRt {g : Gm → R Out} {o : O} : seqK g (.rt o) = .ok (.rt o) := rfl
theorem r_seqBk {g : Gm → R Out} : seqK g (.bk Γ) = .ok (.bk Γ) := rfl
theorem r_seqCt {g : Gm → R Out} : seqK g (.ct Γ) = .ok (.ct Γ) := rfl
theorem r_next : sNext Γ = .ok (.nx Γ) := rfl
def ifK (f g : Gm → R α) (Γ : Gm) : Bool → R α
  | true => f Γ
  | false => g Γ
theorem r_if : sIf c s s' Γ = (c Γ).bind (ifK s s' Γ) := by
  unfold sIf
  congr 1
  funext b
  cases b <;> rfl
theorem r_ifT {f g : Gm → R α} : ifK f g Γ true = f Γ := rfl
theorem r_ifF {f g : Gm → R α} : ifK f g Γ false = g Γ := rfl
theorem r_eif : eIf c f g Γ = (c Γ).bind (ifK f g Γ) := by
  unfold eIf
  congr 1
  funext b
  cases b <;> rfl
def setK (mu : Bool) (i : Nat) (Γ : Gm) (o : O) : R Out := .ok (.nx (setO mu i o Γ))
theorem r_set : sSet mu i f Γ = (f Γ).bind (setK mu i Γ) := rfl
theorem r_setV : setK mu i Γ (.v d) = .ok (.nx (Γ.set i (.val d))) := rfl
theorem r_setOt : setK true i Γ (.o d) = .ok (.nx (Γ.set i (.own d))) := by simp [setK, setO]
theorem r_setOl : setK false i Γ (.o (.lst ds)) = .ok (.nx (Γ.set i (.val (.lst ds)))) := by simp [setK, setO, isSetD]
theorem r_setOd {kvs : List (D × D)} : setK false i Γ (.o (.dct kvs)) = .ok (.nx (Γ.set i (.val (.dct kvs)))) := by simp [setK, setO, isSetD]
theorem r_setOs {ns : List Int} : setK mu i Γ (.o (.set ns)) = .ok (.nx (Γ.set i (.own (.set ns)))) := by simp [setK, setO, isSetD]
def retK (o : O) : R Out := .ok (.rt o)
theorem r_ret : sRet f Γ = (f Γ).bind retK := rfl
theorem r_retK {o : O} : retK o = .ok (.rt o) := rfl
def retVK : Option Sl → R Out
  | some (.val d) => .ok (.rt (.v d))
  | some (.own d) => .ok (.rt (.o d))
  | _ => .stuck
theorem r_retV : sRetV i Γ = retVK Γ[i]? := by
  unfold sRetV retVK
  rfl
theorem r_retVv : retVK (some (.val d)) = .ok (.rt (.v d)) := rfl
theorem r_retVo : retVK (some (.own d)) = .ok (.rt (.o d)) := rfl
theorem r_expr {f : Gm → R D} : sExpr f Γ = (f Γ).bind fun _ => .ok (.nx Γ) := rfl
def asgK (t : Tg) (Γ : Gm) (d : D) : R Out := (noE (t.fn d Γ)).bind fun Γ' => .ok (.nx Γ')
theorem r_asg {t : Tg} {f : Gm → R D} : sAsg t f Γ = (f Γ).bind (asgK t Γ) := rfl
theorem r_asgK {t : Tg} : asgK t Γ d = (noE (t.fn d Γ)).bind fun Γ' => .ok (.nx Γ') := rfl
theorem r_tgN : (Tg.nm i).fn d Γ = .ok (Γ.set i (.val d)) := rfl
theorem r_tgT {ts : List Tg} : (Tg.tp ts).fn (.tup ds) Γ = Tg.fns ts ds Γ := rfl
theorem r_tgL {ts : List Tg} : (Tg.tp ts).fn (.lst ds) Γ = Tg.fns ts ds Γ := rfl
theorem r_tgs0 : Tg.fns [] [] Γ = .ok Γ := rfl
theorem r_tgs {t : Tg} {ts : List Tg} : Tg.fns (t :: ts) (d :: ds) Γ = (t.fn d Γ).bind fun Γ' => Tg.fns ts ds Γ' := rfl
def parK (i j : Nat) (Γ : Gm) : List D → R Out
  | [d, e] => .ok (.nx ((Γ.set i (.val d)).set j (.val e)))
  | _ => .stuck
theorem r_par {f : Gm → R (List D)} : sPar i j f Γ = (f Γ).bind (parK i j Γ) := rfl
theorem r_parK {e : D} : parK i j Γ [d, e] = .ok (.nx ((Γ.set i (.val d)).set j (.val e))) := rfl
def ownLK : Option Sl → R (List D)
  | some (.own (.lst ds)) => .ok ds
  | _ => .stuck
theorem r_ownL : ownL i Γ = ownLK Γ[i]? := by unfold ownL ownLK; rfl
theorem r_ownLo : ownLK (some (.own (.lst ds))) = .ok ds := rfl
def ownDK : Option Sl → R D
  | some (.own d) => .ok d
  | _ => .stuck
theorem r_ownD : ownD i Γ = ownDK Γ[i]? := by unfold ownD ownDK; rfl
theorem r_ownDo : ownDK (some (.own d)) = .ok d := rfl
def appJ (i : Nat) (Γ : Gm) (ds : List D) (d : D) : R Out := if ds.length < line then .ok (.nx (Γ.set i (.own (.lst (ds ++ [d]))))) else .stuck
def appK (i : Nat) (f : Gm → R D) (Γ : Gm) (ds : List D) : R Out := (f Γ).bind (appJ i Γ ds)
theorem r_app {f : Gm → R D} : sApp i f Γ = (ownL i Γ).bind (appK i f Γ) := rfl
theorem r_appK {f : Gm → R D} : appK i f Γ ds = (f Γ).bind (appJ i Γ ds) := rfl
theorem r_appJ (h : ds.length < 16777216) : appJ i Γ ds d = .ok (.nx (Γ.set i (.own (.lst (ds ++ [d]))))) := if_pos h
def extJ (i : Nat) (Γ : Gm) (ds : List D) : D → R Out
  | .lst es => if ds.length + es.length ≤ line then .ok (.nx (Γ.set i (.own (.lst (ds ++ es))))) else .stuck
  | _ => .stuck
def extK (i : Nat) (f : Gm → R D) (Γ : Gm) (ds : List D) : R Out := (f Γ).bind (extJ i Γ ds)
theorem r_ext {f : Gm → R D} : sExt i f Γ = (ownL i Γ).bind (extK i f Γ) := rfl
theorem r_extK {f : Gm → R D} : extK i f Γ ds = (f Γ).bind (extJ i Γ ds) := rfl
theorem r_extJ {es : List D} (h : ds.length + es.length ≤ 16777216) : extJ i Γ ds (.lst es) = .ok (.nx (Γ.set i (.own (.lst (ds ++ es))))) := if_pos h
def stoL (i : Nat) (Γ : Gm) (c : D) : R Out := .ok (.nx (Γ.set i (.own c)))
def stoJ (i : Nat) (Γ : Gm) (d c k : D) : R Out := (R.of (stoD c k d)).bind (stoL i Γ)
def stoI (i : Nat) (fk : Gm → R D) (Γ : Gm) (d c : D) : R Out := (fk Γ).bind (stoJ i Γ d c)
def stoK (i : Nat) (fk : Gm → R D) (Γ : Gm) (d : D) : R Out := (ownD i Γ).bind (stoI i fk Γ d)
theorem r_sto {fe fk : Gm → R D} : sSto i fe fk Γ = (fe Γ).bind (stoK i fk Γ) := rfl
theorem r_stoK {fk : Gm → R D} : stoK i fk Γ d = (ownD i Γ).bind (stoI i fk Γ d) := rfl
theorem r_stoI {fk : Gm → R D} {c : D} : stoI i fk Γ d c = (fk Γ).bind (stoJ i Γ d c) := rfl
theorem r_stoJ {c k : D} : stoJ i Γ d c k = (R.of (stoD c k d)).bind (stoL i Γ) := rfl
theorem r_stoL {c : D} : stoL i Γ c = .ok (.nx (Γ.set i (.own c))) := rfl
def orK (r : List (Gm → R Bool)) (Γ : Gm) : Bool → R Bool
  | true => .ok true
  | false => tOrF r Γ
theorem r_or1 : tOrF [c] Γ = c Γ := rfl
theorem r_or {r : List (Gm → R Bool)} : tOrF (c :: c' :: r) Γ = (c Γ).bind (orK (c' :: r) Γ) := by
  rw [tOrF]
  · show (c Γ).bind _ = _
    congr 1
    funext b
    cases b <;> rfl
  · simp
theorem r_orT {r : List (Gm → R Bool)} : orK r Γ true = .ok true := rfl
theorem r_orF {r : List (Gm → R Bool)} : orK r Γ false = tOrF r Γ := rfl
def andK (r : List (Gm → R Bool)) (Γ : Gm) : Bool → R Bool
  | true => tAndF r Γ
  | false => .ok false
theorem r_and1 : tAndF [c] Γ = c Γ := rfl
theorem r_and {r : List (Gm → R Bool)} : tAndF (c :: c' :: r) Γ = (c Γ).bind (andK (c' :: r) Γ) := by
  rw [tAndF]
  · show (c Γ).bind _ = _
    congr 1
    funext b
    cases b <;> rfl
  · simp
theorem r_andT {r : List (Gm → R Bool)} : andK r Γ true = tAndF r Γ := rfl
theorem r_andF {r : List (Gm → R Bool)} : andK r Γ false = .ok false := rfl
def vOrJ (r : List (Gm → R O)) (Γ : Gm) (o : O) : Bool → R O
  | true => .ok o
  | false => vOrF r Γ
def vOrK (r : List (Gm → R O)) (Γ : Gm) (o : O) : R O := (R.of (truD o.d)).bind (vOrJ r Γ o)
theorem r_vor1 : vOrF [f] Γ = f Γ := rfl
theorem r_vor {r : List (Gm → R O)} : vOrF (f :: g :: r) Γ = (f Γ).bind (vOrK (g :: r) Γ) := by
  rw [vOrF]
  · show (f Γ).bind _ = _
    congr 1
    funext o
    unfold vOrK
    congr 1
    funext b
    cases b <;> rfl
  · simp
theorem r_vorK {r : List (Gm → R O)} {o : O} : vOrK r Γ o = (R.of (truD o.d)).bind (vOrJ r Γ o) := rfl
theorem r_vorT {r : List (Gm → R O)} {o : O} : vOrJ r Γ o true = .ok o := rfl
theorem r_vorF {r : List (Gm → R O)} {o : O} : vOrJ r Γ o false = vOrF r Γ := rfl
def vAndJ (r : List (Gm → R O)) (Γ : Gm) (o : O) : Bool → R O
  | true => vAndF r Γ
  | false => .ok o
def vAndK (r : List (Gm → R O)) (Γ : Gm) (o : O) : R O := (R.of (truD o.d)).bind (vAndJ r Γ o)
theorem r_vand1 : vAndF [f] Γ = f Γ := rfl
theorem r_vand {r : List (Gm → R O)} : vAndF (f :: g :: r) Γ = (f Γ).bind (vAndK (g :: r) Γ) := by
  rw [vAndF]
  · show (f Γ).bind _ = _
    congr 1
    funext o
    unfold vAndK
    congr 1
    funext b
    cases b <;> rfl
  · simp
theorem r_vandK {r : List (Gm → R O)} {o : O} : vAndK r Γ o = (R.of (truD o.d)).bind (vAndJ r Γ o) := rfl
theorem r_vandT {r : List (Gm → R O)} {o : O} : vAndJ r Γ o true = vAndF r Γ := rfl
theorem r_vandF {r : List (Gm → R O)} {o : O} : vAndJ r Γ o false = .ok o := rfl
def notK (b : Bool) : R Bool := .ok (!b)
theorem r_not : tNotF c Γ = (c Γ).bind notK := rfl
theorem r_notK {b : Bool} : notK b = .ok (!b) := rfl
def truK (d : D) : R Bool := R.of (truD d)
theorem r_tru {f : Gm → R D} : tTru f Γ = (f Γ).bind truK := rfl
theorem r_truK : truK d = R.of (truD d) := rfl
theorem r_truB {b : Bool} : truD (.bl b) = some b := rfl
theorem r_truI {i : Int} : truD (.int i) = some (i != 0) := rfl
theorem r_truL : truD (.lst ds) = some (!ds.isEmpty) := rfl
theorem r_truT : truD (.tup ds) = some (!ds.isEmpty) := rfl
theorem r_truN : truD .non = some false := rfl
def isBK : O → R Bool
  | .v (.bl b) => .ok b
  | _ => .stuck
theorem r_isB : isB f Γ = (f Γ).bind isBK := rfl
theorem r_isBK {b : Bool} : isBK (.v (.bl b)) = .ok b := rfl
theorem r_eC : eC d Γ = .ok (.v d) := rfl
def rdK (o : O) : R D := .ok o.d
theorem r_rd : rd f Γ = (f Γ).bind rdK := rfl
theorem r_rdV : rdK (.v d) = .ok d := rfl
theorem r_rdO : rdK (.o d) = .ok d := rfl
theorem r_dV : O.d (.v d) = d := rfl
theorem r_dO : O.d (.o d) = d := rfl
theorem r_vl : vl f Γ = (f Γ).bind O.val := rfl
theorem r_valV : O.val (.v d) = .ok d := rfl
theorem r_valL : O.val (.o (.lst ds)) = .ok (.lst ds) := rfl
theorem r_valD {kvs : List (D × D)} : O.val (.o (.dct kvs)) = .ok (.dct kvs) := rfl
def rVK : Option Sl → R D
  | some (.val d) => .ok d
  | some (.own d) => .ok d
  | some (.bor d) => .ok d
  | _ => .stuck
theorem r_rV : rVar i Γ = rVK Γ[i]? := by unfold rVar rVK; rfl
theorem r_rVv : rVK (some (.val d)) = .ok d := rfl
theorem r_rVo : rVK (some (.own d)) = .ok d := rfl
theorem r_rVb : rVK (some (.bor d)) = .ok d := rfl
def eVK : Option Sl → R O
  | some (.val d) => .ok (.v d)
  | _ => .stuck
theorem r_eV : eVar i Γ = eVK Γ[i]? := by unfold eVar eVK; rfl
theorem r_eVv : eVK (some (.val d)) = .ok (.v d) := rfl
def uVK : Option Sl → R Sl
  | some (.val d) => .ok (.val d)
  | some (.own d) => .ok (.bor d)
  | some (.bor d) => .ok (.bor d)
  | _ => .stuck
theorem r_uV : uVar i Γ = uVK Γ[i]? := by unfold uVar uVK; rfl
theorem r_uVv : uVK (some (.val d)) = .ok (.val d) := rfl
theorem r_uVo : uVK (some (.own d)) = .ok (.bor d) := rfl
theorem r_uVb : uVK (some (.bor d)) = .ok (.bor d) := rfl
def uVlK (d : D) : R Sl := .ok (.val d)
theorem r_uVl {f : Gm → R D} : uVal f Γ = (f Γ).bind uVlK := rfl
theorem r_uVlK : uVlK d = .ok (.val d) := rfl
def consK (a : α) (as : List α) : R (List α) := .ok (a :: as)
def sqK (r : List (Gm → R α)) (Γ : Gm) (a : α) : R (List α) := (seqR r Γ).bind (consK a)
theorem r_sq0 : seqR ([] : List (Gm → R α)) Γ = .ok [] := rfl
theorem r_sq {f : Gm → R α} {r : List (Gm → R α)} : seqR (f :: r) Γ = (f Γ).bind (sqK r Γ) := rfl
theorem r_sqK {r : List (Gm → R α)} {a : α} : sqK r Γ a = (seqR r Γ).bind (consK a) := rfl
theorem r_consK {a : α} {as : List α} : consK a as = .ok (a :: as) := rfl
def opJ (op : D → D → Option O) (a b : D) : R O := R.of (op a b)
def opK (op : D → D → Option O) (fb : Gm → R D) (Γ : Gm) (a : D) : R O := (fb Γ).bind (opJ op a)
theorem r_e2 {op : D → D → Option O} {fa fb : Gm → R D} : e2 op fa fb Γ = (fa Γ).bind (opK op fb Γ) := rfl
theorem r_opK {op : D → D → Option O} {fb : Gm → R D} {a : D} : opK op fb Γ a = (fb Γ).bind (opJ op a) := rfl
theorem r_opJ {op : D → D → Option O} {a b : D} : opJ op a b = R.of (op a b) := rfl
def chM (op' : D → D → Option O) (fc : Gm → R D) (Γ : Gm) (b : D) : Option O → R O
  | some (.v (.bl true)) => (fc Γ).bind (opJ op' b)
  | some (.v (.bl false)) => .ok (.v (.bl false))
  | _ => .stuck
def chJ (op op' : D → D → Option O) (fc : Gm → R D) (Γ : Gm) (a b : D) : R O := chM op' fc Γ b (op a b)
def chK (op op' : D → D → Option O) (fb fc : Gm → R D) (Γ : Gm) (a : D) : R O := (fb Γ).bind (chJ op op' fc Γ a)
theorem r_e3 {op op' : D → D → Option O} {fa fb fc : Gm → R D} : e3 op op' fa fb fc Γ = (fa Γ).bind (chK op op' fb fc Γ) := by
  unfold e3
  congr 1
theorem r_chK {op op' : D → D → Option O} {fb fc : Gm → R D} {a : D} : chK op op' fb fc Γ a = (fb Γ).bind (chJ op op' fc Γ a) := rfl
theorem r_chJ {op op' : D → D → Option O} {fc : Gm → R D} {a b : D} : chJ op op' fc Γ a b = chM op' fc Γ b (op a b) := rfl
theorem r_chT {op' : D → D → Option O} {fc : Gm → R D} {b : D} : chM op' fc Γ b (some (.v (.bl true))) = (fc Γ).bind (opJ op' b) := rfl
theorem r_chF {op' : D → D → Option O} {fc : Gm → R D} {b : D} : chM op' fc Γ b (some (.v (.bl false))) = .ok (.v (.bl false)) := rfl
def clK (f : List D → Option O) (ds : List D) : R O := R.of (f ds)
theorem r_call {f : List D → Option O} {fa : Gm → R (List D)} : eCall f fa Γ = (fa Γ).bind (clK f) := rfl
theorem r_clK {f : List D → Option O} : clK f ds = R.of (f ds) := rfl
theorem r_user {φ : List Sl → R O} {fa : Gm → R (List Sl)} : eUser φ fa Γ = (fa Γ).bind φ := rfl
def ntK (d : D) : R O := (R.of (truD d)).bind fun k => .ok (.v (.bl (!k)))
theorem r_enot {f : Gm → R D} : eNot f Γ = (f Γ).bind ntK := rfl
theorem r_ntK : ntK d = (R.of (truD d)).bind fun k => .ok (.v (.bl (!k))) := rfl
def ngK : D → R O
  | .int i => .ok (.v (.int (-i)))
  | _ => .stuck
theorem r_eneg {f : Gm → R D} : eNeg f Γ = (f Γ).bind ngK := rfl
theorem r_ngK {i : Int} : ngK (.int i) = .ok (.v (.int (-i))) := rfl
def tpK (ds : List D) : R O := if ds.length ≤ line then .ok (.v (.tup ds)) else .stuck
theorem r_tup {f : Gm → R (List D)} : eTup f Γ = (f Γ).bind tpK := rfl
theorem r_tpK : tpK ds = if ds.length ≤ 16777216 then .ok (.v (.tup ds)) else .stuck := rfl
def lsK (ds : List D) : R O := if ds.length ≤ line then .ok (.o (.lst ds)) else .stuck
theorem r_lst {f : Gm → R (List D)} : eLst f Γ = (f Γ).bind lsK := rfl
theorem r_lsK : lsK ds = if ds.length ≤ 16777216 then .ok (.o (.lst ds)) else .stuck := rfl
def slI (a : D) (lo hi : Option Int) : R O := R.of (dSl a lo hi)
def slJ (fh : Gm → R (Option Int)) (Γ : Gm) (a : D) (lo : Option Int) : R O := (fh Γ).bind (slI a lo)
def slK (fl fh : Gm → R (Option Int)) (Γ : Gm) (a : D) : R O := (fl Γ).bind (slJ fh Γ a)
theorem r_sl {fa : Gm → R D} {fl fh : Gm → R (Option Int)} : eSl fa fl fh Γ = (fa Γ).bind (slK fl fh Γ) := rfl
theorem r_slK {fl fh : Gm → R (Option Int)} {a : D} : slK fl fh Γ a = (fl Γ).bind (slJ fh Γ a) := rfl
theorem r_slJ {fh : Gm → R (Option Int)} {a : D} {lo : Option Int} : slJ fh Γ a lo = (fh Γ).bind (slI a lo) := rfl
theorem r_slI {a : D} {lo hi : Option Int} : slI a lo hi = R.of (dSl a lo hi) := rfl
theorem r_slL {lo hi : Option Int} : dSl (.lst ds) lo hi = some (.o (.lst (cutG ds lo hi))) := rfl
theorem r_slT {lo hi : Option Int} : dSl (.tup ds) lo hi = some (.v (.tup (cutG ds lo hi))) := rfl
theorem r_noP : noPart Γ = .ok none := rfl
def aPK : D → R (Option Int)
  | .int i => .ok (some i)
  | _ => .stuck
theorem r_aP {f : Gm → R D} : aPart f Γ = (f Γ).bind aPK := rfl
theorem r_aPK {i : Int} : aPK (.int i) = .ok (some i) := rfl
theorem r_iOf {φ : List D → R (List D)} {f : Gm → R (List D)} : iOf φ f Γ = (f Γ).bind φ := rfl
theorem r_iF {f : Gm → R D} : iF f Γ = (f Γ).bind seqD := rfl
theorem r_sqL : seqD (.lst ds) = .ok ds := rfl
theorem r_sqT : seqD (.tup ds) = .ok ds := rfl
theorem r_sqS {ns : List Int} : seqD (.scr ns) = .ok (ns.map D.int) := rfl
def backK : D → R O
  | .lst ds => .ok (.o (.lst ds.reverse))
  | .tup ds => .ok (.v (.tup ds.reverse))
  | _ => .stuck
theorem r_def {m : Nat} {as : List Sl} : defF m s as = (s (as ++ List.replicate m .un)).bind retO := rfl
theorem r_rtR {o : O} : retO (.rt o) = .ok o := rfl
theorem r_rtN : retO (.nx Γ) = .ok (.v .non) := rfl
def rfK (word : Str → Option Str) : R O → R O
  | .ok _ => .ok (.v (.str "told"))
  | .err n => match word n with
    | some w => .ok (.v (.str w))
    | none => .stuck
  | .stuck => .stuck
theorem r_ref {word : Str → Option Str} : eRef word f Γ = rfK word (f Γ) := by unfold eRef rfK; rfl
theorem r_refO {word : Str → Option Str} {o : O} : rfK word (.ok o) = .ok (.v (.str "told")) := rfl
def wdK : Option Str → R O
  | some w => .ok (.v (.str w))
  | none => .stuck
theorem r_refE {word : Str → Option Str} {n : Str} : rfK word (.err n) = wdK (word n) := by
  show (match word n with
    | some w => R.ok (O.v (D.str w))
    | none => R.stuck) = _
  cases word n <;> rfl
theorem r_wdK {w : Str} : wdK (some w) = .ok (.v (.str w)) := rfl
theorem r_bAdd {a b : D} : dBin .Add a b = dAdd a b := rfl
theorem r_bSub {a b : D} : dBin .Sub a b = dSub a b := rfl
theorem r_bMul {a b : D} : dBin .Mult a b = dMul a b := rfl
theorem r_bDiv {a b : D} : dBin .FloorDiv a b = dDiv a b := rfl
theorem r_bMod {a b : D} : dBin .Mod a b = dMod a b := rfl
theorem r_bPow {a b : D} : dBin .Pow a b = dPow a b := rfl
theorem r_cLt {a b : D} : dCmp .Lt a b = dLt a b := rfl
theorem r_cLe {a b : D} : dCmp .LtE a b = dLe a b := rfl
theorem r_cGt {a b : D} : dCmp .Gt a b = dGt a b := rfl
theorem r_cGe {a b : D} : dCmp .GtE a b = dGe a b := rfl
theorem r_cEq {a b : D} : dCmp .Eq a b = dEq a b := rfl
theorem r_cNe {a b : D} : dCmp .NotEq a b = dNe a b := rfl
theorem r_ixL {i : Int} : dIx (.lst ds) (.int i) = (atI ds i).map .v := rfl
theorem r_ixT {i : Int} : dIx (.tup ds) (.int i) = (atI ds i).map .v := rfl
theorem r_of {a : α} : R.of (some a) = .ok a := rfl
theorem r_lenL : fLen [.lst ds] = some (.v (.int ds.length)) := rfl
theorem r_lenT : fLen [.tup ds] = some (.v (.int ds.length)) := rfl
theorem r_lenS {ns : List Int} : fLen [.scr ns] = some (.v (.int ns.length)) := rfl
end
end Pd

set_option Elab.async false
set_option linter.all false
set_option maxRecDepth 100000
set_option maxHeartbeats 1000000
namespace Pd
open PySem PySem.Spec L2

def isInt (r : R O) (n : Int) : Bool := match r with
  | .ok (.v (.int i)) => i == n
  | _ => false
def isErr (r : R O) (n : Str) : Bool := match r with
  | .err m => m == n
  | _ => false
def nD (l : List Nat) : List D := l.map fun n : Nat => D.int (n : Int)
def iD (l : List Int) : List D := l.map D.int
theorem intsOf_iD : ∀ l : List Int, intsOf (iD l) = some l
  | [] => rfl
  | n :: l => by
    show (intsOf (iD l)).map (fun ns => n :: ns) = _
    rw [intsOf_iD l]
    rfl
theorem rngD_map : ∀ (n : Nat) (lo : Int), rngD lo n = (List.range n).map fun i => .int (lo + i)
  | 0, _ => rfl
  | n + 1, lo => by
    rw [rngD, rngD_map n, List.range_succ_eq_map, List.map_cons, List.map_map]
    refine congr (congrArg _ ?_) (List.map_congr_left fun i _ => ?_)
    · show D.int lo = .int (lo + 0)
      rw [Int.add_zero]
    · show D.int (lo + 1 + i) = .int (lo + ((i + 1 : Nat) : Int))
      rw [Int.natCast_add]
      congr 1
      omega
theorem rngD_0 (n : Nat) : rngD 0 n = nD (List.range n) := by
  rw [rngD_map]
  exact List.map_congr_left fun i _ => by rw [Int.zero_add]
theorem mem_nD {l : List Nat} {d : D} : d ∈ nD l ↔ ∃ n ∈ l, d = .int n := by
  unfold nD
  rw [List.mem_map]
  exact ⟨fun ⟨n, a, b⟩ => ⟨n, a, b.symm⟩, fun ⟨n, a, b⟩ => ⟨n, a, b.symm⟩⟩
theorem for_mem (t : Nat) (f : Gm → R Out) (P : Gm → Prop) : ∀ (ds : List D) (h : ∀ Γ d, d ∈ ds → P Γ → ∃ Γ', f (Γ.set t (.val d)) = .ok (.nx Γ') ∧ P Γ') (Γ : Gm), P Γ → ∃ Γ', forR (.nm t) f ds Γ = .ok (.nx Γ') ∧ P Γ' := by
  intro ds
  induction ds with
  | nil => intro _ Γ p; exact ⟨Γ, by rw [forR], p⟩
  | cons d r ih =>
    intro h Γ p
    obtain ⟨Γ1, e1, p1⟩ := h Γ d (List.mem_cons_self ..) p
    obtain ⟨Γ2, e2, p2⟩ := ih (fun Γ d m => h Γ d (List.mem_cons_of_mem _ m)) Γ1 p1
    refine ⟨Γ2, ?_, p2⟩
    rw [forR, Tg.fn, noE_ok', R.bind_ok, e1, R.bind_ok]
    exact e2
theorem for_st (t : Nat) (f : Gm → R Out) (P : List D → Gm → Prop) : ∀ (ds pre : List D) (h : ∀ (a b : List D) (d : D) (Γ : Gm), pre ++ ds = a ++ d :: b → P a Γ → ∃ Γ', f (Γ.set t (.val d)) = .ok (.nx Γ') ∧ P (a ++ [d]) Γ') (Γ : Gm), P pre Γ → ∃ Γ', forR (.nm t) f ds Γ = .ok (.nx Γ') ∧ P (pre ++ ds) Γ' := by
  intro ds
  induction ds with
  | nil => intro pre _ Γ p; exact ⟨Γ, by rw [forR], by rw [List.append_nil]; exact p⟩
  | cons d r ih =>
    intro pre h Γ p
    obtain ⟨Γ1, e1, p1⟩ := h pre r d Γ rfl p
    obtain ⟨Γ2, e2, p2⟩ := ih (pre ++ [d]) (fun a b x Γ e => h a b x Γ (by rw [← e, List.append_assoc]; rfl)) Γ1 p1
    refine ⟨Γ2, ?_, by rw [List.append_assoc] at p2; exact p2⟩
    rw [forR, Tg.fn, noE_ok', R.bind_ok, e1, R.bind_ok]
    exact e2
theorem for_rng (t : Nat) (f : Gm → R Out) (P : Nat → Gm → Prop) (n : Nat) (h : ∀ i Γ, i < n → P i Γ → ∃ Γ', f (Γ.set t (.val (.int i))) = .ok (.nx Γ') ∧ P (i + 1) Γ') (Γ : Gm) (p : P 0 Γ) : ∃ Γ', forR (.nm t) f (rngD 0 n) Γ = .ok (.nx Γ') ∧ P n Γ' := by
  have : ∀ (m i : Nat) (Γ : Gm), i + m = n → P i Γ → ∃ Γ', forR (.nm t) f (rngD i m) Γ = .ok (.nx Γ') ∧ P n Γ' := by
    intro m
    induction m with
    | zero => intro i Γ e p; exact ⟨Γ, by rw [rngD, forR], by rw [← e]; exact p⟩
    | succ m ih =>
      intro i Γ e p
      obtain ⟨Γ1, e1, p1⟩ := h i Γ (by omega) p
      obtain ⟨Γ2, e2, p2⟩ := ih (i + 1) Γ1 (by omega) p1
      refine ⟨Γ2, ?_, p2⟩
      rw [rngD, forR, Tg.fn, noE_ok', R.bind_ok, e1, R.bind_ok]
      exact e2
  exact this n 0 Γ (by omega) p
theorem atI_get' {α : Type} {xs : List α} {k : Nat} (h : k < xs.length) : atI xs (k : Int) = some xs[k] := L2.atI_nat (List.getElem?_eq_getElem h)
theorem lc_of {α : Type} {fi : Gm → R (List D)} {i : Nat} {te : Gm → R D} {vs : List Nat} {Γ : Gm} {l : List α} {φ : α → D} (g : α → D) (e : fi Γ = .ok (l.map φ)) (h : ∀ a ∈ l, te ((wipeG Γ vs).set i (.val (φ a))) = .ok (g a)) : eLc fi (.nm i) (fun _ => .ok true) te vs Γ = .ok (.o (.lst (l.map g))) := by
  have : ∀ (r : List α), (∀ a ∈ r, te ((wipeG Γ vs).set i (.val (φ a))) = .ok (g a)) → lcGo (.nm i) (fun _ => .ok true) te (wipeG Γ vs) (r.map φ) = .ok (r.map g) := by
    intro r
    induction r with
    | nil => intro _; rfl
    | cons d r ih =>
      intro h
      rw [List.map_cons, lcGo, Tg.fn, noE_ok', R.bind_ok, noE_ok', R.bind_ok, if_pos rfl, h d (List.mem_cons_self ..), noE_ok', R.bind_ok, ih fun d m => h d (List.mem_cons_of_mem _ m), R.bind_ok]
      rfl
  unfold eLc
  rw [e, R.bind_ok, this l h, noE_ok', R.bind_ok]
def p_number : Gm → R Out := sSeq (sRet (vAndF [eCall fIsi (seqR [rVar 0, rd (eC (.ty "int"))]), eNot (rd (eCall fIsi (seqR [rVar 0, rd (eC (.ty "bool"))]))), e3 (dCmp .LtE) (dCmp .LtE) (rVar 1) (rVar 0) (rVar 2)]))
  (sNext)
def numberD : List Sl → R O := defF 0 p_number
def p_need : Gm → R Out := sSeq (sIf (tNotF (tTru (rd (eUser numberD (seqR [uVar 0, uVar 1, uVar 2]))))) (sSeq ((fun _ => .err "NoNumber"))
  (sNext)) (sNext))
  (sNext)
def needD : List Sl → R O := defF 0 p_need
def isNum : D → Int → Int → Bool
  | .int x, a, b => decide (a ≤ x) && decide (x ≤ b)
  | _, _, _ => false
def plainD : D → Bool
  | .set _ => false
  | .ref _ => false
  | .ty _ => false
  | _ => true
theorem isi_int_int (n : Int) : fIsi [.int n, .ty "int"] = some (.v (.bl true)) := rfl
theorem isi_int_bool (n : Int) : fIsi [.int n, .ty "bool"] = some (.v (.bl false)) := rfl
theorem isi_bl_int (n : Bool) : fIsi [.bl n, .ty "int"] = some (.v (.bl true)) := rfl
theorem isi_bl_bool (n : Bool) : fIsi [.bl n, .ty "bool"] = some (.v (.bl true)) := rfl
def isIB : D → Bool
  | .int _ => true
  | .bl _ => true
  | _ => false
theorem isi_int_of {d : D} (h : plainD d = true) : fIsi [d, .ty "int"] = some (.v (.bl (isIB d))) := by
  cases d <;> first | rfl | cases h
theorem number_v {d : D} (a b : Int) (hp : plainD d = true) : numberD [.val d, .val (.int a), .val (.int b)] = .ok (.v (.bl (isNum d a b))) := by
  unfold numberD p_number
  cases d with
  | int x =>
    by_cases h : a ≤ x
    · simp (implicitDefEqProofs := false) (disch := omega) only [↓r_seq, ↓r_next, ↓r_if, ↓r_eif, ↓r_set, ↓r_ret, ↓r_retV, ↓r_expr, ↓r_asg, ↓r_par, ↓r_app, ↓r_ext, ↓r_sto, ↓r_or1, ↓r_or, ↓r_and1, ↓r_and, ↓r_vor1, ↓r_vor, ↓r_vand1, ↓r_vand, ↓r_not, ↓r_tru, ↓r_isB, ↓r_eC, ↓r_rd, ↓r_vl, ↓r_rV, ↓r_eV, ↓r_uV, ↓r_uVl, ↓r_sq0, ↓r_sq, ↓r_e2, ↓r_e3, ↓r_call, ↓r_user, ↓r_enot, ↓r_eneg, ↓r_tup, ↓r_lst, ↓r_sl, ↓r_noP, ↓r_aP, ↓r_iOf, ↓r_iF, ↓r_def, ↓r_ref, r_seqNx, r_seqRt, r_seqBk, r_seqCt, r_ifT, r_ifF, r_setV, r_setOt, r_setOl, r_setOd, r_setOs, r_retK, r_retVv, r_retVo, r_asgK, r_tgN, r_tgT, r_tgL, r_tgs0, r_tgs, r_parK, r_ownL, r_ownLo, r_ownD, r_ownDo, r_appK, r_appJ, r_extK, r_extJ, r_stoK, r_stoI, r_stoJ, r_stoL, r_orT, r_orF, r_andT, r_andF, r_vorK, r_vorT, r_vorF, r_vandK, r_vandT, r_vandF, r_notK, r_truK, r_truB, r_truI, r_truL, r_truT, r_truN, r_isBK, r_rdV, r_rdO, r_dV, r_dO, r_valV, r_valL, r_valD, r_rVv, r_rVo, r_rVb, r_eVv, r_uVv, r_uVo, r_uVb, r_uVlK, r_sqK, r_consK, r_opK, r_opJ, r_chK, r_chJ, r_chT, r_chF, r_clK, r_ntK, r_ngK, r_tpK, r_lsK, r_slK, r_slJ, r_slI, r_slL, r_slT, r_aPK, r_sqL, r_sqT, r_sqS, r_rtR, r_rtN, r_refO, r_refE, r_wdK, r_bAdd, r_bSub, r_bMul, r_bDiv, r_bMod, r_bPow, r_cLt, r_cLe, r_cGt, r_cGe, r_cEq, r_cNe, r_ixL, r_ixT, r_of, r_lenL, r_lenT, r_lenS, Pd.R.bind_ok, Pd.R.bind_err, Pd.R.bind_stuck, noE_ok', mul_r, div_i, mod_i, add_i, sub_i, lt_i, le_i, gt_i, ge_i, eq_i, ne_i, pow18, List.cons_append, List.nil_append, List.getElem?_cons_zero, List.getElem?_cons_succ, List.replicate_succ, List.replicate_zero, List.set_cons_zero, List.set_cons_succ, List.length_cons, List.length_nil, if_true, if_false, Bool.not_true, Bool.not_false, Bool.false_eq_true, ↓reduceIte, Nat.reduceAdd, Nat.reduceLeDiff, Nat.reduceLT, Nat.zero_add, Option.map_some, Int.cast_ofNat_Int, Int.natCast_one, Int.natCast_zero, Int.reduceBEq, Int.reduceLT, Int.reduceLE, Int.reduceAdd, Int.reduceSub, Int.reduceMul, Int.reduceNeg, Int.reduceDiv, Int.reduceMod, decide_true, decide_false, isi_int_int, isi_int_bool, h, decide_true, isNum, Bool.true_and]
    · simp (implicitDefEqProofs := false) (disch := omega) only [↓r_seq, ↓r_next, ↓r_if, ↓r_eif, ↓r_set, ↓r_ret, ↓r_retV, ↓r_expr, ↓r_asg, ↓r_par, ↓r_app, ↓r_ext, ↓r_sto, ↓r_or1, ↓r_or, ↓r_and1, ↓r_and, ↓r_vor1, ↓r_vor, ↓r_vand1, ↓r_vand, ↓r_not, ↓r_tru, ↓r_isB, ↓r_eC, ↓r_rd, ↓r_vl, ↓r_rV, ↓r_eV, ↓r_uV, ↓r_uVl, ↓r_sq0, ↓r_sq, ↓r_e2, ↓r_e3, ↓r_call, ↓r_user, ↓r_enot, ↓r_eneg, ↓r_tup, ↓r_lst, ↓r_sl, ↓r_noP, ↓r_aP, ↓r_iOf, ↓r_iF, ↓r_def, ↓r_ref, r_seqNx, r_seqRt, r_seqBk, r_seqCt, r_ifT, r_ifF, r_setV, r_setOt, r_setOl, r_setOd, r_setOs, r_retK, r_retVv, r_retVo, r_asgK, r_tgN, r_tgT, r_tgL, r_tgs0, r_tgs, r_parK, r_ownL, r_ownLo, r_ownD, r_ownDo, r_appK, r_appJ, r_extK, r_extJ, r_stoK, r_stoI, r_stoJ, r_stoL, r_orT, r_orF, r_andT, r_andF, r_vorK, r_vorT, r_vorF, r_vandK, r_vandT, r_vandF, r_notK, r_truK, r_truB, r_truI, r_truL, r_truT, r_truN, r_isBK, r_rdV, r_rdO, r_dV, r_dO, r_valV, r_valL, r_valD, r_rVv, r_rVo, r_rVb, r_eVv, r_uVv, r_uVo, r_uVb, r_uVlK, r_sqK, r_consK, r_opK, r_opJ, r_chK, r_chJ, r_chT, r_chF, r_clK, r_ntK, r_ngK, r_tpK, r_lsK, r_slK, r_slJ, r_slI, r_slL, r_slT, r_aPK, r_sqL, r_sqT, r_sqS, r_rtR, r_rtN, r_refO, r_refE, r_wdK, r_bAdd, r_bSub, r_bMul, r_bDiv, r_bMod, r_bPow, r_cLt, r_cLe, r_cGt, r_cGe, r_cEq, r_cNe, r_ixL, r_ixT, r_of, r_lenL, r_lenT, r_lenS, Pd.R.bind_ok, Pd.R.bind_err, Pd.R.bind_stuck, noE_ok', mul_r, div_i, mod_i, add_i, sub_i, lt_i, le_i, gt_i, ge_i, eq_i, ne_i, pow18, List.cons_append, List.nil_append, List.getElem?_cons_zero, List.getElem?_cons_succ, List.replicate_succ, List.replicate_zero, List.set_cons_zero, List.set_cons_succ, List.length_cons, List.length_nil, if_true, if_false, Bool.not_true, Bool.not_false, Bool.false_eq_true, ↓reduceIte, Nat.reduceAdd, Nat.reduceLeDiff, Nat.reduceLT, Nat.zero_add, Option.map_some, Int.cast_ofNat_Int, Int.natCast_one, Int.natCast_zero, Int.reduceBEq, Int.reduceLT, Int.reduceLE, Int.reduceAdd, Int.reduceSub, Int.reduceMul, Int.reduceNeg, Int.reduceDiv, Int.reduceMod, decide_true, decide_false, isi_int_int, isi_int_bool, h, decide_false, isNum, Bool.false_and]
  | bl x => simp (implicitDefEqProofs := false) (disch := omega) only [↓r_seq, ↓r_next, ↓r_if, ↓r_eif, ↓r_set, ↓r_ret, ↓r_retV, ↓r_expr, ↓r_asg, ↓r_par, ↓r_app, ↓r_ext, ↓r_sto, ↓r_or1, ↓r_or, ↓r_and1, ↓r_and, ↓r_vor1, ↓r_vor, ↓r_vand1, ↓r_vand, ↓r_not, ↓r_tru, ↓r_isB, ↓r_eC, ↓r_rd, ↓r_vl, ↓r_rV, ↓r_eV, ↓r_uV, ↓r_uVl, ↓r_sq0, ↓r_sq, ↓r_e2, ↓r_e3, ↓r_call, ↓r_user, ↓r_enot, ↓r_eneg, ↓r_tup, ↓r_lst, ↓r_sl, ↓r_noP, ↓r_aP, ↓r_iOf, ↓r_iF, ↓r_def, ↓r_ref, r_seqNx, r_seqRt, r_seqBk, r_seqCt, r_ifT, r_ifF, r_setV, r_setOt, r_setOl, r_setOd, r_setOs, r_retK, r_retVv, r_retVo, r_asgK, r_tgN, r_tgT, r_tgL, r_tgs0, r_tgs, r_parK, r_ownL, r_ownLo, r_ownD, r_ownDo, r_appK, r_appJ, r_extK, r_extJ, r_stoK, r_stoI, r_stoJ, r_stoL, r_orT, r_orF, r_andT, r_andF, r_vorK, r_vorT, r_vorF, r_vandK, r_vandT, r_vandF, r_notK, r_truK, r_truB, r_truI, r_truL, r_truT, r_truN, r_isBK, r_rdV, r_rdO, r_dV, r_dO, r_valV, r_valL, r_valD, r_rVv, r_rVo, r_rVb, r_eVv, r_uVv, r_uVo, r_uVb, r_uVlK, r_sqK, r_consK, r_opK, r_opJ, r_chK, r_chJ, r_chT, r_chF, r_clK, r_ntK, r_ngK, r_tpK, r_lsK, r_slK, r_slJ, r_slI, r_slL, r_slT, r_aPK, r_sqL, r_sqT, r_sqS, r_rtR, r_rtN, r_refO, r_refE, r_wdK, r_bAdd, r_bSub, r_bMul, r_bDiv, r_bMod, r_bPow, r_cLt, r_cLe, r_cGt, r_cGe, r_cEq, r_cNe, r_ixL, r_ixT, r_of, r_lenL, r_lenT, r_lenS, Pd.R.bind_ok, Pd.R.bind_err, Pd.R.bind_stuck, noE_ok', mul_r, div_i, mod_i, add_i, sub_i, lt_i, le_i, gt_i, ge_i, eq_i, ne_i, pow18, List.cons_append, List.nil_append, List.getElem?_cons_zero, List.getElem?_cons_succ, List.replicate_succ, List.replicate_zero, List.set_cons_zero, List.set_cons_succ, List.length_cons, List.length_nil, if_true, if_false, Bool.not_true, Bool.not_false, Bool.false_eq_true, ↓reduceIte, Nat.reduceAdd, Nat.reduceLeDiff, Nat.reduceLT, Nat.zero_add, Option.map_some, Int.cast_ofNat_Int, Int.natCast_one, Int.natCast_zero, Int.reduceBEq, Int.reduceLT, Int.reduceLE, Int.reduceAdd, Int.reduceSub, Int.reduceMul, Int.reduceNeg, Int.reduceDiv, Int.reduceMod, decide_true, decide_false, isi_bl_int, isi_bl_bool, isNum]
  | set _ => cases hp
  | ref _ => cases hp
  | ty _ => cases hp
  | _ => simp (implicitDefEqProofs := false) (disch := omega) only [↓r_seq, ↓r_next, ↓r_if, ↓r_eif, ↓r_set, ↓r_ret, ↓r_retV, ↓r_expr, ↓r_asg, ↓r_par, ↓r_app, ↓r_ext, ↓r_sto, ↓r_or1, ↓r_or, ↓r_and1, ↓r_and, ↓r_vor1, ↓r_vor, ↓r_vand1, ↓r_vand, ↓r_not, ↓r_tru, ↓r_isB, ↓r_eC, ↓r_rd, ↓r_vl, ↓r_rV, ↓r_eV, ↓r_uV, ↓r_uVl, ↓r_sq0, ↓r_sq, ↓r_e2, ↓r_e3, ↓r_call, ↓r_user, ↓r_enot, ↓r_eneg, ↓r_tup, ↓r_lst, ↓r_sl, ↓r_noP, ↓r_aP, ↓r_iOf, ↓r_iF, ↓r_def, ↓r_ref, r_seqNx, r_seqRt, r_seqBk, r_seqCt, r_ifT, r_ifF, r_setV, r_setOt, r_setOl, r_setOd, r_setOs, r_retK, r_retVv, r_retVo, r_asgK, r_tgN, r_tgT, r_tgL, r_tgs0, r_tgs, r_parK, r_ownL, r_ownLo, r_ownD, r_ownDo, r_appK, r_appJ, r_extK, r_extJ, r_stoK, r_stoI, r_stoJ, r_stoL, r_orT, r_orF, r_andT, r_andF, r_vorK, r_vorT, r_vorF, r_vandK, r_vandT, r_vandF, r_notK, r_truK, r_truB, r_truI, r_truL, r_truT, r_truN, r_isBK, r_rdV, r_rdO, r_dV, r_dO, r_valV, r_valL, r_valD, r_rVv, r_rVo, r_rVb, r_eVv, r_uVv, r_uVo, r_uVb, r_uVlK, r_sqK, r_consK, r_opK, r_opJ, r_chK, r_chJ, r_chT, r_chF, r_clK, r_ntK, r_ngK, r_tpK, r_lsK, r_slK, r_slJ, r_slI, r_slL, r_slT, r_aPK, r_sqL, r_sqT, r_sqS, r_rtR, r_rtN, r_refO, r_refE, r_wdK, r_bAdd, r_bSub, r_bMul, r_bDiv, r_bMod, r_bPow, r_cLt, r_cLe, r_cGt, r_cGe, r_cEq, r_cNe, r_ixL, r_ixT, r_of, r_lenL, r_lenT, r_lenS, Pd.R.bind_ok, Pd.R.bind_err, Pd.R.bind_stuck, noE_ok', mul_r, div_i, mod_i, add_i, sub_i, lt_i, le_i, gt_i, ge_i, eq_i, ne_i, pow18, List.cons_append, List.nil_append, List.getElem?_cons_zero, List.getElem?_cons_succ, List.replicate_succ, List.replicate_zero, List.set_cons_zero, List.set_cons_succ, List.length_cons, List.length_nil, if_true, if_false, Bool.not_true, Bool.not_false, Bool.false_eq_true, ↓reduceIte, Nat.reduceAdd, Nat.reduceLeDiff, Nat.reduceLT, Nat.zero_add, Option.map_some, Int.cast_ofNat_Int, Int.natCast_one, Int.natCast_zero, Int.reduceBEq, Int.reduceLT, Int.reduceLE, Int.reduceAdd, Int.reduceSub, Int.reduceMul, Int.reduceNeg, Int.reduceDiv, Int.reduceMod, decide_true, decide_false, isi_int_of hp, isIB, isNum]
theorem need_v {d : D} (a b : Int) (hp : plainD d = true) : needD [.val d, .val (.int a), .val (.int b)] = if isNum d a b = true then .ok (.v .non) else .err "NoNumber" := by
  have h := number_v a b hp
  unfold needD p_need
  generalize isNum d a b = k at h ⊢
  cases k <;> simp (implicitDefEqProofs := false) (disch := omega) only [↓r_seq, ↓r_next, ↓r_if, ↓r_eif, ↓r_set, ↓r_ret, ↓r_retV, ↓r_expr, ↓r_asg, ↓r_par, ↓r_app, ↓r_ext, ↓r_sto, ↓r_or1, ↓r_or, ↓r_and1, ↓r_and, ↓r_vor1, ↓r_vor, ↓r_vand1, ↓r_vand, ↓r_not, ↓r_tru, ↓r_isB, ↓r_eC, ↓r_rd, ↓r_vl, ↓r_rV, ↓r_eV, ↓r_uV, ↓r_uVl, ↓r_sq0, ↓r_sq, ↓r_e2, ↓r_e3, ↓r_call, ↓r_user, ↓r_enot, ↓r_eneg, ↓r_tup, ↓r_lst, ↓r_sl, ↓r_noP, ↓r_aP, ↓r_iOf, ↓r_iF, ↓r_def, ↓r_ref, r_seqNx, r_seqRt, r_seqBk, r_seqCt, r_ifT, r_ifF, r_setV, r_setOt, r_setOl, r_setOd, r_setOs, r_retK, r_retVv, r_retVo, r_asgK, r_tgN, r_tgT, r_tgL, r_tgs0, r_tgs, r_parK, r_ownL, r_ownLo, r_ownD, r_ownDo, r_appK, r_appJ, r_extK, r_extJ, r_stoK, r_stoI, r_stoJ, r_stoL, r_orT, r_orF, r_andT, r_andF, r_vorK, r_vorT, r_vorF, r_vandK, r_vandT, r_vandF, r_notK, r_truK, r_truB, r_truI, r_truL, r_truT, r_truN, r_isBK, r_rdV, r_rdO, r_dV, r_dO, r_valV, r_valL, r_valD, r_rVv, r_rVo, r_rVb, r_eVv, r_uVv, r_uVo, r_uVb, r_uVlK, r_sqK, r_consK, r_opK, r_opJ, r_chK, r_chJ, r_chT, r_chF, r_clK, r_ntK, r_ngK, r_tpK, r_lsK, r_slK, r_slJ, r_slI, r_slL, r_slT, r_aPK, r_sqL, r_sqT, r_sqS, r_rtR, r_rtN, r_refO, r_refE, r_wdK, r_bAdd, r_bSub, r_bMul, r_bDiv, r_bMod, r_bPow, r_cLt, r_cLe, r_cGt, r_cGe, r_cEq, r_cNe, r_ixL, r_ixT, r_of, r_lenL, r_lenT, r_lenS, Pd.R.bind_ok, Pd.R.bind_err, Pd.R.bind_stuck, noE_ok', mul_r, div_i, mod_i, add_i, sub_i, lt_i, le_i, gt_i, ge_i, eq_i, ne_i, pow18, List.cons_append, List.nil_append, List.getElem?_cons_zero, List.getElem?_cons_succ, List.replicate_succ, List.replicate_zero, List.set_cons_zero, List.set_cons_succ, List.length_cons, List.length_nil, if_true, if_false, Bool.not_true, Bool.not_false, Bool.false_eq_true, ↓reduceIte, Nat.reduceAdd, Nat.reduceLeDiff, Nat.reduceLT, Nat.zero_add, Option.map_some, Int.cast_ofNat_Int, Int.natCast_one, Int.natCast_zero, Int.reduceBEq, Int.reduceLT, Int.reduceLE, Int.reduceAdd, Int.reduceSub, Int.reduceMul, Int.reduceNeg, Int.reduceDiv, Int.reduceMod, decide_true, decide_false, h, retO]
def p_cell : Gm → R Out := sSeq (sIf (isB (e2 (dCmp .Lt) (rVar 1) (rd (eCall fLen (seqR [rVar 0]))))) (sSeq (sRet (e2 dIx (rVar 0) (rVar 1)))
  (sNext)) (sNext))
  (sSeq (sRet (eC (.int 0)))
  (sNext))
def cellD : List Sl → R O := defF 0 p_cell
theorem cell_v (ns : List Int) (k : Nat) : ∃ c : Int, cellD [.val (.scr ns), .val (.int k)] = .ok (.v (.int c)) := by
  by_cases h : k < ns.length
  · refine ⟨ns[k], ?_⟩
    have h1 : ((k : Int) < (ns.length : Int)) := by omega
    unfold cellD p_cell
    simp (implicitDefEqProofs := false) (disch := omega) only [↓r_seq, ↓r_next, ↓r_if, ↓r_eif, ↓r_set, ↓r_ret, ↓r_retV, ↓r_expr, ↓r_asg, ↓r_par, ↓r_app, ↓r_ext, ↓r_sto, ↓r_or1, ↓r_or, ↓r_and1, ↓r_and, ↓r_vor1, ↓r_vor, ↓r_vand1, ↓r_vand, ↓r_not, ↓r_tru, ↓r_isB, ↓r_eC, ↓r_rd, ↓r_vl, ↓r_rV, ↓r_eV, ↓r_uV, ↓r_uVl, ↓r_sq0, ↓r_sq, ↓r_e2, ↓r_e3, ↓r_call, ↓r_user, ↓r_enot, ↓r_eneg, ↓r_tup, ↓r_lst, ↓r_sl, ↓r_noP, ↓r_aP, ↓r_iOf, ↓r_iF, ↓r_def, ↓r_ref, r_seqNx, r_seqRt, r_seqBk, r_seqCt, r_ifT, r_ifF, r_setV, r_setOt, r_setOl, r_setOd, r_setOs, r_retK, r_retVv, r_retVo, r_asgK, r_tgN, r_tgT, r_tgL, r_tgs0, r_tgs, r_parK, r_ownL, r_ownLo, r_ownD, r_ownDo, r_appK, r_appJ, r_extK, r_extJ, r_stoK, r_stoI, r_stoJ, r_stoL, r_orT, r_orF, r_andT, r_andF, r_vorK, r_vorT, r_vorF, r_vandK, r_vandT, r_vandF, r_notK, r_truK, r_truB, r_truI, r_truL, r_truT, r_truN, r_isBK, r_rdV, r_rdO, r_dV, r_dO, r_valV, r_valL, r_valD, r_rVv, r_rVo, r_rVb, r_eVv, r_uVv, r_uVo, r_uVb, r_uVlK, r_sqK, r_consK, r_opK, r_opJ, r_chK, r_chJ, r_chT, r_chF, r_clK, r_ntK, r_ngK, r_tpK, r_lsK, r_slK, r_slJ, r_slI, r_slL, r_slT, r_aPK, r_sqL, r_sqT, r_sqS, r_rtR, r_rtN, r_refO, r_refE, r_wdK, r_bAdd, r_bSub, r_bMul, r_bDiv, r_bMod, r_bPow, r_cLt, r_cLe, r_cGt, r_cGe, r_cEq, r_cNe, r_ixL, r_ixT, r_of, r_lenL, r_lenT, r_lenS, Pd.R.bind_ok, Pd.R.bind_err, Pd.R.bind_stuck, noE_ok', mul_r, div_i, mod_i, add_i, sub_i, lt_i, le_i, gt_i, ge_i, eq_i, ne_i, pow18, List.cons_append, List.nil_append, List.getElem?_cons_zero, List.getElem?_cons_succ, List.replicate_succ, List.replicate_zero, List.set_cons_zero, List.set_cons_succ, List.length_cons, List.length_nil, if_true, if_false, Bool.not_true, Bool.not_false, Bool.false_eq_true, ↓reduceIte, Nat.reduceAdd, Nat.reduceLeDiff, Nat.reduceLT, Nat.zero_add, Option.map_some, Int.cast_ofNat_Int, Int.natCast_one, Int.natCast_zero, Int.reduceBEq, Int.reduceLT, Int.reduceLE, Int.reduceAdd, Int.reduceSub, Int.reduceMul, Int.reduceNeg, Int.reduceDiv, Int.reduceMod, decide_true, decide_false, fLen, h1, decide_true, dIx, atI_get' h, Option.map_some]
  · refine ⟨0, ?_⟩
    have h1 : ¬ ((k : Int) < (ns.length : Int)) := by omega
    unfold cellD p_cell
    simp (implicitDefEqProofs := false) (disch := omega) only [↓r_seq, ↓r_next, ↓r_if, ↓r_eif, ↓r_set, ↓r_ret, ↓r_retV, ↓r_expr, ↓r_asg, ↓r_par, ↓r_app, ↓r_ext, ↓r_sto, ↓r_or1, ↓r_or, ↓r_and1, ↓r_and, ↓r_vor1, ↓r_vor, ↓r_vand1, ↓r_vand, ↓r_not, ↓r_tru, ↓r_isB, ↓r_eC, ↓r_rd, ↓r_vl, ↓r_rV, ↓r_eV, ↓r_uV, ↓r_uVl, ↓r_sq0, ↓r_sq, ↓r_e2, ↓r_e3, ↓r_call, ↓r_user, ↓r_enot, ↓r_eneg, ↓r_tup, ↓r_lst, ↓r_sl, ↓r_noP, ↓r_aP, ↓r_iOf, ↓r_iF, ↓r_def, ↓r_ref, r_seqNx, r_seqRt, r_seqBk, r_seqCt, r_ifT, r_ifF, r_setV, r_setOt, r_setOl, r_setOd, r_setOs, r_retK, r_retVv, r_retVo, r_asgK, r_tgN, r_tgT, r_tgL, r_tgs0, r_tgs, r_parK, r_ownL, r_ownLo, r_ownD, r_ownDo, r_appK, r_appJ, r_extK, r_extJ, r_stoK, r_stoI, r_stoJ, r_stoL, r_orT, r_orF, r_andT, r_andF, r_vorK, r_vorT, r_vorF, r_vandK, r_vandT, r_vandF, r_notK, r_truK, r_truB, r_truI, r_truL, r_truT, r_truN, r_isBK, r_rdV, r_rdO, r_dV, r_dO, r_valV, r_valL, r_valD, r_rVv, r_rVo, r_rVb, r_eVv, r_uVv, r_uVo, r_uVb, r_uVlK, r_sqK, r_consK, r_opK, r_opJ, r_chK, r_chJ, r_chT, r_chF, r_clK, r_ntK, r_ngK, r_tpK, r_lsK, r_slK, r_slJ, r_slI, r_slL, r_slT, r_aPK, r_sqL, r_sqT, r_sqS, r_rtR, r_rtN, r_refO, r_refE, r_wdK, r_bAdd, r_bSub, r_bMul, r_bDiv, r_bMod, r_bPow, r_cLt, r_cLe, r_cGt, r_cGe, r_cEq, r_cNe, r_ixL, r_ixT, r_of, r_lenL, r_lenT, r_lenS, Pd.R.bind_ok, Pd.R.bind_err, Pd.R.bind_stuck, noE_ok', mul_r, div_i, mod_i, add_i, sub_i, lt_i, le_i, gt_i, ge_i, eq_i, ne_i, pow18, List.cons_append, List.nil_append, List.getElem?_cons_zero, List.getElem?_cons_succ, List.replicate_succ, List.replicate_zero, List.set_cons_zero, List.set_cons_succ, List.length_cons, List.length_nil, if_true, if_false, Bool.not_true, Bool.not_false, Bool.false_eq_true, ↓reduceIte, Nat.reduceAdd, Nat.reduceLeDiff, Nat.reduceLT, Nat.zero_add, Option.map_some, Int.cast_ofNat_Int, Int.natCast_one, Int.natCast_zero, Int.reduceBEq, Int.reduceLT, Int.reduceLE, Int.reduceAdd, Int.reduceSub, Int.reduceMul, Int.reduceNeg, Int.reduceDiv, Int.reduceMod, decide_true, decide_false, fLen, h1, decide_false]

def p_draw : List Sl → R O := defF 3 (sSeq gHead gTail)
def p_odd : Gm → R Out := sSeq (sSet false 4 (eLst (seqR [vl (e2 (dBin .Sub) (rVar 2) (rd (eC (.int 1)))), vl (e2 (dBin .Add) (rVar 3) (rd (eC (.int 1)))), vl (eC (.bl true)), vl (eC (.bl false)), vl (eC .non), vl (eCall fStr (seqR [rVar 2])), vl (eTup (seqR [vl (eVar 2)])), vl (eLst (seqR [vl (eVar 2)])), vl ((fun _ => .ok (.o (.dct [])))), vl (eNeg (rd (e2 (dBin .Pow) (rd (eC (.int 10))) (rd (eC (.int 28)))))), vl (e2 (dBin .Pow) (rd (eC (.int 10))) (rd (eC (.int 29))))])))
  (sSeq (sRet (e2 dIx (rVar 4) (rd (eUser p_draw (seqR [uVar 0, uVar 1, uVal (vl (eC (.int 11)))])))))
  (sNext))
def oddD : List Sl → R O := defF 1 p_odd
def oddL (least most : Int) : List D := [.int (least - 1), .int (most + 1), .bl true, .bl false, .non, .str (toString least), .tup [.int least], .lst [.int least], .dct [], .int (-10000000000000000000000000000), .int 100000000000000000000000000000]
theorem pow28 : dPow (.int 10) (.int 28) = some (.v (.int 10000000000000000000000000000)) := rfl
theorem pow29 : dPow (.int 10) (.int 29) = some (.v (.int 100000000000000000000000000000)) := rfl
theorem odd_bad {least most : Int} (h1 : -1000 ≤ least) (h2 : most ≤ 1000) (h3 : least ≤ 1000) : ∀ d ∈ oddL least most, plainD d = true ∧ isNum d least most = false := by
  intro d hd
  unfold oddL at hd
  simp only [List.mem_cons, List.not_mem_nil, or_false] at hd
  rcases hd with rfl | rfl | rfl | rfl | rfl | rfl | rfl | rfl | rfl | rfl | rfl <;> refine ⟨rfl, ?_⟩ <;> first
    | rfl
    | (unfold isNum; simp; omega)
theorem odd_v (c : Int) (k : Nat) (least most : Int) (hk : k < 1000000) (hs : least.natAbs.log2 < 1920) : ∃ d ∈ oddL least most, oddD [.val (.int c), .val (.int k), .val (.int least), .val (.int most)] = .ok (.v d) := by
  obtain ⟨r, hr, e⟩ := draw_ok c k 11 hk (by omega) (by omega)
  have e' : p_draw [.val (.int c), .val (.int k), .val (.int 11)] = .ok (.v (.int r)) := e
  have hl : r < (oddL least most).length := hr
  refine ⟨(oddL least most)[r], List.getElem_mem _, ?_⟩
  unfold oddD p_odd
  refine def_rt ?_
  refine (sSeq_nx (Γ' := [.val (.int c), .val (.int k), .val (.int least), .val (.int most), .val (.lst (oddL least most))]) ?_).trans ?_
  · simp (implicitDefEqProofs := false) (disch := omega) only [↓r_seq, ↓r_next, ↓r_if, ↓r_eif, ↓r_set, ↓r_ret, ↓r_retV, ↓r_expr, ↓r_asg, ↓r_par, ↓r_app, ↓r_ext, ↓r_sto, ↓r_or1, ↓r_or, ↓r_and1, ↓r_and, ↓r_vor1, ↓r_vor, ↓r_vand1, ↓r_vand, ↓r_not, ↓r_tru, ↓r_isB, ↓r_eC, ↓r_rd, ↓r_vl, ↓r_rV, ↓r_eV, ↓r_uV, ↓r_uVl, ↓r_sq0, ↓r_sq, ↓r_e2, ↓r_e3, ↓r_call, ↓r_user, ↓r_enot, ↓r_eneg, ↓r_tup, ↓r_lst, ↓r_sl, ↓r_noP, ↓r_aP, ↓r_iOf, ↓r_iF, ↓r_def, ↓r_ref, r_seqNx, r_seqRt, r_seqBk, r_seqCt, r_ifT, r_ifF, r_setV, r_setOt, r_setOl, r_setOd, r_setOs, r_retK, r_retVv, r_retVo, r_asgK, r_tgN, r_tgT, r_tgL, r_tgs0, r_tgs, r_parK, r_ownL, r_ownLo, r_ownD, r_ownDo, r_appK, r_appJ, r_extK, r_extJ, r_stoK, r_stoI, r_stoJ, r_stoL, r_orT, r_orF, r_andT, r_andF, r_vorK, r_vorT, r_vorF, r_vandK, r_vandT, r_vandF, r_notK, r_truK, r_truB, r_truI, r_truL, r_truT, r_truN, r_isBK, r_rdV, r_rdO, r_dV, r_dO, r_valV, r_valL, r_valD, r_rVv, r_rVo, r_rVb, r_eVv, r_uVv, r_uVo, r_uVb, r_uVlK, r_sqK, r_consK, r_opK, r_opJ, r_chK, r_chJ, r_chT, r_chF, r_clK, r_ntK, r_ngK, r_tpK, r_lsK, r_slK, r_slJ, r_slI, r_slL, r_slT, r_aPK, r_sqL, r_sqT, r_sqS, r_rtR, r_rtN, r_refO, r_refE, r_wdK, r_bAdd, r_bSub, r_bMul, r_bDiv, r_bMod, r_bPow, r_cLt, r_cLe, r_cGt, r_cGe, r_cEq, r_cNe, r_ixL, r_ixT, r_of, r_lenL, r_lenT, r_lenS, Pd.R.bind_ok, Pd.R.bind_err, Pd.R.bind_stuck, noE_ok', mul_r, div_i, mod_i, add_i, sub_i, lt_i, le_i, gt_i, ge_i, eq_i, ne_i, pow18, List.cons_append, List.nil_append, List.getElem?_cons_zero, List.getElem?_cons_succ, List.replicate_succ, List.replicate_zero, List.set_cons_zero, List.set_cons_succ, List.length_cons, List.length_nil, if_true, if_false, Bool.not_true, Bool.not_false, Bool.false_eq_true, ↓reduceIte, Nat.reduceAdd, Nat.reduceLeDiff, Nat.reduceLT, Nat.zero_add, Option.map_some, Int.cast_ofNat_Int, Int.natCast_one, Int.natCast_zero, Int.reduceBEq, Int.reduceLT, Int.reduceLE, Int.reduceAdd, Int.reduceSub, Int.reduceMul, Int.reduceNeg, Int.reduceDiv, Int.reduceMod, decide_true, decide_false, fStr, hs, pow28, pow29, eNeg, line]
    rfl
  · simp (implicitDefEqProofs := false) (disch := omega) only [↓r_seq, ↓r_next, ↓r_if, ↓r_eif, ↓r_set, ↓r_ret, ↓r_retV, ↓r_expr, ↓r_asg, ↓r_par, ↓r_app, ↓r_ext, ↓r_sto, ↓r_or1, ↓r_or, ↓r_and1, ↓r_and, ↓r_vor1, ↓r_vor, ↓r_vand1, ↓r_vand, ↓r_not, ↓r_tru, ↓r_isB, ↓r_eC, ↓r_rd, ↓r_vl, ↓r_rV, ↓r_eV, ↓r_uV, ↓r_uVl, ↓r_sq0, ↓r_sq, ↓r_e2, ↓r_e3, ↓r_call, ↓r_user, ↓r_enot, ↓r_eneg, ↓r_tup, ↓r_lst, ↓r_sl, ↓r_noP, ↓r_aP, ↓r_iOf, ↓r_iF, ↓r_def, ↓r_ref, r_seqNx, r_seqRt, r_seqBk, r_seqCt, r_ifT, r_ifF, r_setV, r_setOt, r_setOl, r_setOd, r_setOs, r_retK, r_retVv, r_retVo, r_asgK, r_tgN, r_tgT, r_tgL, r_tgs0, r_tgs, r_parK, r_ownL, r_ownLo, r_ownD, r_ownDo, r_appK, r_appJ, r_extK, r_extJ, r_stoK, r_stoI, r_stoJ, r_stoL, r_orT, r_orF, r_andT, r_andF, r_vorK, r_vorT, r_vorF, r_vandK, r_vandT, r_vandF, r_notK, r_truK, r_truB, r_truI, r_truL, r_truT, r_truN, r_isBK, r_rdV, r_rdO, r_dV, r_dO, r_valV, r_valL, r_valD, r_rVv, r_rVo, r_rVb, r_eVv, r_uVv, r_uVo, r_uVb, r_uVlK, r_sqK, r_consK, r_opK, r_opJ, r_chK, r_chJ, r_chT, r_chF, r_clK, r_ntK, r_ngK, r_tpK, r_lsK, r_slK, r_slJ, r_slI, r_slL, r_slT, r_aPK, r_sqL, r_sqT, r_sqS, r_rtR, r_rtN, r_refO, r_refE, r_wdK, r_bAdd, r_bSub, r_bMul, r_bDiv, r_bMod, r_bPow, r_cLt, r_cLe, r_cGt, r_cGe, r_cEq, r_cNe, r_ixL, r_ixT, r_of, r_lenL, r_lenT, r_lenS, Pd.R.bind_ok, Pd.R.bind_err, Pd.R.bind_stuck, noE_ok', mul_r, div_i, mod_i, add_i, sub_i, lt_i, le_i, gt_i, ge_i, eq_i, ne_i, pow18, List.cons_append, List.nil_append, List.getElem?_cons_zero, List.getElem?_cons_succ, List.replicate_succ, List.replicate_zero, List.set_cons_zero, List.set_cons_succ, List.length_cons, List.length_nil, if_true, if_false, Bool.not_true, Bool.not_false, Bool.false_eq_true, ↓reduceIte, Nat.reduceAdd, Nat.reduceLeDiff, Nat.reduceLT, Nat.zero_add, Option.map_some, Int.cast_ofNat_Int, Int.natCast_one, Int.natCast_zero, Int.reduceBEq, Int.reduceLT, Int.reduceLE, Int.reduceAdd, Int.reduceSub, Int.reduceMul, Int.reduceNeg, Int.reduceDiv, Int.reduceMod, decide_true, decide_false, e', dIx, atI_get' hl, Option.map_some]

def Go (r : R Out) (P : Gm → Prop) : Prop := ∃ Γ', r = .ok (.nx Γ') ∧ P Γ'
theorem go_eq {r : R Out} {P : Gm → Prop} {Γ' : Gm} (e : r = .ok (.nx Γ')) (p : P Γ') : Go r P := ⟨Γ', e, p⟩
theorem go_next {P : Gm → Prop} {Γ : Gm} (p : P Γ) : Go (sNext Γ) P := ⟨Γ, rfl, p⟩
theorem go_seq {f g : Gm → R Out} {P : Gm → Prop} {Γ Γ1 : Gm} (e : f Γ = .ok (.nx Γ1)) (h : Go (g Γ1) P) : Go (sSeq f g Γ) P := by
  rw [show sSeq f g Γ = g Γ1 from sSeq_nx e]
  exact h
theorem go_seq' {f g : Gm → R Out} {P : Gm → Prop} (Q : Gm → Prop) {Γ : Gm} (h1 : Go (f Γ) Q) (h : ∀ Γ1, Q Γ1 → Go (g Γ1) P) : Go (sSeq f g Γ) P := by
  obtain ⟨Γ1, e, q⟩ := h1
  exact go_seq e (h Γ1 q)
theorem go_for {fi : Gm → R (List D)} {t : Nat} {b : Gm → R Out} {P : Gm → Prop} {Γ : Gm} {ds : List D} (e : fi Γ = .ok ds) (p : P Γ) (h : ∀ Γ d, d ∈ ds → P Γ → Go (b (Γ.set t (.val d))) P) : Go (sFor fi (.nm t) b Γ) P := by
  rw [show sFor fi (.nm t) b Γ = forR (.nm t) b ds Γ from sFor_eq e]
  exact for_mem t b P ds h Γ p
theorem go_rng {fi : Gm → R (List D)} {t n : Nat} {b : Gm → R Out} (P : Nat → Gm → Prop) {Γ : Gm} (e : fi Γ = .ok (rngD 0 n)) (p : P 0 Γ) (h : ∀ i Γ, i < n → P i Γ → Go (b (Γ.set t (.val (.int i)))) (P (i + 1))) : Go (sFor fi (.nm t) b Γ) (P n) := by
  rw [show sFor fi (.nm t) b Γ = forR (.nm t) b (rngD 0 n) Γ from sFor_eq e]
  exact for_rng t b P n h Γ p
theorem go_st {fi : Gm → R (List D)} {t : Nat} {b : Gm → R Out} (P : List D → Gm → Prop) {Γ : Gm} {ds : List D} (e : fi Γ = .ok ds) (p : P [] Γ) (h : ∀ (a c : List D) (d : D) (Γ : Gm), ds = a ++ d :: c → P a Γ → Go (b (Γ.set t (.val d))) (P (a ++ [d]))) : Go (sFor fi (.nm t) b Γ) (P ds) := by
  rw [show sFor fi (.nm t) b Γ = forR (.nm t) b ds Γ from sFor_eq e]
  exact for_st t b P ds [] (fun a c d Γ e => h a c d Γ e) Γ p
theorem if_no {c : Gm → R Bool} {f : Gm → R Out} {Γ : Gm} (e : c Γ = .ok false) : sIf c f sNext Γ = .ok (.nx Γ) := sIf_f e
theorem seq_nx {f g : Gm → R Out} {X : R Out} {Γ Γ1 : Gm} (e : f Γ = .ok (.nx Γ1)) (h : g Γ1 = X) : sSeq f g Γ = X := (sSeq_nx e).trans h
theorem seq_go {f g : Gm → R Out} {X : R Out} {Γ : Gm} (Q : Gm → Prop) (h1 : Go (f Γ) Q) (h : ∀ Γ1, Q Γ1 → g Γ1 = X) : sSeq f g Γ = X := by
  obtain ⟨Γ1, e, q⟩ := h1
  exact seq_nx e (h Γ1 q)
theorem go_mono {r : R Out} {P Q : Gm → Prop} (h : Go r P) (i : ∀ Γ, P Γ → Q Γ) : Go r Q := let ⟨Γ, e, p⟩ := h; ⟨Γ, e, i Γ p⟩
theorem rng_if {n : Nat} (h : n ≤ 1000000) : (if smallI (n : Int) = true ∧ ((n : Int)).toNat ≤ line then R.ok (rngD 0 ((n : Int)).toNat) else .stuck) = .ok (nD (List.range n)) := by
  have h1 : smallI (n : Int) = true := decide_eq_true ⟨by omega, by omega⟩
  have h2 : ((n : Int)).toNat ≤ line := by unfold line; omega
  rw [if_pos ⟨h1, h2⟩, Int.toNat_natCast, rngD_0]
theorem rng1 {n : Nat} (h : n ≤ 1000000) : rngF1 [.int n] = .ok (nD (List.range n)) := by
  unfold rngF1
  dsimp only
  exact rng_if h
theorem ne_str {a b : Str} (ha : shp (.str a) = true) (hb : shp (.str b) = true) : dNe (.str a) (.str b) = some (.v (.bl (!(a == b)))) := by
  unfold dNe eqD
  rw [if_pos ⟨ha, hb⟩, pyD, pyD]
  simp [PyData.eqv, bO]
theorem eq_nn : dNe (.str "number") (.str "number") = some (.v (.bl false)) := ne_str (by decide +kernel) (by decide +kernel)
end Pd

set_option Elab.async false
set_option linter.all false
set_option maxRecDepth 100000
set_option maxHeartbeats 1000000
namespace Pd
open PySem PySem.Spec L2

mutual
/-- data without truths, dicts, sets, references: there equal is the same -/
def purD : D → Bool
  | .non => true
  | .int _ => true
  | .str x => PyData.strOk x
  | .tup ds => purDs ds
  | .lst ds => purDs ds
  | _ => false
def purDs : List D → Bool
  | [] => true
  | d :: ds => purD d && purDs ds
end
mutual
/-- data without dicts, sets, references -/
def layD : D → Bool
  | .non => true
  | .bl _ => true
  | .int _ => true
  | .str x => PyData.strOk x
  | .tup ds => layDs ds
  | .lst ds => layDs ds
  | _ => false
def layDs : List D → Bool
  | [] => true
  | d :: ds => layD d && layDs ds
end
mutual
def depD : D → Nat
  | .tup ds => depDs ds + 1
  | .lst ds => depDs ds + 1
  | _ => 0
def depDs : List D → Nat
  | [] => 0
  | d :: ds => max (depD d) (depDs ds)
end
mutual
theorem lay_can : ∀ d : D, layD d = true → (pyD d).canLay0 = true
  | .non, _ => by rw [pyD, PyData.canLay0]
  | .bl _, _ => by rw [pyD, PyData.canLay0]
  | .int _, _ => by rw [pyD, PyData.canLay0]
  | .str x, h => by rw [layD] at h; rw [pyD, PyData.canLay0]; exact h
  | .tup ds, h => by rw [layD] at h; rw [pyD, PyData.canLay0]; exact lay_cans ds h
  | .lst ds, h => by rw [layD] at h; rw [pyD, PyData.canLay0]; exact lay_cans ds h
theorem lay_cans : ∀ ds : List D, layDs ds = true → PyData.canLayAll0 (pyDs ds) = true
  | [], _ => by rw [pyDs, PyData.canLayAll0]
  | d :: ds, h => by
    rw [layDs, Bool.and_eq_true] at h
    rw [pyDs, PyData.canLayAll0, lay_can d h.1, lay_cans ds h.2]
    rfl
end
mutual
theorem dep_py : ∀ d : D, layD d = true → (pyD d).depth = depD d
  | .non, _ => by rw [pyD, PyData.depth, depD] <;> simp
  | .bl _, _ => by rw [pyD, PyData.depth, depD] <;> simp
  | .int _, _ => by rw [pyD, PyData.depth, depD] <;> simp
  | .str x, h => by rw [pyD, PyData.depth, depD] <;> simp
  | .tup ds, h => by rw [layD] at h; rw [pyD, PyData.depth, depD, dep_pys ds h]
  | .lst ds, h => by rw [layD] at h; rw [pyD, PyData.depth, depD, dep_pys ds h]
theorem dep_pys : ∀ ds : List D, layDs ds = true → PyData.depthAll (pyDs ds) = depDs ds
  | [], _ => by rw [pyDs, PyData.depthAll, depDs]
  | d :: ds, h => by
    rw [layDs, Bool.and_eq_true] at h
    rw [pyDs, PyData.depthAll, dep_py d h.1, dep_pys ds h.2, depDs]
end
theorem shp_of {d : D} (h : layD d = true) (h2 : depD d ≤ 64) : shp d = true := by
  unfold shp SeqAt.shaped
  rw [lay_can d h, dep_py d h]
  simp [h2]
mutual
theorem pur_lay : ∀ d : D, purD d = true → layD d = true
  | .non, _ => by rw [layD]
  | .int _, _ => by rw [layD]
  | .str x, h => by rw [purD] at h; rw [layD]; exact h
  | .tup ds, h => by rw [purD] at h; rw [layD]; exact pur_lays ds h
  | .lst ds, h => by rw [purD] at h; rw [layD]; exact pur_lays ds h
theorem pur_lays : ∀ ds : List D, purDs ds = true → layDs ds = true
  | [], _ => by rw [layDs]
  | d :: ds, h => by
    rw [purDs, Bool.and_eq_true] at h
    rw [layDs, pur_lay d h.1, pur_lays ds h.2]
    rfl
end
mutual
theorem eqv_pur : ∀ a b : D, purD a = true → purD b = true → (PyData.eqv (pyD a) (pyD b) = true ↔ a = b)
  | .non, b, _, hb => by
    cases b <;> first | (simp [purD] at hb; done) | simp [pyD, PyData.eqv]
  | .int i, b, _, hb => by
    cases b <;> first | (simp [purD] at hb; done) | simp [pyD, PyData.eqv]
  | .str x, b, _, hb => by
    cases b <;> first | (simp [purD] at hb; done) | simp [pyD, PyData.eqv]
  | .tup xs, b, ha, hb => by
    cases b with
    | tup ys =>
      rw [purD] at ha hb
      rw [pyD, pyD, PyData.eqv, eqv_purs xs ys ha hb]
      exact ⟨fun h => by rw [h], fun h => D.tup.inj h⟩
    | _ => first | (simp [purD] at hb; done) | simp [pyD, PyData.eqv]
  | .lst xs, b, ha, hb => by
    cases b with
    | lst ys =>
      rw [purD] at ha hb
      rw [pyD, pyD, PyData.eqv, eqv_purs xs ys ha hb]
      exact ⟨fun h => by rw [h], fun h => D.lst.inj h⟩
    | _ => first | (simp [purD] at hb; done) | simp [pyD, PyData.eqv]
theorem eqv_purs : ∀ as bs : List D, purDs as = true → purDs bs = true → (PyData.eqvAll (pyDs as) (pyDs bs) = true ↔ as = bs)
  | [], [], _, _ => by simp [pyDs, PyData.eqvAll]
  | [], b :: bs, _, _ => by simp [pyDs, PyData.eqvAll]
  | a :: as, [], _, _ => by simp [pyDs, PyData.eqvAll]
  | a :: as, b :: bs, ha, hb => by
    rw [purDs, Bool.and_eq_true] at ha hb
    rw [pyDs, pyDs, PyData.eqvAll, Bool.and_eq_true, eqv_pur a b ha.1 hb.1, eqv_purs as bs ha.2 hb.2]
    exact ⟨fun h => by rw [h.1, h.2], fun h => ⟨(List.cons.inj h).1, (List.cons.inj h).2⟩⟩
end
theorem eqD_pur {a b : D} (ha : purD a = true) (hb : purD b = true) (da : depD a ≤ 64) (db : depD b ≤ 64) (k : Bool) (h : k = true ↔ a = b) : eqD a b = some k := by
  unfold eqD
  rw [if_pos ⟨shp_of (pur_lay a ha) da, shp_of (pur_lay b hb) db⟩]
  congr 1
  rw [Bool.eq_iff_iff, eqv_pur a b ha hb, h]
theorem eq_same {a : D} (ha : purD a = true) (da : depD a ≤ 64) : dEq a a = some (.v (.bl true)) := by
  unfold dEq
  rw [eqD_pur ha ha da da true ⟨fun _ => rfl, fun _ => rfl⟩]
  rfl
theorem ne_same {a : D} (ha : purD a = true) (da : depD a ≤ 64) : dNe a a = some (.v (.bl false)) := by
  unfold dNe
  rw [eqD_pur ha ha da da true ⟨fun _ => rfl, fun _ => rfl⟩]
  rfl
theorem ne_diff {a b : D} (ha : purD a = true) (hb : purD b = true) (da : depD a ≤ 64) (db : depD b ≤ 64) (h : a ≠ b) : dNe a b = some (.v (.bl true)) := by
  unfold dNe
  rw [eqD_pur ha hb da db false ⟨fun e => absurd e Bool.false_ne_true, fun e => absurd e h⟩]
  rfl
theorem pur_iD : ∀ l : List Int, purDs (iD l) = true
  | [] => rfl
  | n :: l => by
    show (purD (.int n) && purDs (iD l)) = true
    rw [pur_iD l, purD]
    rfl
theorem dep_iD : ∀ l : List Int, depDs (iD l) = 0
  | [] => rfl
  | n :: l => by
    show max (depD (.int n)) (depDs (iD l)) = 0
    rw [dep_iD l, depD]
    · rfl
    all_goals simp
theorem nD_iD (l : List Nat) : nD l = iD (l.map fun n : Nat => (n : Int)) := by
  unfold nD iD
  rw [List.map_map]
  rfl
theorem pur_nD (l : List Nat) : purDs (nD l) = true := by rw [nD_iD]; exact pur_iD _
theorem dep_nD (l : List Nat) : depDs (nD l) = 0 := by rw [nD_iD]; exact dep_iD _
theorem iD_inj {a b : List Int} (h : iD a = iD b) : a = b := by
  have := congrArg intsOf h
  rw [intsOf_iD, intsOf_iD] at this
  exact Option.some.inj this
theorem nD_inj {a b : List Nat} (h : nD a = nD b) : a = b := by
  rw [nD_iD, nD_iD] at h
  have := iD_inj h
  exact List.map_inj_right (fun _ _ e => Int.ofNat.inj e) |>.mp this
theorem len_nD (l : List Nat) : (nD l).length = l.length := List.length_map ..
end Pd
namespace Pd
open PySem PySem.Spec PyProof.Rows L2 HT
section
variable {prog : Program} {w : World} {A : Around} {E : Value → Shared → Prop} {s : Shared}
end
section
variable {X : Cx} {T : List (Addr × Str)} {E : Ex T} {e : PySem.Expr} {pos p2 p3 : Pos}
def tBack (K : PySem.W.Frag) (te : TE) : TE := fun σ H Q => te σ H fun x H1 => (∃ a xs, x = .ref a ∧ SqL K H1 a xs ∧ ∀ p, H1 p = none → Q (.ref p) (upd H1 p (.lst xs.reverse))) ∨ (∃ a xs, x = .ref a ∧ SqT K H1 a xs ∧ ∀ p, H1 p = none → Q (.ref p) (upd H1 p (.tup xs.reverse)))
def eBack (f : Gm → R D) : Gm → R O := fun Γ => (f Γ).bind fun d => match d with
  | .lst ds => .ok (.o (.lst ds.reverse))
  | .tup ds => .ok (.v (.tup ds.reverse))
  | _ => .stuck
end
structure DefA (G : Gl5) (k : Nat) (f : Addr) (n : Nat) (φ : List Sl → R O) : Prop where
  ex : ∃ (fd : FuncData) (ps : List Str), FnOk G.P G.w G.K G.mg G.base (L2.CX G.P G.w) k f fd ps (spOf G.K G.mg n φ) ∧ PySem.W.keepIn G.K (.ref f) = true ∧ Binds G.K fd ps []
def FunT (G : Gl5) (k : Nat) (S : List (Addr × (List Sl → R O))) (n : Nat) : Prop := ∀ p ∈ S, DefA G k p.1 n p.2
theorem funT_nil {G : Gl5} {k n : Nat} : FunT G k [] n := fun _ h => absurd h List.not_mem_nil
theorem funT_cons {G : Gl5} {m k n : Nat} {x : Str} {f : Addr} {φ : List Sl → R O} {S : List (Addr × (List Sl → R O))} (D : DefG G m x n φ) (hm : G.mg x = some (.ref f)) (r : FunT G k S n) (h : m ≤ k := by decide) : FunT G k ((f, φ) :: S) n := fun p hp => by
  rcases List.mem_cons.mp hp with rfl | hp
  · obtain ⟨f', fd, ps, F, q, kp, b⟩ := D.ex
    have e := q.symm.trans hm
    cases e
    exact ⟨fd, ps, F.mono h, kp, b⟩
  · exact r p hp
theorem cst_ref {G : Gl5} {x : Str} {f : Addr} (h : G.mg x = some (.ref f)) : CstG G x (.ref f) := ⟨.ref f, .ref f, h, rfl, fun _ => .ref f⟩
def findV (S : List (Addr × (List Sl → R O))) (f : Addr) : Option (List Sl → R O) := (S.find? fun p => p.1 == f).map (·.2)
theorem findV_mem {S : List (Addr × (List Sl → R O))} {f : Addr} {φ : List Sl → R O} (h : findV S f = some φ) : (f, φ) ∈ S := by
  unfold findV at h
  cases e : S.find? (fun p => p.1 == f) with
  | none => rw [e] at h; cases h
  | some p =>
    rw [e] at h
    have h1 := List.mem_of_find?_eq_some e
    have h2 := List.find?_some e
    have h2 : p.1 = f := eq_of_beq h2
    have h3 : p.2 = φ := Option.some.inj h
    rw [← h2, ← h3]
    exact h1
def callV (S : List (Addr × (List Sl → R O))) (fa : Gm → R (List Sl)) (Γ : Gm) : Option Sl → R O
  | some (.val (.ref f)) => match findV S f with
    | some φ => (fa Γ).bind φ
    | none => .stuck
  | _ => .stuck
def eCallV (S : List (Addr × (List Sl → R O))) (i : Nat) (fa : Gm → R (List Sl)) : Gm → R O := fun Γ => callV S fa Γ Γ[i]?
theorem c_var {X : Cx} {T : List (Addr × Str)} {E : Ex T} {G : Gl5} {k : Nat} {N : List Str} {sc : Scope} {fnb : Str → Bool} {e : PySem.Expr} {es : List PySem.Expr} {pos p : Pos} {i : Nat} {x : Str}
    (C : Cok X E G k N sc fnb) {m n : Nat} {S : List (Addr × (List Sl → R O))} {fs : List (Gm → R Sl)} (A : FunT G m S n) (h : varB N sc i x = true) (ha : SUs X E (e :: es) fs) (hm : m ≤ k := by decide) (hn : fs.length = n := by rfl) : SE X E (.Call (.Name x p) (e :: es) [] pos) (eCallV S i (seqR fs)) := by
  have eg := C.g
  subst eg
  obtain ⟨hN, hv, hdb, hcd⟩ := C.var h
  have pl := ha.plain
  have pl' : isStar e = false ∧ es.all (fun e => !isStar e) = true := by simpa using pl
  obtain ⟨t, pa, ga⟩ := sus_of ha
  have hx : Passes (L2.CX X.prog X.w) X E := passes_call C.tk fun _ _ _ _ h => h
  refine ⟨fun σ H Q => ∃ f φ, σ[i]? = some (some (.ref f)) ∧ findV S f = some φ ∧ tCall (spOf X.K X.mg n φ) [] E t σ H Q, ⟨fun pins s σ H Q I w => ?_⟩, fun Γ F0 H0 F H σ Q I q => ?_⟩
  · obtain ⟨f, φ, hs, hf, ht⟩ := w
    obtain ⟨fd, ps, Fn, kp, b⟩ := (A _ (findV_mem hf)).ex
    exact (pe_callL (i := i) (f := f) (sp := spOf X.K X.mg n φ) (dvs := []) (E := E) (Fn.mono hm) C.room hN hv kp b .nil hx pa hdb hcd (star_cons pl'.1) (star_plain pl'.2)).run pins s σ H Q I ⟨hs, ht⟩
  · unfold eCallV at q
    cases eΓ : Γ[i]? with
    | none => rw [eΓ] at q; exact q.elim
    | some sl =>
      rw [eΓ] at q
      cases sl with
      | val d =>
        cases d with
        | ref f =>
          obtain ⟨v, ev, r⟩ := I.slot i _ eΓ
          cases r
          rw [callV] at q
          cases ef : findV S f with
          | none => rw [ef] at q; exact q.elim
          | some φ =>
            rw [ef] at q
            exact ⟨f, φ, getD_some ev, ef, ge_user ga (fun Γ ss e => (seqR_len e).trans hn) Γ F0 H0 F H σ Q I q⟩
        | _ => exact q.elim
      | _ => exact q.elim
theorem r_callV {S : List (Addr × (List Sl → R O))} {i : Nat} {fa : Gm → R (List Sl)} {Γ : Gm} : eCallV S i fa Γ = callV S fa Γ Γ[i]? := rfl
end Pd

set_option Elab.async false
set_option linter.all false
set_option maxRecDepth 100000
set_option maxHeartbeats 1000000
namespace Pr
open PySem PySem.Spec L2 Pd
def f_is_number : Gm → R Out := sSeq (sRet (vAndF [eCall fIsi (seqR [rVar 0, rd (eC (.ty "int"))]), eNot (rd (eCall fIsi (seqR [rVar 0, rd (eC (.ty "bool"))]))), e3 (dCmp .LtE) (dCmp .LtE) (rVar 1) (rVar 0) (rVar 2)]))
  (sNext)
def d_is_number : List Sl → R O := defF 0 f_is_number
def f_rises : Gm → R Out := sSeq (sRet (eCall fAll (seqR [rd (eLc (iOf rngF1 (seqR [rd (e2 (dBin .Sub) (rd (eCall fLen (seqR [rVar 0]))) (rd (eC (.int 1))))])) (.nm 1) ((fun _ => .ok true)) (vl (e2 (dCmp .Lt) (rd (e2 dIx (rVar 0) (rVar 1))) (rd (e2 dIx (rVar 0) (rd (e2 (dBin .Add) (rVar 1) (rd (eC (.int 1))))))))) ([1]))])))
  (sNext)
def d_rises : List Sl → R O := defF 1 f_rises
def f_is_leapring : Gm → R Out := sSeq (sIf (tOrF [tNotF (tTru (rd (eCall fIsi (seqR [rVar 0, rd (eC (.ty "tuple"))])))), isB (e2 (dCmp .NotEq) (rd (eCall fLen (seqR [rVar 0]))) (rd (eC (.int 2)))), tNotF (tTru (rd (eUser d_is_number (seqR [uVal (vl (e2 dIx (rVar 0) (rd (eC (.int 0))))), uVal (vl (eC (.int 3))), uVal (vl (eC (.int 100)))]))))]) (sSeq (sRet (eC (.bl false)))
  (sNext)) (sNext))
  (sSeq (sIf (tOrF [tNotF (tTru (rd (eCall fIsi (seqR [rd (e2 dIx (rVar 0) (rd (eC (.int 1)))), rd (eC (.ty "tuple"))])))), tNotF (isB (e3 (dCmp .LtE) (dCmp .LtE) (rd (eC (.int 1))) (rd (eCall fLen (seqR [rd (e2 dIx (rVar 0) (rd (eC (.int 1))))]))) (rd (eC (.int 4)))))]) (sSeq (sRet (eC (.bl false)))
  (sNext)) (sNext))
  (sSeq (sRet (vAndF [eCall fAll (seqR [rd (eLc (iF (rd (e2 dIx (rVar 0) (rd (eC (.int 1)))))) (.nm 1) ((fun _ => .ok true)) (vl (eUser d_is_number (seqR [uVar 1, uVal (vl (eC (.int 1))), uVal (vl (e2 (dBin .FloorDiv) (rd (e2 dIx (rVar 0) (rd (eC (.int 0))))) (rd (eC (.int 2)))))]))) ([1]))]), eUser d_rises (seqR [uVal (vl (e2 dIx (rVar 0) (rd (eC (.int 1)))))])]))
  (sNext)))
def d_is_leapring : List Sl → R O := defF 1 f_is_leapring
def f_need_ring : Gm → R Out := sSeq (sIf (tNotF (tTru (rd (eUser d_is_leapring (seqR [uVar 0]))))) (sSeq ((fun _ => .err "NoRing"))
  (sNext)) (sNext))
  (sNext)
def d_need_ring : List Sl → R O := defF 0 f_need_ring
def f_need_place : Gm → R Out := sSeq (sIf (tNotF (tTru (rd (eUser d_is_number (seqR [uVar 1, uVal (vl (eC (.int 0))), uVal (vl (e2 (dBin .Sub) (rd (e2 dIx (rVar 0) (rd (eC (.int 0))))) (rd (eC (.int 1)))))]))))) (sSeq ((fun _ => .err "NoPlace"))
  (sNext)) (sNext))
  (sNext)
def d_need_place : List Sl → R O := defF 0 f_need_place
def f_beside : Gm → R Out := sSeq (sAsg (.tp [.nm 3, .nm 4]) (vl (eVar 0)))
  (sSeq (sSet false 2 (e2 (dBin .Add) (rd (eLc (iF (rVar 4)) (.nm 5) ((fun _ => .ok true)) (vl (e2 (dBin .Mod) (rd (e2 (dBin .Add) (rVar 1) (rVar 5))) (rVar 3))) ([5]))) (rd (eLc (iF (rVar 4)) (.nm 5) ((fun _ => .ok true)) (vl (e2 (dBin .Mod) (rd (e2 (dBin .Sub) (rVar 1) (rVar 5))) (rVar 3))) ([5])))))
  (sSeq (sRet (eCall fTuple (seqR [rd (eSortSet (rVar 2))])))
  (sNext)))
def d_beside : List Sl → R O := defF 4 f_beside
def f_steps_of : Gm → R Out := sSeq (sSet true 1 (e2 (dBin .Mult) (rd (eLst (seqR [vl (eC .non)]))) (rd (e2 dIx (rVar 0) (rd (eC (.int 0)))))))
  (sSeq (sSto 1 (vl (eC (.int 0))) (rd (eC (.int 0))))
  (sSeq (sSet true 2 (eLst (seqR [vl (eC (.int 0))])))
  (sSeq (sSet false 3 (eC (.int 0)))
  (sSeq (whR (isB (e2 (dCmp .Lt) (rVar 3) (rd (eCall fLen (seqR [rVar 2]))))) (sSeq (sFor (iF (vl (eUser d_beside (seqR [uVar 0, uVal (vl (e2 dIx (rVar 2) (rVar 3)))])))) (.nm 4) (sSeq (sIf (isB (e2 (dCmp .Is) (rd (e2 dIx (rVar 1) (rVar 4))) (rd (eC .non)))) (sSeq (sSto 1 (vl (e2 (dBin .Add) (rd (e2 dIx (rVar 1) (rd (e2 dIx (rVar 2) (rVar 3))))) (rd (eC (.int 1))))) (rVar 4))
  (sSeq (sApp 2 (vl (eVar 4)))
  (sNext))) (sNext))
  (sNext)))
  (sSeq (sSet false 3 (e2 (dBin .Add) (rVar 3) (rd (eC (.int 1)))))
  (sNext))) whN)
  (sSeq (sRetV 1)
  (sNext))))))
def d_steps_of : List Sl → R O := defF 4 f_steps_of
def f_far : Gm → R Out := sSeq (sExpr (rd (eUser d_need_ring (seqR [uVar 0]))))
  (sSeq (sExpr (rd (eUser d_need_place (seqR [uVar 0, uVar 1]))))
  (sSeq (sExpr (rd (eUser d_need_place (seqR [uVar 0, uVar 2]))))
  (sSeq (sRet (e2 dIx (rd (eUser d_steps_of (seqR [uVar 0]))) (rd (e2 (dBin .Mod) (rd (e2 (dBin .Sub) (rVar 2) (rVar 1))) (rd (e2 dIx (rVar 0) (rd (eC (.int 0)))))))))
  (sNext))))
def d_far : List Sl → R O := defF 0 f_far
def f_all_far : Gm → R Out := sSeq (sExpr (rd (eUser d_need_ring (seqR [uVar 0]))))
  (sSeq (sRet (eUser d_steps_of (seqR [uVar 0])))
  (sNext))
def d_all_far : List Sl → R O := defF 0 f_all_far
def f__law_cell_at : Gm → R Out := sSeq (sIf (isB (e2 (dCmp .Lt) (rVar 1) (rd (eCall fLen (seqR [rVar 0]))))) (sSeq (sRet (e2 dIx (rVar 0) (rVar 1)))
  (sNext)) (sNext))
  (sSeq (sRet (eC (.int 0)))
  (sNext))
def d__law_cell_at : List Sl → R O := defF 0 f__law_cell_at
def f__law_draw : Gm → R Out := sSeq (sIf (isB (e2 (dCmp .GtE) (rVar 0) (rd (e2 (dBin .Pow) (rd (eC (.int 10))) (rd (eC (.int 18))))))) (sSeq (sSet false 4 (eVar 0))
  (sSeq (sFor (iOf rngF1 (seqR [rVar 1])) (.nm 5) (sSeq (sSet false 4 (e2 (dBin .FloorDiv) (rVar 4) (rVar 2)))
  (sNext)))
  (sSeq (sIf (isB (e2 (dCmp .Gt) (rVar 4) (rd (eC (.int 0))))) (sSeq (sRet (e2 (dBin .Mod) (rVar 4) (rVar 2)))
  (sNext)) (sNext))
  (sNext)))) (sNext))
  (sSeq (sSet false 3 (e2 (dBin .Mod) (rd (e2 (dBin .Mult) (rd (e2 (dBin .Add) (rd (e2 (dBin .Add) (rd (e2 (dBin .Mod) (rVar 0) (rd (eC (.int 1000000007))))) (rd (e2 (dBin .Mult) (rd (eC (.int 1009))) (rVar 1))))) (rd (eC (.int 17))))) (rd (eC (.int 69621))))) (rd (eC (.int 2147483647)))))
  (sSeq (sSet false 3 (e2 (dBin .Mod) (rd (e2 (dBin .Add) (rd (e2 (dBin .Add) (rd (e2 (dBin .Mult) (rVar 3) (rVar 3))) (rd (e2 (dBin .Mult) (rd (eC (.int 40503))) (rVar 1))))) (rd (eC (.int 5))))) (rd (eC (.int 2147483629)))))
  (sSeq (sRet (e2 (dBin .Mod) (rd (e2 (dBin .FloorDiv) (rd (e2 (dBin .Mod) (rd (e2 (dBin .Mult) (rVar 3) (rd (eC (.int 48271))))) (rd (eC (.int 2147483647))))) (rd (eC (.int 32))))) (rVar 2)))
  (sNext))))
def d__law_draw : List Sl → R O := defF 3 f__law_draw
def f__law_ring : Gm → R Out := sSeq (sSet false 2 (e2 (dBin .Add) (rd (eC (.int 3))) (rd (eUser d__law_draw (seqR [uVar 0, uVal (vl (eC (.int 0))), uVal (vl (e2 (dBin .Sub) (rVar 1) (rd (eC (.int 2)))))])))))
  (sSeq (sSet false 3 (e2 (dBin .FloorDiv) (rVar 2) (rd (eC (.int 2)))))
  (sSeq (sSet false 4 (eUser d__law_draw (seqR [uVar 0, uVal (vl (eC (.int 1))), uVal (vl (eC (.int 6)))])))
  (sSeq (sSet false 5 (e2 (dBin .Add) (rd (eC (.int 2))) (rd (eUser d__law_draw (seqR [uVar 0, uVal (vl (eC (.int 9))), uVal (vl (eC (.int 4)))])))))
  (sSeq (sSet true 6 ((fun _ => .ok (.o (.dct [])))))
  (sSeq (sFor (iOf rngF1 (seqR [rd (e2 (dBin .Add) (rd (eC (.int 1))) (rd (eUser d__law_draw (seqR [uVar 0, uVal (vl (eC (.int 2))), uVal (vl (eC (.int 4)))]))))])) (.nm 7) (sSeq (sSet false 8 (e2 (dBin .Add) (rd (eC (.int 1))) (rd (eUser d__law_draw (seqR [uVar 0, uVal (vl (e2 (dBin .Add) (rd (eC (.int 3))) (rVar 7))), uVar 3])))))
  (sSeq (sIf (tAndF [isB (e2 (dCmp .Eq) (rVar 4) (rd (eC (.int 1)))), isB (e2 (dCmp .Eq) (rVar 7) (rd (eC (.int 0))))]) (sSeq (sSet false 8 (eC (.int 1)))
  (sNext)) (sNext))
  (sSeq (sIf (tAndF [isB (e2 (dCmp .Eq) (rVar 4) (rd (eC (.int 2)))), isB (e2 (dCmp .LtE) (rVar 5) (rVar 3))]) (sSeq (sSet false 8 (e2 (dBin .Mult) (rVar 5) (rd (e2 (dBin .Add) (rd (eC (.int 1))) (rd (eUser d__law_draw (seqR [uVar 0, uVal (vl (e2 (dBin .Add) (rd (eC (.int 3))) (rVar 7))), uVal (vl (e2 (dBin .FloorDiv) (rVar 3) (rVar 5)))])))))))
  (sNext)) (sNext))
  (sSeq (sIf (tAndF [isB (e2 (dCmp .Eq) (rVar 4) (rd (eC (.int 3)))), isB (e2 (dCmp .Eq) (rVar 7) (rd (eC (.int 0))))]) (sSeq (sSet false 8 (eVar 3))
  (sNext)) (sNext))
  (sSeq (sIf (isB (e2 (dCmp .Eq) (rVar 4) (rd (eC (.int 4))))) (sSeq (sSet false 8 (eCall fMin (seqR [rVar 3, rd (e2 (dBin .Add) (rd (e2 (dBin .Add) (rd (eC (.int 1))) (rd (eUser d__law_draw (seqR [uVar 0, uVal (vl (eC (.int 10))), uVar 3]))))) (rVar 7))])))
  (sNext)) (sNext))
  (sSeq (sSto 6 (vl (eC (.bl true))) (rVar 8))
  (sNext))))))))
  (sSeq (sRet (eTup (seqR [vl (eVar 2), vl (eCall fTuple (seqR [rd (eCall fSorted (seqR [rVar 6]))]))])))
  (sNext)))))))
def d__law_ring : List Sl → R O := defF 7 f__law_ring
def f__law_near : Gm → R Out := sSeq (sAsg (.tp [.nm 4, .nm 5]) (vl (eVar 0)))
  (sSeq (sSet true 2 ((fun _ => .ok (.o (.dct [])))))
  (sSeq (sFor (iF (vl (eVar 5))) (.nm 3) (sSeq (sSto 2 (vl (eC (.bl true))) (rd (e2 (dBin .Mod) (rd (e2 (dBin .Add) (rVar 1) (rVar 3))) (rVar 4))))
  (sSeq (sSto 2 (vl (eC (.bl true))) (rd (e2 (dBin .Mod) (rd (e2 (dBin .Sub) (rd (e2 (dBin .Add) (rVar 1) (rVar 4))) (rVar 3))) (rVar 4))))
  (sNext))))
  (sSeq (sRet (eCall fSorted (seqR [rVar 2])))
  (sNext))))
def d__law_near : List Sl → R O := defF 4 f__law_near
def f__law_steps : Gm → R Out := sSeq (sSet true 2 (e2 (dBin .Mult) (rd (eLst (seqR [vl (eC .non)]))) (rd (e2 dIx (rVar 0) (rd (eC (.int 0)))))))
  (sSeq (sSto 2 (vl (eC (.int 0))) (rVar 1))
  (sSeq (sSet false 3 (eLst (seqR [vl (eVar 1)])))
  (sSeq (sSet false 4 (eC (.int 0)))
  (sSeq (whR (isB (e2 (dCmp .NotEq) (rVar 3) (rd (eLst (seqR []))))) (sSeq (sSet false 4 (e2 (dBin .Add) (rVar 4) (rd (eC (.int 1)))))
  (sSeq (sSet true 5 (eLst (seqR [])))
  (sSeq (sFor (iF (vl (eVar 3))) (.nm 6) (sSeq (sFor (iF (vl (eUser d__law_near (seqR [uVar 0, uVar 6])))) (.nm 7) (sSeq (sIf (isB (e2 (dCmp .Is) (rd (e2 dIx (rVar 2) (rVar 7))) (rd (eC .non)))) (sSeq (sSto 2 (vl (eVar 4)) (rVar 7))
  (sSeq (sApp 5 (vl (eVar 7)))
  (sNext))) (sNext))
  (sNext)))
  (sNext)))
  (sSeq ((fun Γ => (sSet false 3 (eVar 5)) (frz [5] Γ)))
  (sNext))))) whN)
  (sSeq (sRetV 2)
  (sNext))))))
def d__law_steps : List Sl → R O := defF 6 f__law_steps
def f__law_no_ring : Gm → R Out := sSeq (sAsg (.tp [.nm 6, .nm 7]) (vl (eVar 2)))
  (sSeq (sSet false 3 (eUser d__law_draw (seqR [uVar 0, uVal (vl (e2 (dBin .Add) (rVar 1) (rd (eC (.int 1))))), uVal (vl (eCall fLen (seqR [rVar 7])))])))
  (sSeq (sSet false 4 (e2 dIx (rd (eLst (seqR [vl (eC (.int 0)), vl (eNeg (rd (eC (.int 1)))), vl (e2 (dBin .Add) (rd (e2 (dBin .FloorDiv) (rVar 6) (rd (eC (.int 2))))) (rd (eC (.int 1)))), vl (eC (.bl true)), vl (eC .non), vl (eC (.str "1")), vl (eTup (seqR [vl (eC (.int 1))])), vl (eVar 6), vl (eNeg (rd (e2 dIx (rVar 7) (rd (eC (.int 0)))))), vl (e2 (dBin .Pow) (rd (eC (.int 10))) (rd (eC (.int 20))))]))) (rd (eUser d__law_draw (seqR [uVar 0, uVal (vl (e2 (dBin .Add) (rVar 1) (rd (eC (.int 2))))), uVal (vl (eC (.int 10)))])))))
  (sSeq (sSet true 5 (eLst (seqR [vl (eTup (seqR [vl (eC (.int 2)), vl (eTup (seqR [vl (eC (.int 1))]))])), vl (eTup (seqR [vl (eC (.int 101)), vl (eTup (seqR [vl (eC (.int 1))]))])), vl (eTup (seqR [vl (eC (.bl true)), vl (eTup (seqR [vl (eC (.int 1))]))])), vl (eTup (seqR [vl (eVar 6), vl (eTup (seqR []))])), vl (eTup (seqR [vl (eVar 6), vl (eCall fList (seqR [rVar 7]))])), vl (eLst (seqR [vl (eVar 6), vl (eVar 7)])), vl (eTup (seqR [vl (eVar 6)]))])))
  (sSeq (sSet true 5 (e2 (dBin .Add) (rVar 5) (rd (eLst (seqR [vl (eC .non), vl (eC (.str "1")), vl (eC (.int 7)), vl ((fun _ => .ok (.o (.dct [])))), vl (eTup (seqR [vl (eVar 6), vl (eVar 7), vl (eTup (seqR []))])), vl (eTup (seqR [vl (eVar 6), vl (eTup (seqR [vl (eC (.int 1)), vl (eC (.int 2)), vl (eC (.int 3)), vl (eC (.int 4)), vl (eC (.int 5))]))])), vl (eTup (seqR [vl (eCall fStr (seqR [rVar 6])), vl (eVar 7)])), vl (eTup (seqR [vl (eVar 6), vl (eC .non)]))])))))
  (sSeq (sApp 5 (vl (eTup (seqR [vl (eVar 6), vl (e2 (dBin .Add) (rd (e2 (dBin .Add) (rd (eSl (rVar 7) (noPart) (aPart (rVar 3)))) (rd (eTup (seqR [vl (eVar 4)]))))) (rd (eSl (rVar 7) (aPart (rd (e2 (dBin .Add) (rVar 3) (rd (eC (.int 1)))))) (noPart))))]))))
  (sSeq (sApp 5 (vl (eTup (seqR [vl (eVar 6), vl (e2 (dBin .Add) (rd (e2 (dBin .Add) (rd (eSl (rVar 7) (noPart) (aPart (rVar 3)))) (rd (eSl (rVar 7) (aPart (rVar 3)) (aPart (rd (e2 (dBin .Add) (rVar 3) (rd (eC (.int 1)))))))))) (rd (eSl (rVar 7) (aPart (rVar 3)) (noPart))))]))))
  (sSeq (sRet (e2 dIx (rVar 5) (rd (e2 (dBin .Mod) (rd (eUser d__law_draw (seqR [uVar 0, uVar 1, uVal (vl (eC (.int 23)))]))) (rd (eC (.int 17)))))))
  (sNext))))))))
def d__law_no_ring : List Sl → R O := defF 5 f__law_no_ring
def f__law_no_place : Gm → R Out := sSeq (sSet false 3 (eLst (seqR [vl (eVar 2), vl (eNeg (rd (eC (.int 1)))), vl (eC (.bl true)), vl (eC .non), vl (eC (.str "0")), vl (eTup (seqR [vl (eC (.int 0))])), vl (eLst (seqR [vl (eC (.int 0))])), vl (e2 (dBin .Add) (rVar 2) (rd (e2 (dBin .Pow) (rd (eC (.int 10))) (rd (eC (.int 28)))))), vl (eNeg (rd (e2 (dBin .Pow) (rd (eC (.int 10))) (rd (eC (.int 20)))))), vl ((fun _ => .ok (.o (.dct [])))), vl (eC (.bl false))])))
  (sSeq (sRet (e2 dIx (rVar 3) (rd (eUser d__law_draw (seqR [uVar 0, uVar 1, uVal (vl (eC (.int 11)))])))))
  (sNext))
def d__law_no_place : List Sl → R O := defF 1 f__law_no_place
def f_least_count : Gm → R Out := sSeq (sRet (eIf (isB (e2 (dCmp .Eq) (rd (e2 (dBin .Mult) (rd (eC (.int 2))) (rVar 1))) (rd (e2 dIx (rVar 0) (rd (eC (.int 0))))))) (eC (.int 0)) (e2 (dBin .Sub) (rd (eC (.int 0))) (rd (e2 dIx (rVar 0) (rd (eC (.int 0))))))))
  (sNext)
def d_least_count : List Sl → R O := defF 0 f_least_count
def f_good_counts : Gm → R Out := sSeq (sAsg (.tp [.nm 2, .nm 3]) (vl (eVar 0)))
  (sSeq (sIf (tOrF [tNotF (tTru (rd (eCall fIsi (seqR [rVar 1, rd (eC (.ty "tuple"))])))), isB (e2 (dCmp .NotEq) (rd (eCall fLen (seqR [rVar 1]))) (rd (eCall fLen (seqR [rVar 3]))))]) (sSeq (sRet (eC (.bl false)))
  (sNext)) (sNext))
  (sSeq (sFor (iOf zipF (seqR [vl (eVar 3), vl (eVar 1)])) (.tp [.nm 4, .nm 5]) (sSeq (sIf (tNotF (tTru (rd (eUser d_is_number (seqR [uVar 5, uVal (vl (eUser d_least_count (seqR [uVar 0, uVar 4]))), uVal (vl (eIf (isB (e2 (dCmp .Eq) (rd (e2 (dBin .Mult) (rd (eC (.int 2))) (rVar 4))) (rVar 2))) (eC (.int 1)) (eVar 2)))]))))) (sSeq (sRet (eC (.bl false)))
  (sNext)) (sNext))
  (sNext)))
  (sSeq (sRet (eC (.bl true)))
  (sNext))))
def d_good_counts : List Sl → R O := defF 4 f_good_counts
def f_are_counts : Gm → R Out := sSeq (sExpr (rd (eUser d_need_ring (seqR [uVar 0]))))
  (sSeq (sRet (eUser d_good_counts (seqR [uVar 0, uVar 1])))
  (sNext))
def d_are_counts : List Sl → R O := defF 0 f_are_counts
def f_led_by : Gm → R Out := sSeq (sRet (e2 (dBin .Mod) (rd (eCall fSum (seqR [rd (eLc (iOf zipF (seqR [rd (e2 dIx (rVar 0) (rd (eC (.int 1)))), rVar 1])) (.tp [.nm 2, .nm 3]) ((fun _ => .ok true)) (vl (e2 (dBin .Mult) (rVar 2) (rVar 3))) ([2, 3]))]))) (rd (e2 dIx (rVar 0) (rd (eC (.int 0)))))))
  (sNext)
def d_led_by : List Sl → R O := defF 2 f_led_by
def f_led_to : Gm → R Out := sSeq (sExpr (rd (eUser d_need_ring (seqR [uVar 0]))))
  (sSeq (sExpr (rd (eUser d_need_place (seqR [uVar 0, uVar 1]))))
  (sSeq (sIf (tNotF (tTru (rd (eUser d_good_counts (seqR [uVar 0, uVar 2]))))) (sSeq ((fun _ => .err "NoCounts"))
  (sNext)) (sNext))
  (sSeq (sRet (e2 (dBin .Mod) (rd (e2 (dBin .Add) (rVar 1) (rd (eUser d_led_by (seqR [uVar 0, uVar 2]))))) (rd (e2 dIx (rVar 0) (rd (eC (.int 0)))))))
  (sNext))))
def d_led_to : List Sl → R O := defF 0 f_led_to
def f__law_are_counts : Gm → R Out := sSeq (sAsg (.tp [.nm 2, .nm 3]) (vl (eVar 0)))
  (sSeq (sIf (tOrF [tNotF (tTru (rd (eCall fIsi (seqR [rVar 1, rd (eC (.ty "tuple"))])))), isB (e2 (dCmp .NotEq) (rd (eCall fLen (seqR [rVar 1]))) (rd (eCall fLen (seqR [rVar 3]))))]) (sSeq (sRet (eC (.bl false)))
  (sNext)) (sNext))
  (sSeq (sFor (iOf zipF (seqR [vl (eVar 3), vl (eVar 1)])) (.tp [.nm 4, .nm 5]) (sSeq (sIf (tOrF [tNotF (tTru (rd (eCall fIsi (seqR [rVar 5, rd (eC (.ty "int"))])))), tTru (rd (eCall fIsi (seqR [rVar 5, rd (eC (.ty "bool"))])))]) (sSeq (sRet (eC (.bl false)))
  (sNext)) (sNext))
  (sSeq (sIf (tOrF [tAndF [isB (e2 (dCmp .Eq) (rd (e2 (dBin .Mult) (rd (eC (.int 2))) (rVar 4))) (rVar 2)), isB (e2 (dCmp .NotIn) (rVar 5) (rd (eTup (seqR [vl (eC (.int 0)), vl (eC (.int 1))]))))], tNotF (isB (e3 (dCmp .LtE) (dCmp .LtE) (rd (eNeg (rVar 2))) (rVar 5) (rVar 2)))]) (sSeq (sRet (eC (.bl false)))
  (sNext)) (sNext))
  (sNext))))
  (sSeq (sRet (eC (.bl true)))
  (sNext))))
def d__law_are_counts : List Sl → R O := defF 4 f__law_are_counts
def f__law_counts : Gm → R Out := sSeq (sAsg (.tp [.nm 4, .nm 5]) (vl (eVar 2)))
  (sSeq (sSet true 3 (eLst (seqR [])))
  (sSeq (sFor (iOf enumF (seqR [vl (eVar 5)])) (.tp [.nm 6, .nm 7]) (sSeq (sSet false 8 (e2 dIx (rd (eLst (seqR [vl (eC (.int 0)), vl (eVar 4), vl (eNeg (rVar 4)), vl (e2 (dBin .Sub) (rd (eUser d__law_draw (seqR [uVar 0, uVal (vl (e2 (dBin .Add) (rd (e2 (dBin .Add) (rVar 1) (rd (eC (.int 10))))) (rVar 6))), uVal (vl (e2 (dBin .Add) (rd (e2 (dBin .Mult) (rd (eC (.int 2))) (rVar 4))) (rd (eC (.int 1)))))]))) (rVar 4))]))) (rd (eUser d__law_draw (seqR [uVar 0, uVal (vl (e2 (dBin .Add) (rVar 1) (rVar 6))), uVal (vl (eC (.int 4)))])))))
  (sSeq (sApp 3 (vl (e2 dIx (rd (eLst (seqR [vl (eVar 8), vl (eUser d__law_draw (seqR [uVar 0, uVal (vl (e2 (dBin .Add) (rd (e2 (dBin .Add) (rVar 1) (rd (eC (.int 20))))) (rVar 6))), uVal (vl (eC (.int 2)))]))]))) (rd (eCall fInt (seqR [rd (e2 (dCmp .Eq) (rd (e2 (dBin .Mult) (rd (eC (.int 2))) (rVar 7))) (rVar 4))]))))))
  (sNext))))
  (sSeq (sRet (eCall fTuple (seqR [rVar 3])))
  (sNext))))
def d__law_counts : List Sl → R O := defF 6 f__law_counts
def f__law_bent_counts : Gm → R Out := sSeq (sSet false 4 (eUser d__law_draw (seqR [uVar 0, uVal (vl (e2 (dBin .Add) (rVar 1) (rd (eC (.int 1))))), uVal (vl (eCall fLen (seqR [rVar 2])))])))
  (sSeq (sSet false 5 (e2 dIx (rd (eLst (seqR [vl (e2 (dBin .Add) (rVar 3) (rd (eC (.int 1)))), vl (e2 (dBin .Sub) (rd (eNeg (rVar 3))) (rd (eC (.int 1)))), vl (eC (.int 2)), vl (eNeg (rd (eC (.int 1)))), vl (eC (.bl true)), vl (eC .non), vl (eC (.str "1")), vl (eTup (seqR [vl (eC (.int 0))])), vl (e2 (dBin .Pow) (rd (eC (.int 10))) (rd (eC (.int 28)))), vl (eC (.bl false))]))) (rd (eUser d__law_draw (seqR [uVar 0, uVal (vl (e2 (dBin .Add) (rVar 1) (rd (eC (.int 2))))), uVal (vl (eC (.int 10)))])))))
  (sSeq (sSet false 6 (eLst (seqR [vl (e2 (dBin .Add) (rd (e2 (dBin .Add) (rd (eSl (rVar 2) (noPart) (aPart (rVar 4)))) (rd (eTup (seqR [vl (eVar 5)]))))) (rd (eSl (rVar 2) (aPart (rd (e2 (dBin .Add) (rVar 4) (rd (eC (.int 1)))))) (noPart)))), vl (e2 (dBin .Add) (rd (eSl (rVar 2) (noPart) (aPart (rVar 4)))) (rd (eSl (rVar 2) (aPart (rd (e2 (dBin .Add) (rVar 4) (rd (eC (.int 1)))))) (noPart)))), vl (e2 (dBin .Add) (rVar 2) (rd (eTup (seqR [vl (eC (.int 0))])))), vl (eCall fList (seqR [rVar 2])), vl (eC .non), vl (eC (.int 0))])))
  (sSeq (sRet (e2 dIx (rd (e2 (dBin .Add) (rVar 6) (rd (eLst (seqR [vl ((fun _ => .ok (.o (.dct [])))), vl (eTup (seqR [vl (eVar 2)])), vl (eC (.str "0")), vl (eBack (rVar 2))]))))) (rd (e2 dIx (rd (eLst (seqR [vl (eC (.int 0)), vl (eC (.int 0)), vl (eC (.int 0)), vl (eC (.int 0)), vl (eC (.int 1)), vl (eC (.int 2)), vl (eC (.int 3)), vl (eC (.int 4)), vl (eC (.int 5)), vl (eC (.int 6)), vl (eC (.int 7)), vl (eC (.int 8)), vl (eC (.int 9))]))) (rd (eUser d__law_draw (seqR [uVar 0, uVar 1, uVal (vl (eC (.int 13)))])))))))
  (sNext))))
def d__law_bent_counts : List Sl → R O := defF 3 f__law_bent_counts
def f_goes : Gm → R Out := sSeq (sIf (tOrF [tNotF (tTru (rd (eCall fIsi (seqR [rVar 1, rd (eC (.ty "tuple"))])))), isB (e2 (dCmp .Eq) (rVar 1) (rd (eTup (seqR [])))), tNotF (tTru (rd (eCall fAll (seqR [rd (eLc (iF (rVar 1)) (.nm 3) ((fun _ => .ok true)) (vl (eUser d_is_number (seqR [uVar 3, uVal (vl (eC (.int 0))), uVal (vl (e2 (dBin .Sub) (rd (e2 dIx (rVar 0) (rd (eC (.int 0))))) (rd (eC (.int 1)))))]))) ([3]))]))))]) (sSeq (sRet (eC (.bl false)))
  (sNext)) (sNext))
  (sSeq (sRet (eCall fAll (seqR [rd (eLc (iOf rngF1 (seqR [rd (e2 (dBin .Sub) (rd (eCall fLen (seqR [rVar 1]))) (rd (eC (.int 1))))])) (.nm 2) ((fun _ => .ok true)) (vl (e2 (dCmp .In) (rd (e2 dIx (rVar 1) (rd (e2 (dBin .Add) (rVar 2) (rd (eC (.int 1))))))) (rd (eUser d_beside (seqR [uVar 0, uVal (vl (e2 dIx (rVar 1) (rVar 2)))]))))) ([2]))])))
  (sNext))
def d_goes : List Sl → R O := defF 2 f_goes
def f_counts_of : Gm → R Out := sSeq (sExpr (rd (eUser d_need_ring (seqR [uVar 0]))))
  (sSeq (sIf (tNotF (tTru (rd (eUser d_goes (seqR [uVar 0, uVar 1]))))) (sSeq ((fun _ => .err "NoWay"))
  (sNext)) (sNext))
  (sSeq (sAsg (.tp [.nm 5, .nm 6]) (vl (eVar 0)))
  (sSeq (sSet false 2 (eLc (iOf rngF1 (seqR [rd (e2 (dBin .Sub) (rd (eCall fLen (seqR [rVar 1]))) (rd (eC (.int 1))))])) (.nm 7) ((fun _ => .ok true)) (vl (e2 (dBin .Mod) (rd (e2 (dBin .Sub) (rd (e2 dIx (rVar 1) (rd (e2 (dBin .Add) (rVar 7) (rd (eC (.int 1))))))) (rd (e2 dIx (rVar 1) (rVar 7))))) (rVar 5))) ([7])))
  (sSeq (sSet true 3 (eLst (seqR [])))
  (sSeq (sFor (iF (vl (eVar 6))) (.nm 4) (sSeq (sIf (isB (e2 (dCmp .Eq) (rd (e2 (dBin .Mult) (rd (eC (.int 2))) (rVar 4))) (rVar 5))) (sSeq (sApp 3 (vl (e2 (dBin .Mod) (rd (eMt cntD (rVar 2) (rVar 4))) (rd (eC (.int 2))))))
  (sNext)) (sSeq (sApp 3 (vl (e2 (dBin .Sub) (rd (eMt cntD (rVar 2) (rVar 4))) (rd (eMt cntD (rVar 2) (rd (e2 (dBin .Sub) (rVar 5) (rVar 4))))))))
  (sNext)))
  (sNext)))
  (sSeq (sRet (eCall fTuple (seqR [rVar 3])))
  (sNext)))))))
def d_counts_of : List Sl → R O := defF 6 f_counts_of
def f__law_is_way : Gm → R Out := sSeq (sIf (tOrF [tNotF (tTru (rd (eCall fIsi (seqR [rVar 1, rd (eC (.ty "tuple"))])))), isB (e2 (dCmp .Eq) (rVar 1) (rd (eTup (seqR []))))]) (sSeq (sRet (eC (.bl false)))
  (sNext)) (sNext))
  (sSeq (sFor (iF (vl (eVar 1))) (.nm 2) (sSeq (sIf (tOrF [tNotF (tTru (rd (eCall fIsi (seqR [rVar 2, rd (eC (.ty "int"))])))), tTru (rd (eCall fIsi (seqR [rVar 2, rd (eC (.ty "bool"))]))), tNotF (isB (e3 (dCmp .LtE) (dCmp .Lt) (rd (eC (.int 0))) (rVar 2) (rd (e2 dIx (rVar 0) (rd (eC (.int 0)))))))]) (sSeq (sRet (eC (.bl false)))
  (sNext)) (sNext))
  (sNext)))
  (sSeq (sRet (e2 (dCmp .Eq) (rd (eLc (iOf rngF2 (seqR [rd (eC (.int 1)), rd (eCall fLen (seqR [rVar 1]))])) (.nm 3) (isB (e2 (dCmp .NotIn) (rd (e2 dIx (rVar 1) (rVar 3))) (rd (eUser d__law_near (seqR [uVar 0, uVal (vl (e2 dIx (rVar 1) (rd (e2 (dBin .Sub) (rVar 3) (rd (eC (.int 1)))))))]))))) (vl (eVar 3)) ([3]))) (rd (eLst (seqR [])))))
  (sNext)))
def d__law_is_way : List Sl → R O := defF 2 f__law_is_way
def f__law_bent : Gm → R Out := sSeq (sSet false 4 (eUser d__law_draw (seqR [uVar 0, uVal (vl (e2 (dBin .Add) (rVar 1) (rd (eC (.int 1))))), uVal (vl (eCall fLen (seqR [rVar 2])))])))
  (sSeq (sSet false 5 (e2 dIx (rd (eLst (seqR [vl (e2 (dBin .Mod) (rd (e2 (dBin .Add) (rd (e2 dIx (rVar 2) (rVar 4))) (rd (eC (.int 1))))) (rVar 3)), vl (eVar 3), vl (eNeg (rd (eC (.int 1)))), vl (eC (.bl true)), vl (eC .non), vl (eCall fStr (seqR [rd (e2 dIx (rVar 2) (rVar 4))])), vl (eTup (seqR [vl (eC (.int 0))])), vl (e2 (dBin .Pow) (rd (eC (.int 10))) (rd (eC (.int 28))))]))) (rd (eUser d__law_draw (seqR [uVar 0, uVal (vl (e2 (dBin .Add) (rVar 1) (rd (eC (.int 2))))), uVal (vl (eC (.int 8)))])))))
  (sSeq (sSet false 6 (eLst (seqR [vl (e2 (dBin .Add) (rd (e2 (dBin .Add) (rd (eSl (rVar 2) (noPart) (aPart (rVar 4)))) (rd (eTup (seqR [vl (eVar 5)]))))) (rd (eSl (rVar 2) (aPart (rd (e2 (dBin .Add) (rVar 4) (rd (eC (.int 1)))))) (noPart)))), vl (e2 (dBin .Add) (rd (eSl (rVar 2) (noPart) (aPart (rVar 4)))) (rd (eSl (rVar 2) (aPart (rd (e2 (dBin .Add) (rVar 4) (rd (eC (.int 1)))))) (noPart)))), vl (e2 (dBin .Add) (rd (eSl (rVar 2) (noPart) (aPart (rd (e2 (dBin .Add) (rVar 4) (rd (eC (.int 1)))))))) (rd (eSl (rVar 2) (aPart (rVar 4)) (noPart)))), vl (eBack (rVar 2))])))
  (sSeq (sSet false 6 (e2 (dBin .Add) (rVar 6) (rd (eLst (seqR [vl (eCall fList (seqR [rVar 2])), vl (eTup (seqR [vl (eVar 2)])), vl (eC .non), vl (eC (.str "0 1")), vl ((fun _ => .ok (.o (.dct [])))), vl (e2 (dBin .Add) (rVar 2) (rd (eTup (seqR [vl (e2 dIx (rVar 2) (rd (eC (.int 0))))])))), vl (e2 (dBin .Add) (rVar 2) (rd (eSl (rd (eBack (rVar 2))) (aPart (rd (eC (.int 1)))) (noPart))))])))))
  (sSeq (sRet (e2 dIx (rVar 6) (rd (e2 dIx (rd (eLst (seqR [vl (eC (.int 0)), vl (eC (.int 0)), vl (eC (.int 0)), vl (eC (.int 0)), vl (eC (.int 1)), vl (eC (.int 1)), vl (eC (.int 2)), vl (eC (.int 3)), vl (eC (.int 4)), vl (eC (.int 5)), vl (eC (.int 6)), vl (eC (.int 7)), vl (eC (.int 8)), vl (eC (.int 9)), vl (eC (.int 10))]))) (rd (eUser d__law_draw (seqR [uVar 0, uVar 1, uVal (vl (eC (.int 15)))])))))))
  (sNext)))))
def d__law_bent : List Sl → R O := defF 3 f__law_bent
def f__law_walk : Gm → R Out := sSeq (sSet false 4 (eTup (seqR [vl (eUser d__law_draw (seqR [uVar 0, uVar 1, uVal (vl (e2 dIx (rVar 2) (rd (eC (.int 0)))))]))])))
  (sSeq (sFor (iOf rngF1 (seqR [rd (eUser d__law_draw (seqR [uVar 0, uVal (vl (e2 (dBin .Add) (rVar 1) (rd (eC (.int 1))))), uVal (vl (e2 (dBin .Add) (rVar 3) (rd (eC (.int 1)))))]))])) (.nm 5) (sSeq (sSet false 6 (eUser d__law_near (seqR [uVar 2, uVal (vl (e2 dIx (rVar 4) (rd (eNeg (rd (eC (.int 1)))))))])))
  (sSeq (sSet false 4 (e2 (dBin .Add) (rVar 4) (rd (eTup (seqR [vl (e2 dIx (rVar 6) (rd (eUser d__law_draw (seqR [uVar 0, uVal (vl (e2 (dBin .Add) (rd (e2 (dBin .Add) (rVar 1) (rd (eC (.int 2))))) (rVar 5))), uVal (vl (eCall fLen (seqR [rVar 6])))]))))])))))
  (sNext))))
  (sSeq (sRetV 4)
  (sNext)))
def d__law_walk : List Sl → R O := defF 3 f__law_walk
def f_need_number : Gm → R Out := sSeq (sIf (tNotF (tTru (rd (eUser d_is_number (seqR [uVar 0, uVar 1, uVar 2]))))) (sSeq ((fun _ => .err "NoNumber"))
  (sNext)) (sNext))
  (sNext)
def d_need_number : List Sl → R O := defF 0 f_need_number
def f_common : Gm → R Out := sSeq (whR (isB (e2 (dCmp .Gt) (rVar 1) (rd (eC (.int 0))))) (sSeq (sPar 0 1 (seqR [vl (eVar 1), vl (e2 (dBin .Mod) (rVar 0) (rVar 1))]))
  (sNext)) whN)
  (sSeq (sRetV 0)
  (sNext))
def d_common : List Sl → R O := defF 0 f_common
def f_times : Gm → R Out := sSeq (sAsg (.tp [.nm 3, .nm 4]) (vl (eVar 0)))
  (sSeq (sSet false 2 (eLc (iF (rVar 4)) (.nm 5) ((fun _ => .ok true)) (vl (e2 (dBin .Mod) (rd (e2 (dBin .Mult) (rVar 5) (rVar 1))) (rVar 3))) ([5])))
  (sSeq (sRet (eTup (seqR [vl (eVar 3), vl (eCall fTuple (seqR [rd (eCall fSorted (seqR [rd (eLc (iF (rVar 2)) (.nm 6) ((fun _ => .ok true)) (vl (eCall fMin (seqR [rVar 6, rd (e2 (dBin .Sub) (rVar 3) (rVar 6))]))) ([6]))]))]))])))
  (sNext)))
def d_times : List Sl → R O := defF 5 f_times
def f_multiplied : Gm → R Out := sSeq (sExpr (rd (eUser d_need_ring (seqR [uVar 0]))))
  (sSeq (sExpr (rd (eUser d_need_number (seqR [uVar 1, uVal (vl (eC (.int 1))), uVal (vl (e2 (dBin .Sub) (rd (e2 dIx (rVar 0) (rd (eC (.int 0))))) (rd (eC (.int 1)))))]))))
  (sSeq (sIf (isB (e2 (dCmp .Gt) (rd (eUser d_common (seqR [uVal (vl (e2 dIx (rVar 0) (rd (eC (.int 0))))), uVar 1]))) (rd (eC (.int 1))))) (sSeq ((fun _ => .err "NoNumber"))
  (sNext)) (sNext))
  (sSeq (sRet (eUser d_times (seqR [uVar 0, uVar 1])))
  (sNext))))
def d_multiplied : List Sl → R O := defF 0 f_multiplied
def f_alike_by : Gm → R Out := sSeq (sExpr (rd (eUser d_need_ring (seqR [uVar 0]))))
  (sSeq (sExpr (rd (eUser d_need_ring (seqR [uVar 1]))))
  (sSeq (sFor (iOf rngF2 (seqR [rd (eC (.int 1)), rd (e2 dIx (rVar 0) (rd (eC (.int 0))))])) (.nm 2) (sSeq (sIf (tAndF [isB (e2 (dCmp .Eq) (rd (eUser d_common (seqR [uVal (vl (e2 dIx (rVar 0) (rd (eC (.int 0))))), uVar 2]))) (rd (eC (.int 1)))), isB (e2 (dCmp .Eq) (rd (eUser d_times (seqR [uVar 0, uVar 2]))) (rVar 1))]) (sSeq (sRetV 2)
  (sNext)) (sNext))
  (sNext)))
  (sSeq (sRet (eC .non))
  (sNext))))
def d_alike_by : List Sl → R O := defF 1 f_alike_by
def f__law_no_number : Gm → R Out := sSeq (sSet false 4 (eLst (seqR [vl (e2 (dBin .Sub) (rVar 2) (rd (eC (.int 1)))), vl (e2 (dBin .Add) (rVar 3) (rd (eC (.int 1)))), vl (eC (.bl true)), vl (eC (.bl false)), vl (eC .non), vl (eCall fStr (seqR [rVar 2])), vl (eTup (seqR [vl (eVar 2)])), vl (eLst (seqR [vl (eVar 2)])), vl ((fun _ => .ok (.o (.dct [])))), vl (eNeg (rd (e2 (dBin .Pow) (rd (eC (.int 10))) (rd (eC (.int 28)))))), vl (e2 (dBin .Pow) (rd (eC (.int 10))) (rd (eC (.int 29))))])))
  (sSeq (sRet (e2 dIx (rVar 4) (rd (eUser d__law_draw (seqR [uVar 0, uVar 1, uVal (vl (eC (.int 11)))])))))
  (sNext))
def d__law_no_number : List Sl → R O := defF 1 f__law_no_number
def f__law_common : Gm → R Out := sSeq (whR (isB (e2 (dCmp .Gt) (rVar 1) (rd (eC (.int 0))))) (sSeq (sPar 0 1 (seqR [vl (eVar 1), vl (e2 (dBin .Mod) (rVar 0) (rVar 1))]))
  (sNext)) whN)
  (sSeq (sRetV 0)
  (sNext))
def d__law_common : List Sl → R O := defF 0 f__law_common
def f__law_times : Gm → R Out := sSeq (sAsg (.tp [.nm 4, .nm 5]) (vl (eVar 0)))
  (sSeq (sSet true 2 ((fun _ => .ok (.o (.dct [])))))
  (sSeq (sFor (iF (vl (eVar 5))) (.nm 3) (sSeq (sSet false 6 (e2 (dBin .Mod) (rd (e2 (dBin .Mult) (rVar 3) (rVar 1))) (rVar 4)))
  (sSeq (sSto 2 (vl (eC (.bl true))) (rd (e2 dIx (rd (eLst (seqR [vl (eVar 6), vl (e2 (dBin .Sub) (rVar 4) (rVar 6))]))) (rd (eCall fInt (seqR [rd (e2 (dCmp .Gt) (rd (e2 (dBin .Mult) (rd (eC (.int 2))) (rVar 6))) (rVar 4))]))))))
  (sNext))))
  (sSeq (sRet (eTup (seqR [vl (eVar 4), vl (eCall fTuple (seqR [rd (eCall fSorted (seqR [rVar 2]))]))])))
  (sNext))))
def d__law_times : List Sl → R O := defF 5 f__law_times
def f_near : Gm → R Out := sSeq (sExpr (rd (eUser d_need_ring (seqR [uVar 0]))))
  (sSeq (sExpr (rd (eUser d_need_place (seqR [uVar 0, uVar 1]))))
  (sSeq (sRet (eUser d_beside (seqR [uVar 0, uVar 1])))
  (sNext)))
def d_near : List Sl → R O := defF 0 f_near
def f_ties_each : Gm → R Out := sSeq (sExpr (rd (eUser d_need_ring (seqR [uVar 0]))))
  (sSeq (sRet (eCall fLen (seqR [rd (eUser d_beside (seqR [uVar 0, uVal (vl (eC (.int 0)))]))])))
  (sNext))
def d_ties_each : List Sl → R O := defF 0 f_ties_each
def f_ties : Gm → R Out := sSeq (sExpr (rd (eUser d_need_ring (seqR [uVar 0]))))
  (sSeq (sSet true 1 (eLst (seqR [])))
  (sSeq (sFor (iOf rngF1 (seqR [rd (e2 dIx (rVar 0) (rd (eC (.int 0))))])) (.nm 2) (sSeq (sExt 1 (rd (eLc (iF (rd (eUser d_beside (seqR [uVar 0, uVar 2])))) (.nm 3) (isB (e2 (dCmp .Gt) (rVar 3) (rVar 2))) (vl (eTup (seqR [vl (eVar 2), vl (eVar 3)]))) ([3]))))
  (sNext)))
  (sSeq (sRet (eCall fTuple (seqR [rVar 1])))
  (sNext))))
def d_ties : List Sl → R O := defF 3 f_ties
def f_pieces_of : Gm → R Out := sSeq (sSet false 1 (e2 dIx (rVar 0) (rd (eC (.int 0)))))
  (sSeq (sFor (iF (vl (e2 dIx (rVar 0) (rd (eC (.int 1)))))) (.nm 2) (sSeq (sSet false 1 (eUser d_common (seqR [uVar 1, uVar 2])))
  (sNext)))
  (sSeq (sRetV 1)
  (sNext)))
def d_pieces_of : List Sl → R O := defF 2 f_pieces_of
def f_is_whole : Gm → R Out := sSeq (sExpr (rd (eUser d_need_ring (seqR [uVar 0]))))
  (sSeq (sRet (e2 (dCmp .Eq) (rd (eUser d_pieces_of (seqR [uVar 0]))) (rd (eC (.int 1)))))
  (sNext))
def d_is_whole : List Sl → R O := defF 0 f_is_whole
def f_pieces : Gm → R Out := sSeq (sExpr (rd (eUser d_need_ring (seqR [uVar 0]))))
  (sSeq (sSet false 1 (eUser d_pieces_of (seqR [uVar 0])))
  (sSeq (sRet (eLc (iOf rngF1 (seqR [rVar 1])) (.nm 2) ((fun _ => .ok true)) (vl (eTupRg (seqR [rVar 2, rd (e2 dIx (rVar 0) (rd (eC (.int 0)))), rVar 1]))) ([2])))
  (sNext)))
def d_pieces : List Sl → R O := defF 2 f_pieces
def f_need_whole : Gm → R Out := sSeq (sIf (isB (e2 (dCmp .Gt) (rd (eUser d_pieces_of (seqR [uVar 0]))) (rd (eC (.int 1))))) (sSeq ((fun _ => .err "NotWhole"))
  (sNext)) (sNext))
  (sNext)
def d_need_whole : List Sl → R O := defF 0 f_need_whole
def f_wide : Gm → R Out := sSeq (sExpr (rd (eUser d_need_ring (seqR [uVar 0]))))
  (sSeq (sExpr (rd (eUser d_need_whole (seqR [uVar 0]))))
  (sSeq (sRet (eCall fMax (seqR [rd (eUser d_steps_of (seqR [uVar 0]))])))
  (sNext)))
def d_wide : List Sl → R O := defF 0 f_wide
def f_tally : Gm → R Out := sSeq (sExpr (rd (eUser d_need_ring (seqR [uVar 0]))))
  (sSeq (sExpr (rd (eUser d_need_whole (seqR [uVar 0]))))
  (sSeq (sSet false 1 (eUser d_steps_of (seqR [uVar 0])))
  (sSeq (sRet (eLc (iOf rngF1 (seqR [rd (e2 (dBin .Add) (rd (eCall fMax (seqR [rVar 1]))) (rd (eC (.int 1))))])) (.nm 2) ((fun _ => .ok true)) (vl (eMt cntD (rVar 1) (rVar 2))) ([2])))
  (sNext))))
def d_tally : List Sl → R O := defF 2 f_tally
def f_farthest : Gm → R Out := sSeq (sExpr (rd (eUser d_need_ring (seqR [uVar 0]))))
  (sSeq (sExpr (rd (eUser d_need_place (seqR [uVar 0, uVar 1]))))
  (sSeq (sExpr (rd (eUser d_need_whole (seqR [uVar 0]))))
  (sSeq (sSet false 2 (eUser d_steps_of (seqR [uVar 0])))
  (sSeq (sRet (eCall fTuple (seqR [rd (eCall fSorted (seqR [rd (eLc (iOf enumF (seqR [rVar 2])) (.tp [.nm 3, .nm 4]) (isB (e2 (dCmp .Eq) (rVar 4) (rd (eCall fMax (seqR [rVar 2]))))) (vl (e2 (dBin .Mod) (rd (e2 (dBin .Add) (rVar 1) (rVar 3))) (rd (e2 dIx (rVar 0) (rd (eC (.int 0))))))) ([3, 4]))]))])))
  (sNext)))))
def d_farthest : List Sl → R O := defF 3 f_farthest
def f_mean_far : Gm → R Out := sSeq (sExpr (rd (eUser d_need_ring (seqR [uVar 0]))))
  (sSeq (sExpr (rd (eUser d_need_whole (seqR [uVar 0]))))
  (sSeq (sSet false 1 (eCall fSum (seqR [rd (eUser d_steps_of (seqR [uVar 0]))])))
  (sSeq (sSet false 2 (eUser d_common (seqR [uVar 1, uVal (vl (e2 (dBin .Sub) (rd (e2 dIx (rVar 0) (rd (eC (.int 0))))) (rd (eC (.int 1)))))])))
  (sSeq (sRet (eTup (seqR [vl (e2 (dBin .FloorDiv) (rVar 1) (rVar 2)), vl (e2 (dBin .FloorDiv) (rd (e2 (dBin .Sub) (rd (e2 dIx (rVar 0) (rd (eC (.int 0))))) (rd (eC (.int 1))))) (rVar 2))])))
  (sNext)))))
def d_mean_far : List Sl → R O := defF 2 f_mean_far
def f_goes_short : Gm → R Out := sSeq (sRet (vAndF [eUser d_goes (seqR [uVar 0, uVar 1]), e2 (dCmp .Eq) (rd (e2 dIx (rd (eUser d_steps_of (seqR [uVar 0]))) (rd (e2 (dBin .Mod) (rd (e2 (dBin .Sub) (rd (e2 dIx (rVar 1) (rd (eNeg (rd (eC (.int 1))))))) (rd (e2 dIx (rVar 1) (rd (eC (.int 0))))))) (rd (e2 dIx (rVar 0) (rd (eC (.int 0))))))))) (rd (e2 (dBin .Sub) (rd (eCall fLen (seqR [rVar 1]))) (rd (eC (.int 1)))))]))
  (sNext)
def d_goes_short : List Sl → R O := defF 0 f_goes_short
def f_is_way : Gm → R Out := sSeq (sExpr (rd (eUser d_need_ring (seqR [uVar 0]))))
  (sSeq (sRet (eUser d_goes (seqR [uVar 0, uVar 1])))
  (sNext))
def d_is_way : List Sl → R O := defF 0 f_is_way
def f_is_shortest : Gm → R Out := sSeq (sExpr (rd (eUser d_need_ring (seqR [uVar 0]))))
  (sSeq (sRet (eUser d_goes_short (seqR [uVar 0, uVar 1])))
  (sNext))
def d_is_shortest : List Sl → R O := defF 0 f_is_shortest
def f_ways_from : Gm → R Out := sSeq (sSet false 1 (eUser d_steps_of (seqR [uVar 0])))
  (sSeq (sSet true 2 (e2 (dBin .Mult) (rd (eLst (seqR [vl (eC (.int 0))]))) (rd (e2 dIx (rVar 0) (rd (eC (.int 0)))))))
  (sSeq (sSto 2 (vl (eC (.int 1))) (rd (eC (.int 0))))
  (sSeq (sSet false 3 (eLc (iOf enumF (seqR [rVar 1])) (.tp [.nm 5, .nm 4]) (tAndF [isB (e2 (dCmp .IsNot) (rVar 4) (rd (eC .non))), isB (e2 (dCmp .Gt) (rVar 4) (rd (eC (.int 0))))]) (vl (eTup (seqR [vl (eVar 4), vl (eVar 5)]))) ([5, 4])))
  (sSeq (sFor (iF (vl (eCall fSorted (seqR [rVar 3])))) (.tp [.nm 4, .nm 5]) (sSeq (sSto 2 (vl (eCall fSum (seqR [rd (eLc (iF (rd (eUser d_beside (seqR [uVar 0, uVar 5])))) (.nm 6) (isB (e2 (dCmp .Eq) (rd (e2 dIx (rVar 1) (rVar 6))) (rd (e2 (dBin .Sub) (rVar 4) (rd (eC (.int 1))))))) (vl (e2 dIx (rVar 2) (rVar 6))) ([6]))]))) (rVar 5))
  (sNext)))
  (sSeq (sRetV 2)
  (sNext))))))
def d_ways_from : List Sl → R O := defF 6 f_ways_from
def f_need_two : Gm → R Out := sSeq (sExpr (rd (eUser d_need_ring (seqR [uVar 0]))))
  (sSeq (sExpr (rd (eUser d_need_place (seqR [uVar 0, uVar 1]))))
  (sSeq (sExpr (rd (eUser d_need_place (seqR [uVar 0, uVar 2]))))
  (sNext)))
def d_need_two : List Sl → R O := defF 0 f_need_two
def f_shortest_many : Gm → R Out := sSeq (sExpr (rd (eUser d_need_two (seqR [uVar 0, uVar 1, uVar 2]))))
  (sSeq (sRet (e2 dIx (rd (eUser d_ways_from (seqR [uVar 0]))) (rd (e2 (dBin .Mod) (rd (e2 (dBin .Sub) (rVar 2) (rVar 1))) (rd (e2 dIx (rVar 0) (rd (eC (.int 0)))))))))
  (sNext))
def d_shortest_many : List Sl → R O := defF 0 f_shortest_many
def f_nearer : Gm → R Out := sSeq (sSet false 4 (e2 dIx (rVar 0) (rd (eC (.int 0)))))
  (sSeq (sSet false 5 (e2 dIx (rVar 1) (rd (e2 (dBin .Mod) (rd (e2 (dBin .Sub) (rVar 3) (rVar 2))) (rVar 4)))))
  (sSeq (sRet (eLc (iF (rd (eUser d_beside (seqR [uVar 0, uVar 2])))) (.nm 6) (tAndF [isB (e2 (dCmp .IsNot) (rVar 5) (rd (eC .non))), isB (e2 (dCmp .Eq) (rd (e2 dIx (rVar 1) (rd (e2 (dBin .Mod) (rd (e2 (dBin .Sub) (rVar 3) (rVar 6))) (rVar 4))))) (rd (e2 (dBin .Sub) (rVar 5) (rd (eC (.int 1))))))]) (vl (eVar 6)) ([6])))
  (sNext)))
def d_nearer : List Sl → R O := defF 3 f_nearer
def f_shortest_at : Gm → R Out := sSeq (sExpr (rd (eUser d_need_two (seqR [uVar 0, uVar 1, uVar 2]))))
  (sSeq (sSet false 4 (eUser d_ways_from (seqR [uVar 0])))
  (sSeq (sIf (tNotF (tTru (rd (eUser d_is_number (seqR [uVar 3, uVal (vl (eC (.int 0))), uVal (vl (e2 (dBin .Sub) (rd (e2 dIx (rVar 4) (rd (e2 (dBin .Mod) (rd (e2 (dBin .Sub) (rVar 2) (rVar 1))) (rd (e2 dIx (rVar 0) (rd (eC (.int 0))))))))) (rd (eC (.int 1)))))]))))) (sSeq ((fun _ => .err "NoNumber"))
  (sNext)) (sNext))
  (sSeq (sSet false 5 (eUser d_steps_of (seqR [uVar 0])))
  (sSeq (sSet false 6 (eTup (seqR [vl (eVar 1)])))
  (sSeq (whR (isB (e2 (dCmp .NotEq) (rd (e2 dIx (rVar 6) (rd (eNeg (rd (eC (.int 1))))))) (rVar 2))) (sSeq (sFor (iF (vl (eUser d_nearer (seqR [uVar 0, uVar 5, uVal (vl (e2 dIx (rVar 6) (rd (eNeg (rd (eC (.int 1))))))), uVar 2])))) (.nm 7) (sSeq (sSet false 8 (e2 dIx (rVar 4) (rd (e2 (dBin .Mod) (rd (e2 (dBin .Sub) (rVar 2) (rVar 7))) (rd (e2 dIx (rVar 0) (rd (eC (.int 0)))))))))
  (sSeq (sIf (isB (e2 (dCmp .Lt) (rVar 3) (rVar 8))) (sSeq (sSet false 6 (e2 (dBin .Add) (rVar 6) (rd (eTup (seqR [vl (eVar 7)])))))
  (sSeq ((fun Γ => .ok (.bk Γ)))
  (sNext))) (sNext))
  (sSeq (sSet false 3 (e2 (dBin .Sub) (rVar 3) (rVar 8)))
  (sNext)))))
  (sNext)) whN)
  (sSeq (sRetV 6)
  (sNext)))))))
def d_shortest_at : List Sl → R O := defF 5 f_shortest_at
def f_number_of : Gm → R Out := sSeq (sExpr (rd (eUser d_need_ring (seqR [uVar 0]))))
  (sSeq (sIf (tNotF (tTru (rd (eUser d_goes_short (seqR [uVar 0, uVar 1]))))) (sSeq ((fun _ => .err "NoWay"))
  (sNext)) (sNext))
  (sSeq (sSet false 2 (eUser d_ways_from (seqR [uVar 0])))
  (sSeq (sSet false 3 (eUser d_steps_of (seqR [uVar 0])))
  (sSeq (sSet false 4 (eC (.int 0)))
  (sSeq (sFor (iOf rngF1 (seqR [rd (e2 (dBin .Sub) (rd (eCall fLen (seqR [rVar 1]))) (rd (eC (.int 1))))])) (.nm 5) (sSeq (sFor (iF (vl (eUser d_nearer (seqR [uVar 0, uVar 3, uVal (vl (e2 dIx (rVar 1) (rVar 5))), uVal (vl (e2 dIx (rVar 1) (rd (eNeg (rd (eC (.int 1)))))))])))) (.nm 6) (sSeq (sIf (isB (e2 (dCmp .Lt) (rVar 6) (rd (e2 dIx (rVar 1) (rd (e2 (dBin .Add) (rVar 5) (rd (eC (.int 1))))))))) (sSeq (sSet false 4 (e2 (dBin .Add) (rVar 4) (rd (e2 dIx (rVar 2) (rd (e2 (dBin .Mod) (rd (e2 (dBin .Sub) (rd (e2 dIx (rVar 1) (rd (eNeg (rd (eC (.int 1))))))) (rVar 6))) (rd (e2 dIx (rVar 0) (rd (eC (.int 0)))))))))))
  (sNext)) (sNext))
  (sNext)))
  (sNext)))
  (sSeq (sRetV 4)
  (sNext)))))))
def d_number_of : List Sl → R O := defF 5 f_number_of
def f_picks : Gm → R Out := sSeq (sSet false 2 (eLst (seqR [vl (eTup (seqR []))])))
  (sSeq (sFor (iOf rngF1 (seqR [rVar 1])) (.nm 3) (sSeq (sSet true 4 (eLst (seqR [])))
  (sSeq (sFor (iF (vl (eVar 2))) (.nm 5) (sSeq (sExt 4 (rd (eLc (iOf rngF2 (seqR [rd (e2 (dBin .Add) (rd (eIf (isB (e2 (dCmp .NotEq) (rVar 5) (rd (eTup (seqR []))))) (e2 dIx (rVar 5) (rd (eNeg (rd (eC (.int 1)))))) (eC (.int 0)))) (rd (eC (.int 1)))), rd (e2 (dBin .Add) (rVar 0) (rd (eC (.int 1))))])) (.nm 6) ((fun _ => .ok true)) (vl (e2 (dBin .Add) (rVar 5) (rd (eTup (seqR [vl (eVar 6)]))))) ([6]))))
  (sNext)))
  (sSeq ((fun Γ => (sSet false 2 (eVar 4)) (frz [4] Γ)))
  (sNext)))))
  (sSeq (sRetV 2)
  (sNext)))
def d_picks : List Sl → R O := defF 5 f_picks
def f_widths : Gm → R Out := sSeq (sExpr (rd (eUser d_need_number (seqR [uVar 0, uVal (vl (eC (.int 3))), uVal (vl (eC (.int 30)))]))))
  (sSeq (sExpr (rd (eUser d_need_number (seqR [uVar 1, uVal (vl (eC (.int 1))), uVal (vl (eCall fMin (seqR [rd (eC (.int 3)), rd (e2 (dBin .FloorDiv) (rVar 0) (rd (eC (.int 2))))])))]))))
  (sSeq (sSet true 2 (eLst (seqR [])))
  (sSeq (sFor (iF (vl (eUser d_picks (seqR [uVal (vl (e2 (dBin .FloorDiv) (rVar 0) (rd (eC (.int 2))))), uVar 1])))) (.nm 3) (sSeq (sIf (isB (e2 (dCmp .Eq) (rd (eUser d_pieces_of (seqR [uVal (vl (eTup (seqR [vl (eVar 0), vl (eVar 3)])))]))) (rd (eC (.int 1))))) (sSeq (sApp 2 (vl (eTup (seqR [vl (eCall fMax (seqR [rd (eUser d_steps_of (seqR [uVal (vl (eTup (seqR [vl (eVar 0), vl (eVar 3)])))]))])), vl (eVar 3)]))))
  (sNext)) (sNext))
  (sNext)))
  (sSeq (sRetV 2)
  (sNext)))))
def d_widths : List Sl → R O := defF 2 f_widths
def f_best_wide : Gm → R Out := sSeq (sRet (e2 dIx (rd (eCall fMin (seqR [rd (eUser d_widths (seqR [uVar 0, uVar 1]))]))) (rd (eC (.int 0)))))
  (sNext)
def d_best_wide : List Sl → R O := defF 0 f_best_wide
def f_all_best : Gm → R Out := sSeq (sSet false 2 (eUser d_widths (seqR [uVar 0, uVar 1])))
  (sSeq (sSet false 3 (e2 dIx (rd (eCall fMin (seqR [rVar 2]))) (rd (eC (.int 0)))))
  (sSeq (sRet (eLc (iF (rVar 2)) (.tp [.nm 4, .nm 5]) (isB (e2 (dCmp .Eq) (rVar 4) (rVar 3))) (vl (eVar 5)) ([4, 5])))
  (sNext)))
def d_all_best : List Sl → R O := defF 4 f_all_best
def f_best_leaps : Gm → R Out := sSeq (sRet (e2 dIx (rd (eCall fMin (seqR [rd (eUser d_widths (seqR [uVar 0, uVar 1]))]))) (rd (eC (.int 1)))))
  (sNext)
def d_best_leaps : List Sl → R O := defF 0 f_best_leaps
def f_choose : Gm → R Out := sSeq (sSet false 2 (eC (.int 1)))
  (sSeq (sFor (iOf rngF1 (seqR [rVar 1])) (.nm 3) (sSeq (sSet false 2 (e2 (dBin .FloorDiv) (rd (e2 (dBin .Mult) (rVar 2) (rd (e2 (dBin .Sub) (rVar 0) (rVar 3))))) (rd (e2 (dBin .Add) (rVar 3) (rd (eC (.int 1)))))))
  (sNext)))
  (sSeq (sRetV 2)
  (sNext)))
def d_choose : List Sl → R O := defF 2 f_choose
def f_room_of : Gm → R Out := sSeq (sRet (eCall fSum (seqR [rd (eLc (iOf rngF1 (seqR [rd (e2 (dBin .Add) (rVar 0) (rd (eC (.int 1))))])) (.nm 2) ((fun _ => .ok true)) (vl (e2 (dBin .Mult) (rd (e2 (dBin .Mult) (rd (e2 (dBin .LShift) (rd (eC (.int 1))) (rVar 2))) (rd (eUser d_choose (seqR [uVar 0, uVar 2]))))) (rd (eUser d_choose (seqR [uVar 1, uVar 2]))))) ([2]))])))
  (sNext)
def d_room_of : List Sl → R O := defF 1 f_room_of
def f_room : Gm → R Out := sSeq (sExpr (rd (eUser d_need_number (seqR [uVar 0, uVal (vl (eC (.int 1))), uVal (vl (eC (.int 4)))]))))
  (sSeq (sExpr (rd (eUser d_need_number (seqR [uVar 1, uVal (vl (eC (.int 0))), uVal (vl (eC (.int 100)))]))))
  (sSeq (sRet (eUser d_room_of (seqR [uVar 0, uVar 1])))
  (sNext)))
def d_room : List Sl → R O := defF 0 f_room
def f_least_wide : Gm → R Out := sSeq (sExpr (rd (eUser d_need_number (seqR [uVar 0, uVal (vl (eC (.int 3))), uVal (vl (eC (.int 100)))]))))
  (sSeq (sExpr (rd (eUser d_need_number (seqR [uVar 1, uVal (vl (eC (.int 1))), uVal (vl (eC (.int 4)))]))))
  (sSeq (sSet false 2 (eC (.int 0)))
  (sSeq (whR (isB (e2 (dCmp .Lt) (rd (eUser d_room_of (seqR [uVar 1, uVar 2]))) (rVar 0))) (sSeq (sSet false 2 (e2 (dBin .Add) (rVar 2) (rd (eC (.int 1)))))
  (sNext)) whN)
  (sSeq (sRetV 2)
  (sNext)))))
def d_least_wide : List Sl → R O := defF 1 f_least_wide
def f_tight : Gm → R Out := sSeq (sExpr (rd (eUser d_need_number (seqR [uVar 0, uVal (vl (eC (.int 1))), uVal (vl (eC (.int 6)))]))))
  (sSeq (sRet (eTup (seqR [vl (e2 (dBin .Add) (rd (e2 (dBin .Add) (rd (e2 (dBin .Mult) (rd (e2 (dBin .Mult) (rd (eC (.int 2))) (rVar 0))) (rVar 0))) (rd (e2 (dBin .Mult) (rd (eC (.int 2))) (rVar 0))))) (rd (eC (.int 1)))), vl (eTup (seqR [vl (eVar 0), vl (e2 (dBin .Add) (rVar 0) (rd (eC (.int 1))))]))])))
  (sNext))
def d_tight : List Sl → R O := defF 0 f_tight
end Pr

set_option Elab.async false
set_option linter.all false
set_option maxRecDepth 100000
set_option maxHeartbeats 1000000
namespace Pd
open PySem PySem.Spec L2 Pr

def Rets (r : R Out) (P : O → Prop) : Prop := ∃ o, r = .ok (.rt o) ∧ P o
theorem rets_nx {f g : Gm → R Out} {P : O → Prop} {Γ Γ1 : Gm} (e : f Γ = .ok (.nx Γ1)) (h : Rets (g Γ1) P) : Rets (sSeq f g Γ) P := by
  rw [show sSeq f g Γ = g Γ1 from sSeq_nx e]
  exact h
theorem rets_go {f g : Gm → R Out} {P : O → Prop} {Γ : Gm} (Q : Gm → Prop) (h1 : Go (f Γ) Q) (h : ∀ Γ1, Q Γ1 → Rets (g Γ1) P) : Rets (sSeq f g Γ) P := by
  obtain ⟨Γ1, e, q⟩ := h1
  exact rets_nx e (h Γ1 q)
theorem rets_eq {r : R Out} {P : O → Prop} {o : O} (e : r = .ok (.rt o)) (p : P o) : Rets r P := ⟨o, e, p⟩
theorem rets_def {m : Nat} {f : Gm → R Out} {as : List Sl} {P : O → Prop} (h : Rets (f (as ++ List.replicate m .un)) P) : ∃ o, defF m f as = .ok o ∧ P o := by
  obtain ⟨o, e, p⟩ := h
  exact ⟨o, def_rt e, p⟩
theorem draw_i (c : Int) {k b : Int} (hk : 0 ≤ k) (hk2 : k < 1000000) (hb : 0 < b) (hb2 : b < 1073741824) : ∃ r : Nat, (r : Int) < b ∧ d__law_draw [.val (.int c), .val (.int k), .val (.int b)] = .ok (.v (.int r)) := by
  obtain ⟨r, h, e⟩ := draw_ok c k.toNat b.toNat (by omega) (by omega) (by omega)
  rw [Int.toNat_of_nonneg hk, Int.toNat_of_nonneg (by omega)] at e
  exact ⟨r, by omega, e⟩
theorem cell_i (ns : List Int) (k : Nat) : ∃ c : Int, d__law_cell_at [.val (.scr ns), .val (.int k)] = .ok (.v (.int c)) := cell_v ns k
theorem sortN (ks : List Nat) : ∃ ls : List Nat, sortL (ks.map fun n : Nat => (n : Int)) = ls.map (fun n : Nat => (n : Int)) ∧ ls.Perm ks ∧ ls.Pairwise (· ≤ ·) := by
  have hp := sortL_perm (ks.map fun n : Nat => (n : Int))
  have hs := sortL_sorted (ks.map fun n : Nat => (n : Int))
  have h0 : (sortL (ks.map fun n : Nat => (n : Int))).map (fun i => ((i.toNat : Nat) : Int)) = sortL (ks.map fun n : Nat => (n : Int)) := by
    refine (List.map_congr_left fun i hi => ?_).trans (List.map_id _)
    obtain ⟨n, _, rfl⟩ := List.mem_map.mp (hp.mem_iff.mp hi)
    rfl
  refine ⟨(sortL (ks.map fun n : Nat => (n : Int))).map Int.toNat, ?_, ?_, ?_⟩
  · rw [List.map_map]
    exact h0.symm
  · have := hp.map Int.toNat
    rw [List.map_map] at this
    exact this.trans (by rw [show (Int.toNat ∘ fun n : Nat => (n : Int)) = id from funext fun n => rfl, List.map_id])
  · rw [List.pairwise_map]
    exact hs.imp fun h => by omega
theorem setN (ks : List Nat) : ∃ ls : List Nat, setL (ks.map fun n : Nat => (n : Int)) = ls.map (fun n : Nat => (n : Int)) ∧ (∀ n, n ∈ ls ↔ n ∈ ks) ∧ ls.Pairwise (· < ·) := by
  have hs := setL_ris (ks.map fun n : Nat => (n : Int))
  have h0 : (setL (ks.map fun n : Nat => (n : Int))).map (fun i => ((i.toNat : Nat) : Int)) = setL (ks.map fun n : Nat => (n : Int)) := by
    refine (List.map_congr_left fun i hi => ?_).trans (List.map_id _)
    obtain ⟨n, _, rfl⟩ := List.mem_map.mp (mem_setL.mp hi)
    rfl
  refine ⟨(setL (ks.map fun n : Nat => (n : Int))).map Int.toNat, ?_, fun n => ?_, ?_⟩
  · rw [List.map_map]
    exact h0.symm
  · constructor
    · intro h
      obtain ⟨i, hi, rfl⟩ := List.mem_map.mp h
      obtain ⟨n, hn, rfl⟩ := List.mem_map.mp (mem_setL.mp hi)
      exact hn
    · intro h
      exact List.mem_map.mpr ⟨(n : Int), mem_setL.mpr (List.mem_map_of_mem (f := fun n : Nat => (n : Int)) h), rfl⟩
  · rw [List.pairwise_map]
    have hn : ∀ i ∈ setL (ks.map fun n : Nat => (n : Int)), 0 ≤ i := fun i hi => by
      obtain ⟨n, _, rfl⟩ := List.mem_map.mp (mem_setL.mp hi)
      omega
    exact (List.Pairwise.and_mem.mp hs).imp fun ⟨ha, hb, h⟩ => by have := hn _ ha; have := hn _ hb; omega
theorem ris_ext : ∀ {a b : List Nat}, a.Pairwise (· < ·) → b.Pairwise (· < ·) → (∀ n, n ∈ a ↔ n ∈ b) → a = b
  | [], [], _, _, _ => rfl
  | [], y :: b, _, _, h => absurd ((h y).mpr (List.mem_cons_self ..)) (List.not_mem_nil)
  | x :: a, [], _, _, h => absurd ((h x).mp (List.mem_cons_self ..)) (List.not_mem_nil)
  | x :: a, y :: b, ha, hb, h => by
    rw [List.pairwise_cons] at ha hb
    have e : x = y := by
      have h1 := (h x).mp (List.mem_cons_self ..)
      have h2 := (h y).mpr (List.mem_cons_self ..)
      rw [List.mem_cons] at h1 h2
      rcases h1 with h1 | h1
      · exact h1
      · rcases h2 with h2 | h2
        · exact h2.symm
        · have := ha.1 y h2
          have := hb.1 x h1
          omega
    subst e
    congr 1
    refine ris_ext ha.2 hb.2 fun n => ⟨fun hn => ?_, fun hn => ?_⟩
    · have := (h n).mp (List.mem_cons_of_mem _ hn)
      rw [List.mem_cons] at this
      rcases this with rfl | this
      · exact absurd (ha.1 _ hn) (Nat.lt_irrefl _)
      · exact this
    · have := (h n).mpr (List.mem_cons_of_mem _ hn)
      rw [List.mem_cons] at this
      rcases this with rfl | this
      · exact absurd (hb.1 _ hn) (Nat.lt_irrefl _)
      · exact this
def truD1 (ks : List Nat) : D := .dct (ks.map fun n : Nat => (.int (n : Int), .bl true))
def addN (ks : List Nat) (k : Nat) : List Nat := if k ∈ ks then ks else ks ++ [k]
theorem mem_addN {ks : List Nat} {k n : Nat} : n ∈ addN ks k ↔ n ∈ ks ∨ n = k := by
  unfold addN
  split
  · rename_i h
    exact ⟨.inl, fun x => x.elim id fun e => e ▸ h⟩
  · rw [List.mem_append, List.mem_singleton]
theorem addN_nodup {ks : List Nat} {k : Nat} (h : ks.Nodup) : (addN ks k).Nodup := by
  unfold addN
  split
  · exact h
  · rename_i hn
    rw [List.nodup_append]
    refine ⟨h, by simp, fun a ha b hb e => ?_⟩
    rw [List.mem_singleton] at hb
    exact hn (by rw [← hb, ← e]; exact ha)
theorem addN_len (ks : List Nat) (k : Nat) : (addN ks k).length ≤ ks.length + 1 ∧ 0 < (addN ks k).length ∧ ks.length ≤ (addN ks k).length := by
  unfold addN
  split
  · rename_i h
    have := List.length_pos_of_mem h
    omega
  · rw [List.length_append, List.length_singleton]
    omega
theorem put_tru (ks : List Nat) (k : Nat) : putD (ks.map fun n : Nat => (D.int (n : Int), D.bl true)) (.int k) (.bl true) = (addN ks k).map fun n : Nat => (.int (n : Int), .bl true) := by
  have hi : inKeys (ks.map fun n : Nat => (D.int (n : Int), D.bl true)) (.int k) = decide (k ∈ ks) := by
    unfold inKeys
    rw [List.any_map, Bool.eq_iff_iff, List.any_eq_true, decide_eq_true_eq]
    constructor
    · rintro ⟨n, hn, h⟩
      have : (n : Int) = (k : Int) := of_decide_eq_true h
      obtain rfl : n = k := by omega
      exact hn
    · intro h
      exact ⟨k, h, decide_eq_true rfl⟩
  unfold putD addN
  rw [hi]
  by_cases h : k ∈ ks
  · rw [if_pos (by simp [h]), if_pos h, List.map_map]
    refine List.map_congr_left fun n _ => ?_
    show (if keyEq (D.int n) (D.int k) = true then (D.int n, D.bl true) else (D.int n, D.bl true)) = _
    split <;> rfl
  · rw [if_neg (by simp [h]), if_neg h, List.map_append]
    rfl
theorem sto_tru {ks : List Nat} (k : Nat) (h : ks.length < 1000000) : stoD (truD1 ks) (.int k) (.bl true) = some (truD1 (addN ks k)) := by
  unfold truD1 stoD
  dsimp only
  have hk : kindK (ks.map fun n : Nat => (D.int (n : Int), D.bl true)) (.int (k : Int)) = true := by cases ks <;> rfl
  rw [if_pos ⟨rfl, hk, by rw [List.length_map]; unfold line; omega⟩, put_tru]
theorem ikeys_tru : ∀ ks : List Nat, ikeys (ks.map fun n : Nat => (D.int (n : Int), D.bl true)) = some (ks.map fun n : Nat => (n : Int))
  | [] => rfl
  | k :: ks => by
    rw [List.map_cons, ikeys, ikeys_tru ks]
    rfl
theorem sorted_tru {ks : List Nat} (h0 : 0 < ks.length) (h : ks.length < 64) (hn : ks.Nodup) : ∃ ls : List Nat, fSorted [truD1 ks] = some (.o (.lst (nD ls))) ∧ (∀ n, n ∈ ls ↔ n ∈ ks) ∧ ls.Pairwise (· < ·) ∧ ls.length = ks.length := by
  obtain ⟨ls, e, p, s⟩ := sortN ks
  refine ⟨ls, ?_, fun n => p.mem_iff, ?_, p.length_eq⟩
  · unfold truD1 fSorted
    dsimp only
    rw [ikeys_tru, Option.bind_some, if_pos (by rw [List.length_map]; exact ⟨h0, h⟩), e, List.map_map]
    rfl
  · have hn' : ls.Nodup := p.nodup_iff.mpr hn
    exact (s.and hn').imp fun ⟨a, b⟩ => by omega
structure Ring (m : Nat) (ls : List Nat) : Prop where
  m3 : 3 ≤ m
  m100 : m ≤ 100
  ne : 0 < ls.length
  le4 : ls.length ≤ 4
  ris : ls.Pairwise (· < ·)
  pos : ∀ l ∈ ls, 0 < l
  half : ∀ l ∈ ls, l ≤ m / 2
def ringD (m : Nat) (ls : List Nat) : D := .tup [.int (m : Int), .tup (nD ls)]
theorem min_i (a b : Int) : fMin [.int a, .int b] = some (.v (.int (if b < a then b else a))) := rfl
theorem max_i (a b : Int) : fMax [.int a, .int b] = some (.v (.int (if b > a then b else a))) := rfl
theorem tuple_l (ds : List D) : fTuple [.lst ds] = some (.v (.tup ds)) := rfl
end Pd

set_option Elab.async false
set_option linter.all false
set_option maxRecDepth 100000
set_option maxHeartbeats 1000000
namespace Pd
open PySem PySem.Spec L2 Pr

mutual
/-- data that isinstance knows, all through -/
def okD : D → Bool
  | .tup ds => okDs ds
  | .lst ds => okDs ds
  | .set _ => false
  | .ref _ => false
  | .ty _ => false
  | _ => true
def okDs : List D → Bool
  | [] => true
  | d :: ds => okD d && okDs ds
end
theorem ok_plain {d : D} (h : okD d = true) : plainD d = true := by
  cases d <;> first | rfl | (simp [okD] at h)
def isT : D → Bool
  | .tup _ => true
  | _ => false
theorem all_b {α : Type} (f : α → Bool) (l : List α) : fAll [.lst (l.map fun a => .bl (f a))] = some (.v (.bl (l.all f))) := by
  have : blsOf (l.map fun a => .bl (f a)) = some (l.map f) := by
    induction l with
    | nil => rfl
    | cons a l ih => rw [List.map_cons, blsOf, ih]; rfl
  show (blsOf (l.map fun a => .bl (f a))).map (fun bs => O.v (.bl (bs.all id))) = _
  rw [this, Option.map_some, List.all_map]
  rfl
theorem getD_get {α : Type} {l : List α} {k : Nat} (x : α) (h : k < l.length) : l.getD k x = l[k] := by rw [List.getD_eq_getElem?_getD, List.getElem?_eq_getElem h]; rfl
def risL (l : List Int) : Bool := (List.range (l.length - 1)).all fun k => decide (l.getD k 0 < l.getD (k + 1) 0)
def halfI : D → Int
  | .int x => x / 2
  | _ => 0
def risD (ls : List D) : Bool := match intsOf ls with
  | some l => risL l
  | none => false
def isRing : D → Bool
  | .tup [a, .tup ls] => isNum a 3 100 && ((decide (1 ≤ ls.length) && decide (ls.length ≤ 4)) && ((ls.all fun l => isNum l 1 (halfI a)) && risD ls))
  | _ => false
end Pd

set_option Elab.async false
set_option linter.all false
set_option maxRecDepth 100000
set_option maxHeartbeats 1000000
namespace Pd
open PySem PySem.Spec L2 Pr

theorem add_l {a b : List D} (h : a.length + b.length ≤ 16777216) : dAdd (.lst a) (.lst b) = some (.o (.lst (a ++ b))) := if_pos h
def oddLeaps (m : Nat) (ls : List Nat) : List D := [.int 0, .int (-1), .int ((m : Int) / 2 + 1), .bl true, .non, .str "1", .tup [.int 1], .int m, .int (-((ls.headD 1 : Nat) : Int)), .int 100000000000000000000]
def badRings (m : Nat) (ls : List Nat) (s : Nat) (x : D) : List D :=
  [.tup [.int 2, .tup [.int 1]], .tup [.int 101, .tup [.int 1]], .tup [.bl true, .tup [.int 1]], .tup [.int m, .tup []], .tup [.int m, .lst (nD ls)], .lst [.int m, .tup (nD ls)], .tup [.int m],
   .non, .str "1", .int 7, .dct [], .tup [.int m, .tup (nD ls), .tup []], .tup [.int m, .tup [.int 1, .int 2, .int 3, .int 4, .int 5]], .tup [.str (toString (m : Int)), .tup (nD ls)], .tup [.int m, .non],
   .tup [.int m, .tup ((nD ls).take s ++ [x] ++ (nD ls).drop (s + 1))],
   .tup [.int m, .tup ((nD ls).take s ++ ((nD ls).drop s).take 1 ++ (nD ls).drop s)]]
def badPlaces (m : Nat) : List D := [.int m, .int (-1), .bl true, .non, .str "0", .tup [.int 0], .lst [.int 0], .int ((m : Int) + 10000000000000000000000000000), .int (-100000000000000000000), .dct [], .bl false]
end Pd

set_option Elab.async false
set_option linter.all false
set_option maxRecDepth 100000
set_option maxHeartbeats 1000000
namespace Pd
open PySem PySem.Spec L2 Pr

theorem go_of {α : Type} {fi : Gm → R (List D)} {t : Nat} {b : Gm → R Out} {φ : α → D} {l : List α} (P : List α → Gm → Prop) {Γ : Gm} (e : fi Γ = .ok (l.map φ)) (p : P [] Γ) (h : ∀ (a c : List α) (x : α) (Γ : Gm), l = a ++ x :: c → P a Γ → Go (b (Γ.set t (.val (φ x)))) (P (a ++ [x]))) : Go (sFor fi (.nm t) b Γ) (P l) := by
  rw [show sFor fi (.nm t) b Γ = forR (.nm t) b (l.map φ) Γ from sFor_eq e]
  have : ∀ (r pre : List α) (Γ : Gm), l = pre ++ r → P pre Γ → Go (forR (.nm t) b (r.map φ) Γ) (P l) := by
    intro r
    induction r with
    | nil => intro pre Γ e p; rw [List.append_nil] at e; exact ⟨Γ, by rw [List.map_nil, forR], by rw [e]; exact p⟩
    | cons x r ih =>
      intro pre Γ e p
      obtain ⟨Γ1, e1, p1⟩ := h pre r x Γ e p
      obtain ⟨Γ2, e2, p2⟩ := ih (pre ++ [x]) Γ1 (by rw [e, List.append_assoc]; rfl) p1
      refine ⟨Γ2, ?_, p2⟩
      rw [List.map_cons, forR, Tg.fn, noE_ok', R.bind_ok, e1, R.bind_ok]
      exact e2
  exact this l [] Γ rfl p
def nearN (m : Nat) (ls : List Nat) (p : Nat) : List Nat := (List.range m).filter fun q => ls.any fun l => decide ((p + l) % m = q) || decide ((p + (m - l)) % m = q)
theorem mem_near {m : Nat} {ls : List Nat} {p q : Nat} : q ∈ nearN m ls p ↔ q < m ∧ ∃ l ∈ ls, (p + l) % m = q ∨ (p + (m - l)) % m = q := by
  unfold nearN
  rw [List.mem_filter, List.mem_range, List.any_eq_true]
  simp only [Bool.or_eq_true, decide_eq_true_eq]
theorem near_ris (m : Nat) (ls : List Nat) (p : Nat) : (nearN m ls p).Pairwise (· < ·) := List.pairwise_lt_range.filter _
theorem near_lt {m : Nat} {ls : List Nat} {p q : Nat} (h : q ∈ nearN m ls p) : q < m := (mem_near.mp h).1
theorem near_sub {m p l : Nat} (hl : l ≤ m) (hm : 0 < m) : ((p : Int) - (l : Int)) % (m : Int) = (((p + (m - l)) % m : Nat) : Int) := by
  rw [show (p : Int) - (l : Int) = ((p + (m - l) : Nat) : Int) - (m : Int) by omega, Int.sub_emod_right]
  rfl
theorem beside_v {m : Nat} {ls : List Nat} (R : Ring m ls) (p : Nat) : d_beside [.val (ringD m ls), .val (.int p)] = .ok (.v (.tup (nD (nearN m ls p)))) := by
  have h3 := R.m3
  have h4 := R.le4
  have hne := R.ne
  have h100 := R.m100
  have e1 := lc_of (fi := iF (rVar 4)) (i := 5) (te := vl (e2 (dBin .Mod) (rd (e2 (dBin .Add) (rVar 1) (rVar 5))) (rVar 3))) (vs := [5]) (Γ := [.val (ringD m ls), .val (.int p), .un, .val (.int m), .val (.tup (nD ls)), .un]) (l := ls) (φ := fun n : Nat => .int (n : Int)) (fun l => .int (((p + l) % m : Nat) : Int)) (by
      unfold nD
      simp (implicitDefEqProofs := false) (disch := omega) only [↓r_seq, ↓r_next, ↓r_if, ↓r_eif, ↓r_set, ↓r_ret, ↓r_retV, ↓r_expr, ↓r_asg, ↓r_par, ↓r_app, ↓r_ext, ↓r_sto, ↓r_or1, ↓r_or, ↓r_and1, ↓r_and, ↓r_vor1, ↓r_vor, ↓r_vand1, ↓r_vand, ↓r_not, ↓r_tru, ↓r_isB, ↓r_eC, ↓r_rd, ↓r_vl, ↓r_rV, ↓r_eV, ↓r_uV, ↓r_uVl, ↓r_sq0, ↓r_sq, ↓r_e2, ↓r_e3, ↓r_call, ↓r_user, ↓r_enot, ↓r_eneg, ↓r_tup, ↓r_lst, ↓r_sl, ↓r_noP, ↓r_aP, ↓r_iOf, ↓r_iF, ↓r_def, ↓r_ref, r_seqNx, r_seqRt, r_seqBk, r_seqCt, r_ifT, r_ifF, r_setV, r_setOt, r_setOl, r_setOd, r_setOs, r_retK, r_retVv, r_retVo, r_asgK, r_tgN, r_tgT, r_tgL, r_tgs0, r_tgs, r_parK, r_ownL, r_ownLo, r_ownD, r_ownDo, r_appK, r_appJ, r_extK, r_extJ, r_stoK, r_stoI, r_stoJ, r_stoL, r_orT, r_orF, r_andT, r_andF, r_vorK, r_vorT, r_vorF, r_vandK, r_vandT, r_vandF, r_notK, r_truK, r_truB, r_truI, r_truL, r_truT, r_truN, r_isBK, r_rdV, r_rdO, r_dV, r_dO, r_valV, r_valL, r_valD, r_rVv, r_rVo, r_rVb, r_eVv, r_uVv, r_uVo, r_uVb, r_uVlK, r_sqK, r_consK, r_opK, r_opJ, r_chK, r_chJ, r_chT, r_chF, r_clK, r_ntK, r_ngK, r_tpK, r_lsK, r_slK, r_slJ, r_slI, r_slL, r_slT, r_aPK, r_sqL, r_sqT, r_sqS, r_rtR, r_rtN, r_refO, r_refE, r_wdK, r_bAdd, r_bSub, r_bMul, r_bDiv, r_bMod, r_bPow, r_cLt, r_cLe, r_cGt, r_cGe, r_cEq, r_cNe, r_ixL, r_ixT, r_of, r_lenL, r_lenT, r_lenS, Pd.R.bind_ok, Pd.R.bind_err, Pd.R.bind_stuck, noE_ok', mul_r, div_i, mod_i, add_i, sub_i, lt_i, le_i, gt_i, ge_i, eq_i, ne_i, pow18, List.cons_append, List.nil_append, List.getElem?_cons_zero, List.getElem?_cons_succ, List.replicate_succ, List.replicate_zero, List.set_cons_zero, List.set_cons_succ, List.length_cons, List.length_nil, if_true, if_false, Bool.not_true, Bool.not_false, Bool.false_eq_true, ↓reduceIte, Nat.reduceAdd, Nat.reduceLeDiff, Nat.reduceLT, Nat.zero_add, Option.map_some, Int.cast_ofNat_Int, Int.natCast_one, Int.natCast_zero, Int.reduceBEq, Int.reduceLT, Int.reduceLE, Int.reduceAdd, Int.reduceSub, Int.reduceMul, Int.reduceNeg, Int.reduceDiv, Int.reduceMod, decide_true, decide_false]) (fun l hl => by
      have : ((p : Int) + (l : Int)) % (m : Int) = (((p + l) % m : Nat) : Int) := rfl
      simp (implicitDefEqProofs := false) (disch := omega) only [↓r_seq, ↓r_next, ↓r_if, ↓r_eif, ↓r_set, ↓r_ret, ↓r_retV, ↓r_expr, ↓r_asg, ↓r_par, ↓r_app, ↓r_ext, ↓r_sto, ↓r_or1, ↓r_or, ↓r_and1, ↓r_and, ↓r_vor1, ↓r_vor, ↓r_vand1, ↓r_vand, ↓r_not, ↓r_tru, ↓r_isB, ↓r_eC, ↓r_rd, ↓r_vl, ↓r_rV, ↓r_eV, ↓r_uV, ↓r_uVl, ↓r_sq0, ↓r_sq, ↓r_e2, ↓r_e3, ↓r_call, ↓r_user, ↓r_enot, ↓r_eneg, ↓r_tup, ↓r_lst, ↓r_sl, ↓r_noP, ↓r_aP, ↓r_iOf, ↓r_iF, ↓r_def, ↓r_ref, r_seqNx, r_seqRt, r_seqBk, r_seqCt, r_ifT, r_ifF, r_setV, r_setOt, r_setOl, r_setOd, r_setOs, r_retK, r_retVv, r_retVo, r_asgK, r_tgN, r_tgT, r_tgL, r_tgs0, r_tgs, r_parK, r_ownL, r_ownLo, r_ownD, r_ownDo, r_appK, r_appJ, r_extK, r_extJ, r_stoK, r_stoI, r_stoJ, r_stoL, r_orT, r_orF, r_andT, r_andF, r_vorK, r_vorT, r_vorF, r_vandK, r_vandT, r_vandF, r_notK, r_truK, r_truB, r_truI, r_truL, r_truT, r_truN, r_isBK, r_rdV, r_rdO, r_dV, r_dO, r_valV, r_valL, r_valD, r_rVv, r_rVo, r_rVb, r_eVv, r_uVv, r_uVo, r_uVb, r_uVlK, r_sqK, r_consK, r_opK, r_opJ, r_chK, r_chJ, r_chT, r_chF, r_clK, r_ntK, r_ngK, r_tpK, r_lsK, r_slK, r_slJ, r_slI, r_slL, r_slT, r_aPK, r_sqL, r_sqT, r_sqS, r_rtR, r_rtN, r_refO, r_refE, r_wdK, r_bAdd, r_bSub, r_bMul, r_bDiv, r_bMod, r_bPow, r_cLt, r_cLe, r_cGt, r_cGe, r_cEq, r_cNe, r_ixL, r_ixT, r_of, r_lenL, r_lenT, r_lenS, Pd.R.bind_ok, Pd.R.bind_err, Pd.R.bind_stuck, noE_ok', mul_r, div_i, mod_i, add_i, sub_i, lt_i, le_i, gt_i, ge_i, eq_i, ne_i, pow18, List.cons_append, List.nil_append, List.getElem?_cons_zero, List.getElem?_cons_succ, List.replicate_succ, List.replicate_zero, List.set_cons_zero, List.set_cons_succ, List.length_cons, List.length_nil, if_true, if_false, Bool.not_true, Bool.not_false, Bool.false_eq_true, ↓reduceIte, Nat.reduceAdd, Nat.reduceLeDiff, Nat.reduceLT, Nat.zero_add, Option.map_some, Int.cast_ofNat_Int, Int.natCast_one, Int.natCast_zero, Int.reduceBEq, Int.reduceLT, Int.reduceLE, Int.reduceAdd, Int.reduceSub, Int.reduceMul, Int.reduceNeg, Int.reduceDiv, Int.reduceMod, decide_true, decide_false, wipeG, this])
  have e2' := lc_of (fi := iF (rVar 4)) (i := 5) (te := vl (e2 (dBin .Mod) (rd (e2 (dBin .Sub) (rVar 1) (rVar 5))) (rVar 3))) (vs := [5]) (Γ := [.val (ringD m ls), .val (.int p), .un, .val (.int m), .val (.tup (nD ls)), .un]) (l := ls) (φ := fun n : Nat => .int (n : Int)) (fun l => .int (((p + (m - l)) % m : Nat) : Int)) (by
      unfold nD
      simp (implicitDefEqProofs := false) (disch := omega) only [↓r_seq, ↓r_next, ↓r_if, ↓r_eif, ↓r_set, ↓r_ret, ↓r_retV, ↓r_expr, ↓r_asg, ↓r_par, ↓r_app, ↓r_ext, ↓r_sto, ↓r_or1, ↓r_or, ↓r_and1, ↓r_and, ↓r_vor1, ↓r_vor, ↓r_vand1, ↓r_vand, ↓r_not, ↓r_tru, ↓r_isB, ↓r_eC, ↓r_rd, ↓r_vl, ↓r_rV, ↓r_eV, ↓r_uV, ↓r_uVl, ↓r_sq0, ↓r_sq, ↓r_e2, ↓r_e3, ↓r_call, ↓r_user, ↓r_enot, ↓r_eneg, ↓r_tup, ↓r_lst, ↓r_sl, ↓r_noP, ↓r_aP, ↓r_iOf, ↓r_iF, ↓r_def, ↓r_ref, r_seqNx, r_seqRt, r_seqBk, r_seqCt, r_ifT, r_ifF, r_setV, r_setOt, r_setOl, r_setOd, r_setOs, r_retK, r_retVv, r_retVo, r_asgK, r_tgN, r_tgT, r_tgL, r_tgs0, r_tgs, r_parK, r_ownL, r_ownLo, r_ownD, r_ownDo, r_appK, r_appJ, r_extK, r_extJ, r_stoK, r_stoI, r_stoJ, r_stoL, r_orT, r_orF, r_andT, r_andF, r_vorK, r_vorT, r_vorF, r_vandK, r_vandT, r_vandF, r_notK, r_truK, r_truB, r_truI, r_truL, r_truT, r_truN, r_isBK, r_rdV, r_rdO, r_dV, r_dO, r_valV, r_valL, r_valD, r_rVv, r_rVo, r_rVb, r_eVv, r_uVv, r_uVo, r_uVb, r_uVlK, r_sqK, r_consK, r_opK, r_opJ, r_chK, r_chJ, r_chT, r_chF, r_clK, r_ntK, r_ngK, r_tpK, r_lsK, r_slK, r_slJ, r_slI, r_slL, r_slT, r_aPK, r_sqL, r_sqT, r_sqS, r_rtR, r_rtN, r_refO, r_refE, r_wdK, r_bAdd, r_bSub, r_bMul, r_bDiv, r_bMod, r_bPow, r_cLt, r_cLe, r_cGt, r_cGe, r_cEq, r_cNe, r_ixL, r_ixT, r_of, r_lenL, r_lenT, r_lenS, Pd.R.bind_ok, Pd.R.bind_err, Pd.R.bind_stuck, noE_ok', mul_r, div_i, mod_i, add_i, sub_i, lt_i, le_i, gt_i, ge_i, eq_i, ne_i, pow18, List.cons_append, List.nil_append, List.getElem?_cons_zero, List.getElem?_cons_succ, List.replicate_succ, List.replicate_zero, List.set_cons_zero, List.set_cons_succ, List.length_cons, List.length_nil, if_true, if_false, Bool.not_true, Bool.not_false, Bool.false_eq_true, ↓reduceIte, Nat.reduceAdd, Nat.reduceLeDiff, Nat.reduceLT, Nat.zero_add, Option.map_some, Int.cast_ofNat_Int, Int.natCast_one, Int.natCast_zero, Int.reduceBEq, Int.reduceLT, Int.reduceLE, Int.reduceAdd, Int.reduceSub, Int.reduceMul, Int.reduceNeg, Int.reduceDiv, Int.reduceMod, decide_true, decide_false]) (fun l hl => by
      have := near_sub (m := m) (p := p) (l := l) (by have := R.half l hl; omega) (by omega)
      simp (implicitDefEqProofs := false) (disch := omega) only [↓r_seq, ↓r_next, ↓r_if, ↓r_eif, ↓r_set, ↓r_ret, ↓r_retV, ↓r_expr, ↓r_asg, ↓r_par, ↓r_app, ↓r_ext, ↓r_sto, ↓r_or1, ↓r_or, ↓r_and1, ↓r_and, ↓r_vor1, ↓r_vor, ↓r_vand1, ↓r_vand, ↓r_not, ↓r_tru, ↓r_isB, ↓r_eC, ↓r_rd, ↓r_vl, ↓r_rV, ↓r_eV, ↓r_uV, ↓r_uVl, ↓r_sq0, ↓r_sq, ↓r_e2, ↓r_e3, ↓r_call, ↓r_user, ↓r_enot, ↓r_eneg, ↓r_tup, ↓r_lst, ↓r_sl, ↓r_noP, ↓r_aP, ↓r_iOf, ↓r_iF, ↓r_def, ↓r_ref, r_seqNx, r_seqRt, r_seqBk, r_seqCt, r_ifT, r_ifF, r_setV, r_setOt, r_setOl, r_setOd, r_setOs, r_retK, r_retVv, r_retVo, r_asgK, r_tgN, r_tgT, r_tgL, r_tgs0, r_tgs, r_parK, r_ownL, r_ownLo, r_ownD, r_ownDo, r_appK, r_appJ, r_extK, r_extJ, r_stoK, r_stoI, r_stoJ, r_stoL, r_orT, r_orF, r_andT, r_andF, r_vorK, r_vorT, r_vorF, r_vandK, r_vandT, r_vandF, r_notK, r_truK, r_truB, r_truI, r_truL, r_truT, r_truN, r_isBK, r_rdV, r_rdO, r_dV, r_dO, r_valV, r_valL, r_valD, r_rVv, r_rVo, r_rVb, r_eVv, r_uVv, r_uVo, r_uVb, r_uVlK, r_sqK, r_consK, r_opK, r_opJ, r_chK, r_chJ, r_chT, r_chF, r_clK, r_ntK, r_ngK, r_tpK, r_lsK, r_slK, r_slJ, r_slI, r_slL, r_slT, r_aPK, r_sqL, r_sqT, r_sqS, r_rtR, r_rtN, r_refO, r_refE, r_wdK, r_bAdd, r_bSub, r_bMul, r_bDiv, r_bMod, r_bPow, r_cLt, r_cLe, r_cGt, r_cGe, r_cEq, r_cNe, r_ixL, r_ixT, r_of, r_lenL, r_lenT, r_lenS, Pd.R.bind_ok, Pd.R.bind_err, Pd.R.bind_stuck, noE_ok', mul_r, div_i, mod_i, add_i, sub_i, lt_i, le_i, gt_i, ge_i, eq_i, ne_i, pow18, List.cons_append, List.nil_append, List.getElem?_cons_zero, List.getElem?_cons_succ, List.replicate_succ, List.replicate_zero, List.set_cons_zero, List.set_cons_succ, List.length_cons, List.length_nil, if_true, if_false, Bool.not_true, Bool.not_false, Bool.false_eq_true, ↓reduceIte, Nat.reduceAdd, Nat.reduceLeDiff, Nat.reduceLT, Nat.zero_add, Option.map_some, Int.cast_ofNat_Int, Int.natCast_one, Int.natCast_zero, Int.reduceBEq, Int.reduceLT, Int.reduceLE, Int.reduceAdd, Int.reduceSub, Int.reduceMul, Int.reduceNeg, Int.reduceDiv, Int.reduceMod, decide_true, decide_false, wipeG, this])
  have ea : dAdd (.lst (ls.map fun l => .int (((p + l) % m : Nat) : Int))) (.lst (ls.map fun l => .int (((p + (m - l)) % m : Nat) : Int))) = some (.o (.lst (nD ((ls.map fun l => (p + l) % m) ++ (ls.map fun l => (p + (m - l)) % m))))) := by
    rw [add_l (by rw [List.length_map, List.length_map]; omega)]
    unfold nD
    rw [List.map_append, List.map_map, List.map_map]
    rfl
  obtain ⟨q, e3, e4, e5⟩ := setN ((ls.map fun l => (p + l) % m) ++ (ls.map fun l => (p + (m - l)) % m))
  have e6 : setF (.lst (nD ((ls.map fun l => (p + l) % m) ++ (ls.map fun l => (p + (m - l)) % m)))) = .ok (q.map fun n : Nat => (n : Int)) := by
    unfold setF
    dsimp only
    rw [nD_iD, intsOf_iD, Pd.R.of_some, Pd.R.bind_ok, if_pos (by rw [List.length_map, List.length_append, List.length_map, List.length_map]; omega), e3]
  have e7 : q = nearN m ls p := by
    refine ris_ext e5 (near_ris m ls p) fun n => ?_
    rw [e4, mem_near, List.mem_append, List.mem_map, List.mem_map]
    constructor
    · rintro (⟨l, hl, rfl⟩ | ⟨l, hl, rfl⟩)
      · exact ⟨Nat.mod_lt _ (by omega), l, hl, .inl rfl⟩
      · exact ⟨Nat.mod_lt _ (by omega), l, hl, .inr rfl⟩
    · rintro ⟨_, l, hl, h | h⟩
      · exact .inl ⟨l, hl, h⟩
      · exact .inr ⟨l, hl, h⟩
  unfold d_beside
  refine def_rt ?_
  unfold f_beside
  show sSeq _ _ [.val (ringD m ls), .val (.int p), .un, .un, .un, .un] = _
  refine seq_nx (Γ1 := [.val (ringD m ls), .val (.int p), .un, .val (.int m), .val (.tup (nD ls)), .un]) ?_ ?_
  · unfold ringD
    simp (implicitDefEqProofs := false) (disch := omega) only [↓r_seq, ↓r_next, ↓r_if, ↓r_eif, ↓r_set, ↓r_ret, ↓r_retV, ↓r_expr, ↓r_asg, ↓r_par, ↓r_app, ↓r_ext, ↓r_sto, ↓r_or1, ↓r_or, ↓r_and1, ↓r_and, ↓r_vor1, ↓r_vor, ↓r_vand1, ↓r_vand, ↓r_not, ↓r_tru, ↓r_isB, ↓r_eC, ↓r_rd, ↓r_vl, ↓r_rV, ↓r_eV, ↓r_uV, ↓r_uVl, ↓r_sq0, ↓r_sq, ↓r_e2, ↓r_e3, ↓r_call, ↓r_user, ↓r_enot, ↓r_eneg, ↓r_tup, ↓r_lst, ↓r_sl, ↓r_noP, ↓r_aP, ↓r_iOf, ↓r_iF, ↓r_def, ↓r_ref, r_seqNx, r_seqRt, r_seqBk, r_seqCt, r_ifT, r_ifF, r_setV, r_setOt, r_setOl, r_setOd, r_setOs, r_retK, r_retVv, r_retVo, r_asgK, r_tgN, r_tgT, r_tgL, r_tgs0, r_tgs, r_parK, r_ownL, r_ownLo, r_ownD, r_ownDo, r_appK, r_appJ, r_extK, r_extJ, r_stoK, r_stoI, r_stoJ, r_stoL, r_orT, r_orF, r_andT, r_andF, r_vorK, r_vorT, r_vorF, r_vandK, r_vandT, r_vandF, r_notK, r_truK, r_truB, r_truI, r_truL, r_truT, r_truN, r_isBK, r_rdV, r_rdO, r_dV, r_dO, r_valV, r_valL, r_valD, r_rVv, r_rVo, r_rVb, r_eVv, r_uVv, r_uVo, r_uVb, r_uVlK, r_sqK, r_consK, r_opK, r_opJ, r_chK, r_chJ, r_chT, r_chF, r_clK, r_ntK, r_ngK, r_tpK, r_lsK, r_slK, r_slJ, r_slI, r_slL, r_slT, r_aPK, r_sqL, r_sqT, r_sqS, r_rtR, r_rtN, r_refO, r_refE, r_wdK, r_bAdd, r_bSub, r_bMul, r_bDiv, r_bMod, r_bPow, r_cLt, r_cLe, r_cGt, r_cGe, r_cEq, r_cNe, r_ixL, r_ixT, r_of, r_lenL, r_lenT, r_lenS, Pd.R.bind_ok, Pd.R.bind_err, Pd.R.bind_stuck, noE_ok', mul_r, div_i, mod_i, add_i, sub_i, lt_i, le_i, gt_i, ge_i, eq_i, ne_i, pow18, List.cons_append, List.nil_append, List.getElem?_cons_zero, List.getElem?_cons_succ, List.replicate_succ, List.replicate_zero, List.set_cons_zero, List.set_cons_succ, List.length_cons, List.length_nil, if_true, if_false, Bool.not_true, Bool.not_false, Bool.false_eq_true, ↓reduceIte, Nat.reduceAdd, Nat.reduceLeDiff, Nat.reduceLT, Nat.zero_add, Option.map_some, Int.cast_ofNat_Int, Int.natCast_one, Int.natCast_zero, Int.reduceBEq, Int.reduceLT, Int.reduceLE, Int.reduceAdd, Int.reduceSub, Int.reduceMul, Int.reduceNeg, Int.reduceDiv, Int.reduceMod, decide_true, decide_false]
  refine seq_nx (Γ1 := [.val (ringD m ls), .val (.int p), .val (.lst (nD ((ls.map fun l => (p + l) % m) ++ (ls.map fun l => (p + (m - l)) % m)))), .val (.int m), .val (.tup (nD ls)), .un]) ?_ ?_
  · simp (implicitDefEqProofs := false) (disch := omega) only [↓r_seq, ↓r_next, ↓r_if, ↓r_eif, ↓r_set, ↓r_ret, ↓r_retV, ↓r_expr, ↓r_asg, ↓r_par, ↓r_app, ↓r_ext, ↓r_sto, ↓r_or1, ↓r_or, ↓r_and1, ↓r_and, ↓r_vor1, ↓r_vor, ↓r_vand1, ↓r_vand, ↓r_not, ↓r_tru, ↓r_isB, ↓r_eC, ↓r_rd, ↓r_vl, ↓r_rV, ↓r_eV, ↓r_uV, ↓r_uVl, ↓r_sq0, ↓r_sq, ↓r_e2, ↓r_e3, ↓r_call, ↓r_user, ↓r_enot, ↓r_eneg, ↓r_tup, ↓r_lst, ↓r_sl, ↓r_noP, ↓r_aP, ↓r_iOf, ↓r_iF, ↓r_def, ↓r_ref, r_seqNx, r_seqRt, r_seqBk, r_seqCt, r_ifT, r_ifF, r_setV, r_setOt, r_setOl, r_setOd, r_setOs, r_retK, r_retVv, r_retVo, r_asgK, r_tgN, r_tgT, r_tgL, r_tgs0, r_tgs, r_parK, r_ownL, r_ownLo, r_ownD, r_ownDo, r_appK, r_appJ, r_extK, r_extJ, r_stoK, r_stoI, r_stoJ, r_stoL, r_orT, r_orF, r_andT, r_andF, r_vorK, r_vorT, r_vorF, r_vandK, r_vandT, r_vandF, r_notK, r_truK, r_truB, r_truI, r_truL, r_truT, r_truN, r_isBK, r_rdV, r_rdO, r_dV, r_dO, r_valV, r_valL, r_valD, r_rVv, r_rVo, r_rVb, r_eVv, r_uVv, r_uVo, r_uVb, r_uVlK, r_sqK, r_consK, r_opK, r_opJ, r_chK, r_chJ, r_chT, r_chF, r_clK, r_ntK, r_ngK, r_tpK, r_lsK, r_slK, r_slJ, r_slI, r_slL, r_slT, r_aPK, r_sqL, r_sqT, r_sqS, r_rtR, r_rtN, r_refO, r_refE, r_wdK, r_bAdd, r_bSub, r_bMul, r_bDiv, r_bMod, r_bPow, r_cLt, r_cLe, r_cGt, r_cGe, r_cEq, r_cNe, r_ixL, r_ixT, r_of, r_lenL, r_lenT, r_lenS, Pd.R.bind_ok, Pd.R.bind_err, Pd.R.bind_stuck, noE_ok', mul_r, div_i, mod_i, add_i, sub_i, lt_i, le_i, gt_i, ge_i, eq_i, ne_i, pow18, List.cons_append, List.nil_append, List.getElem?_cons_zero, List.getElem?_cons_succ, List.replicate_succ, List.replicate_zero, List.set_cons_zero, List.set_cons_succ, List.length_cons, List.length_nil, if_true, if_false, Bool.not_true, Bool.not_false, Bool.false_eq_true, ↓reduceIte, Nat.reduceAdd, Nat.reduceLeDiff, Nat.reduceLT, Nat.zero_add, Option.map_some, Int.cast_ofNat_Int, Int.natCast_one, Int.natCast_zero, Int.reduceBEq, Int.reduceLT, Int.reduceLE, Int.reduceAdd, Int.reduceSub, Int.reduceMul, Int.reduceNeg, Int.reduceDiv, Int.reduceMod, decide_true, decide_false, e1, e2', ea]
  have e8 : (q.map fun n : Nat => (n : Int)).map D.int = nD (nearN m ls p) := by rw [e7, nD_iD]; rfl
  simp (implicitDefEqProofs := false) (disch := omega) only [↓r_seq, ↓r_next, ↓r_if, ↓r_eif, ↓r_set, ↓r_ret, ↓r_retV, ↓r_expr, ↓r_asg, ↓r_par, ↓r_app, ↓r_ext, ↓r_sto, ↓r_or1, ↓r_or, ↓r_and1, ↓r_and, ↓r_vor1, ↓r_vor, ↓r_vand1, ↓r_vand, ↓r_not, ↓r_tru, ↓r_isB, ↓r_eC, ↓r_rd, ↓r_vl, ↓r_rV, ↓r_eV, ↓r_uV, ↓r_uVl, ↓r_sq0, ↓r_sq, ↓r_e2, ↓r_e3, ↓r_call, ↓r_user, ↓r_enot, ↓r_eneg, ↓r_tup, ↓r_lst, ↓r_sl, ↓r_noP, ↓r_aP, ↓r_iOf, ↓r_iF, ↓r_def, ↓r_ref, r_seqNx, r_seqRt, r_seqBk, r_seqCt, r_ifT, r_ifF, r_setV, r_setOt, r_setOl, r_setOd, r_setOs, r_retK, r_retVv, r_retVo, r_asgK, r_tgN, r_tgT, r_tgL, r_tgs0, r_tgs, r_parK, r_ownL, r_ownLo, r_ownD, r_ownDo, r_appK, r_appJ, r_extK, r_extJ, r_stoK, r_stoI, r_stoJ, r_stoL, r_orT, r_orF, r_andT, r_andF, r_vorK, r_vorT, r_vorF, r_vandK, r_vandT, r_vandF, r_notK, r_truK, r_truB, r_truI, r_truL, r_truT, r_truN, r_isBK, r_rdV, r_rdO, r_dV, r_dO, r_valV, r_valL, r_valD, r_rVv, r_rVo, r_rVb, r_eVv, r_uVv, r_uVo, r_uVb, r_uVlK, r_sqK, r_consK, r_opK, r_opJ, r_chK, r_chJ, r_chT, r_chF, r_clK, r_ntK, r_ngK, r_tpK, r_lsK, r_slK, r_slJ, r_slI, r_slL, r_slT, r_aPK, r_sqL, r_sqT, r_sqS, r_rtR, r_rtN, r_refO, r_refE, r_wdK, r_bAdd, r_bSub, r_bMul, r_bDiv, r_bMod, r_bPow, r_cLt, r_cLe, r_cGt, r_cGe, r_cEq, r_cNe, r_ixL, r_ixT, r_of, r_lenL, r_lenT, r_lenS, Pd.R.bind_ok, Pd.R.bind_err, Pd.R.bind_stuck, noE_ok', mul_r, div_i, mod_i, add_i, sub_i, lt_i, le_i, gt_i, ge_i, eq_i, ne_i, pow18, List.cons_append, List.nil_append, List.getElem?_cons_zero, List.getElem?_cons_succ, List.replicate_succ, List.replicate_zero, List.set_cons_zero, List.set_cons_succ, List.length_cons, List.length_nil, if_true, if_false, Bool.not_true, Bool.not_false, Bool.false_eq_true, ↓reduceIte, Nat.reduceAdd, Nat.reduceLeDiff, Nat.reduceLT, Nat.zero_add, Option.map_some, Int.cast_ofNat_Int, Int.natCast_one, Int.natCast_zero, Int.reduceBEq, Int.reduceLT, Int.reduceLE, Int.reduceAdd, Int.reduceSub, Int.reduceMul, Int.reduceNeg, Int.reduceDiv, Int.reduceMod, decide_true, decide_false, eSortSet, e6, e8, tuple_l]
theorem lnear_v {m : Nat} {ls : List Nat} (R : Ring m ls) (p : Nat) : d__law_near [.val (ringD m ls), .val (.int p)] = .ok (.o (.lst (nD (nearN m ls p)))) := by
  have h3 := R.m3
  have h4 := R.le4
  have hne := R.ne
  have h100 := R.m100
  suffices hgo : ∃ o, d__law_near [.val (ringD m ls), .val (.int p)] = .ok o ∧ o = .o (.lst (nD (nearN m ls p))) by
    obtain ⟨o, e, rfl⟩ := hgo
    exact e
  unfold d__law_near
  refine rets_def ?_
  unfold f__law_near
  show Rets (sSeq _ _ [.val (ringD m ls), .val (.int p), .un, .un, .un, .un]) _
  refine rets_nx (Γ1 := [.val (ringD m ls), .val (.int p), .un, .un, .val (.int m), .val (.tup (nD ls))]) ?_ ?_
  · unfold ringD
    simp (implicitDefEqProofs := false) (disch := omega) only [↓r_seq, ↓r_next, ↓r_if, ↓r_eif, ↓r_set, ↓r_ret, ↓r_retV, ↓r_expr, ↓r_asg, ↓r_par, ↓r_app, ↓r_ext, ↓r_sto, ↓r_or1, ↓r_or, ↓r_and1, ↓r_and, ↓r_vor1, ↓r_vor, ↓r_vand1, ↓r_vand, ↓r_not, ↓r_tru, ↓r_isB, ↓r_eC, ↓r_rd, ↓r_vl, ↓r_rV, ↓r_eV, ↓r_uV, ↓r_uVl, ↓r_sq0, ↓r_sq, ↓r_e2, ↓r_e3, ↓r_call, ↓r_user, ↓r_enot, ↓r_eneg, ↓r_tup, ↓r_lst, ↓r_sl, ↓r_noP, ↓r_aP, ↓r_iOf, ↓r_iF, ↓r_def, ↓r_ref, r_seqNx, r_seqRt, r_seqBk, r_seqCt, r_ifT, r_ifF, r_setV, r_setOt, r_setOl, r_setOd, r_setOs, r_retK, r_retVv, r_retVo, r_asgK, r_tgN, r_tgT, r_tgL, r_tgs0, r_tgs, r_parK, r_ownL, r_ownLo, r_ownD, r_ownDo, r_appK, r_appJ, r_extK, r_extJ, r_stoK, r_stoI, r_stoJ, r_stoL, r_orT, r_orF, r_andT, r_andF, r_vorK, r_vorT, r_vorF, r_vandK, r_vandT, r_vandF, r_notK, r_truK, r_truB, r_truI, r_truL, r_truT, r_truN, r_isBK, r_rdV, r_rdO, r_dV, r_dO, r_valV, r_valL, r_valD, r_rVv, r_rVo, r_rVb, r_eVv, r_uVv, r_uVo, r_uVb, r_uVlK, r_sqK, r_consK, r_opK, r_opJ, r_chK, r_chJ, r_chT, r_chF, r_clK, r_ntK, r_ngK, r_tpK, r_lsK, r_slK, r_slJ, r_slI, r_slL, r_slT, r_aPK, r_sqL, r_sqT, r_sqS, r_rtR, r_rtN, r_refO, r_refE, r_wdK, r_bAdd, r_bSub, r_bMul, r_bDiv, r_bMod, r_bPow, r_cLt, r_cLe, r_cGt, r_cGe, r_cEq, r_cNe, r_ixL, r_ixT, r_of, r_lenL, r_lenT, r_lenS, Pd.R.bind_ok, Pd.R.bind_err, Pd.R.bind_stuck, noE_ok', mul_r, div_i, mod_i, add_i, sub_i, lt_i, le_i, gt_i, ge_i, eq_i, ne_i, pow18, List.cons_append, List.nil_append, List.getElem?_cons_zero, List.getElem?_cons_succ, List.replicate_succ, List.replicate_zero, List.set_cons_zero, List.set_cons_succ, List.length_cons, List.length_nil, if_true, if_false, Bool.not_true, Bool.not_false, Bool.false_eq_true, ↓reduceIte, Nat.reduceAdd, Nat.reduceLeDiff, Nat.reduceLT, Nat.zero_add, Option.map_some, Int.cast_ofNat_Int, Int.natCast_one, Int.natCast_zero, Int.reduceBEq, Int.reduceLT, Int.reduceLE, Int.reduceAdd, Int.reduceSub, Int.reduceMul, Int.reduceNeg, Int.reduceDiv, Int.reduceMod, decide_true, decide_false]
  refine rets_nx (Γ1 := [.val (ringD m ls), .val (.int p), .own (truD1 []), .un, .val (.int m), .val (.tup (nD ls))]) ?_ ?_
  · simp (implicitDefEqProofs := false) (disch := omega) only [↓r_seq, ↓r_next, ↓r_if, ↓r_eif, ↓r_set, ↓r_ret, ↓r_retV, ↓r_expr, ↓r_asg, ↓r_par, ↓r_app, ↓r_ext, ↓r_sto, ↓r_or1, ↓r_or, ↓r_and1, ↓r_and, ↓r_vor1, ↓r_vor, ↓r_vand1, ↓r_vand, ↓r_not, ↓r_tru, ↓r_isB, ↓r_eC, ↓r_rd, ↓r_vl, ↓r_rV, ↓r_eV, ↓r_uV, ↓r_uVl, ↓r_sq0, ↓r_sq, ↓r_e2, ↓r_e3, ↓r_call, ↓r_user, ↓r_enot, ↓r_eneg, ↓r_tup, ↓r_lst, ↓r_sl, ↓r_noP, ↓r_aP, ↓r_iOf, ↓r_iF, ↓r_def, ↓r_ref, r_seqNx, r_seqRt, r_seqBk, r_seqCt, r_ifT, r_ifF, r_setV, r_setOt, r_setOl, r_setOd, r_setOs, r_retK, r_retVv, r_retVo, r_asgK, r_tgN, r_tgT, r_tgL, r_tgs0, r_tgs, r_parK, r_ownL, r_ownLo, r_ownD, r_ownDo, r_appK, r_appJ, r_extK, r_extJ, r_stoK, r_stoI, r_stoJ, r_stoL, r_orT, r_orF, r_andT, r_andF, r_vorK, r_vorT, r_vorF, r_vandK, r_vandT, r_vandF, r_notK, r_truK, r_truB, r_truI, r_truL, r_truT, r_truN, r_isBK, r_rdV, r_rdO, r_dV, r_dO, r_valV, r_valL, r_valD, r_rVv, r_rVo, r_rVb, r_eVv, r_uVv, r_uVo, r_uVb, r_uVlK, r_sqK, r_consK, r_opK, r_opJ, r_chK, r_chJ, r_chT, r_chF, r_clK, r_ntK, r_ngK, r_tpK, r_lsK, r_slK, r_slJ, r_slI, r_slL, r_slT, r_aPK, r_sqL, r_sqT, r_sqS, r_rtR, r_rtN, r_refO, r_refE, r_wdK, r_bAdd, r_bSub, r_bMul, r_bDiv, r_bMod, r_bPow, r_cLt, r_cLe, r_cGt, r_cGe, r_cEq, r_cNe, r_ixL, r_ixT, r_of, r_lenL, r_lenT, r_lenS, Pd.R.bind_ok, Pd.R.bind_err, Pd.R.bind_stuck, noE_ok', mul_r, div_i, mod_i, add_i, sub_i, lt_i, le_i, gt_i, ge_i, eq_i, ne_i, pow18, List.cons_append, List.nil_append, List.getElem?_cons_zero, List.getElem?_cons_succ, List.replicate_succ, List.replicate_zero, List.set_cons_zero, List.set_cons_succ, List.length_cons, List.length_nil, if_true, if_false, Bool.not_true, Bool.not_false, Bool.false_eq_true, ↓reduceIte, Nat.reduceAdd, Nat.reduceLeDiff, Nat.reduceLT, Nat.zero_add, Option.map_some, Int.cast_ofNat_Int, Int.natCast_one, Int.natCast_zero, Int.reduceBEq, Int.reduceLT, Int.reduceLE, Int.reduceAdd, Int.reduceSub, Int.reduceMul, Int.reduceNeg, Int.reduceDiv, Int.reduceMod, decide_true, decide_false]
    rfl
  refine rets_go (fun Γ => ∃ (ks : List Nat) (s3 : Sl), ks.Nodup ∧ ks.length ≤ 2 * ls.length ∧ (0 < ls.length → 0 < ks.length) ∧ (∀ n, n ∈ ks ↔ ∃ l ∈ ls, (p + l) % m = n ∨ (p + (m - l)) % m = n) ∧ Γ = [.val (ringD m ls), .val (.int p), .own (truD1 ks), s3, .val (.int m), .val (.tup (nD ls))])
    (go_of (φ := fun n : Nat => .int (n : Int)) (l := ls) (fun a Γ => ∃ (ks : List Nat) (s3 : Sl), ks.Nodup ∧ ks.length ≤ 2 * a.length ∧ (0 < a.length → 0 < ks.length) ∧ (∀ n, n ∈ ks ↔ ∃ l ∈ a, (p + l) % m = n ∨ (p + (m - l)) % m = n) ∧ Γ = [.val (ringD m ls), .val (.int p), .own (truD1 ks), s3, .val (.int m), .val (.tup (nD ls))]) ?_ ?_ ?_) ?_
  · unfold nD
    simp (implicitDefEqProofs := false) (disch := omega) only [↓r_seq, ↓r_next, ↓r_if, ↓r_eif, ↓r_set, ↓r_ret, ↓r_retV, ↓r_expr, ↓r_asg, ↓r_par, ↓r_app, ↓r_ext, ↓r_sto, ↓r_or1, ↓r_or, ↓r_and1, ↓r_and, ↓r_vor1, ↓r_vor, ↓r_vand1, ↓r_vand, ↓r_not, ↓r_tru, ↓r_isB, ↓r_eC, ↓r_rd, ↓r_vl, ↓r_rV, ↓r_eV, ↓r_uV, ↓r_uVl, ↓r_sq0, ↓r_sq, ↓r_e2, ↓r_e3, ↓r_call, ↓r_user, ↓r_enot, ↓r_eneg, ↓r_tup, ↓r_lst, ↓r_sl, ↓r_noP, ↓r_aP, ↓r_iOf, ↓r_iF, ↓r_def, ↓r_ref, r_seqNx, r_seqRt, r_seqBk, r_seqCt, r_ifT, r_ifF, r_setV, r_setOt, r_setOl, r_setOd, r_setOs, r_retK, r_retVv, r_retVo, r_asgK, r_tgN, r_tgT, r_tgL, r_tgs0, r_tgs, r_parK, r_ownL, r_ownLo, r_ownD, r_ownDo, r_appK, r_appJ, r_extK, r_extJ, r_stoK, r_stoI, r_stoJ, r_stoL, r_orT, r_orF, r_andT, r_andF, r_vorK, r_vorT, r_vorF, r_vandK, r_vandT, r_vandF, r_notK, r_truK, r_truB, r_truI, r_truL, r_truT, r_truN, r_isBK, r_rdV, r_rdO, r_dV, r_dO, r_valV, r_valL, r_valD, r_rVv, r_rVo, r_rVb, r_eVv, r_uVv, r_uVo, r_uVb, r_uVlK, r_sqK, r_consK, r_opK, r_opJ, r_chK, r_chJ, r_chT, r_chF, r_clK, r_ntK, r_ngK, r_tpK, r_lsK, r_slK, r_slJ, r_slI, r_slL, r_slT, r_aPK, r_sqL, r_sqT, r_sqS, r_rtR, r_rtN, r_refO, r_refE, r_wdK, r_bAdd, r_bSub, r_bMul, r_bDiv, r_bMod, r_bPow, r_cLt, r_cLe, r_cGt, r_cGe, r_cEq, r_cNe, r_ixL, r_ixT, r_of, r_lenL, r_lenT, r_lenS, Pd.R.bind_ok, Pd.R.bind_err, Pd.R.bind_stuck, noE_ok', mul_r, div_i, mod_i, add_i, sub_i, lt_i, le_i, gt_i, ge_i, eq_i, ne_i, pow18, List.cons_append, List.nil_append, List.getElem?_cons_zero, List.getElem?_cons_succ, List.replicate_succ, List.replicate_zero, List.set_cons_zero, List.set_cons_succ, List.length_cons, List.length_nil, if_true, if_false, Bool.not_true, Bool.not_false, Bool.false_eq_true, ↓reduceIte, Nat.reduceAdd, Nat.reduceLeDiff, Nat.reduceLT, Nat.zero_add, Option.map_some, Int.cast_ofNat_Int, Int.natCast_one, Int.natCast_zero, Int.reduceBEq, Int.reduceLT, Int.reduceLE, Int.reduceAdd, Int.reduceSub, Int.reduceMul, Int.reduceNeg, Int.reduceDiv, Int.reduceMod, decide_true, decide_false]
  · exact ⟨[], _, List.nodup_nil, Nat.le_refl _, fun h => absurd h (Nat.lt_irrefl _), fun n => ⟨fun h => absurd h List.not_mem_nil, fun ⟨l, h, _⟩ => absurd h List.not_mem_nil⟩, rfl⟩
  · rintro a c l Γ e ⟨ks, s3, hn, hl, h0, hm, rfl⟩
    have hlm : l ∈ ls := by rw [e]; exact List.mem_append_right _ (List.mem_cons_self ..)
    have hl2 := R.half l hlm
    have hal : a.length < 4 := by
      have := congrArg List.length e
      rw [List.length_append, List.length_cons] at this
      omega
    have s1 : ((p : Int) + (l : Int)) % (m : Int) = (((p + l) % m : Nat) : Int) := rfl
    have s2 : ((p : Int) + (m : Int) - (l : Int)) % (m : Int) = (((p + (m - l)) % m : Nat) : Int) := by
      rw [show (p : Int) + (m : Int) - (l : Int) = ((p + (m - l) : Nat) : Int) by omega]
      rfl
    have t1 := sto_tru (ks := ks) ((p + l) % m) (by omega)
    have t2 := sto_tru (ks := addN ks ((p + l) % m)) ((p + (m - l)) % m) (by have := (addN_len ks ((p + l) % m)).1; omega)
    have l1 := addN_len ks ((p + l) % m)
    have l2 := addN_len (addN ks ((p + l) % m)) ((p + (m - l)) % m)
    refine go_eq (Γ' := [.val (ringD m ls), .val (.int p), .own (truD1 (addN (addN ks ((p + l) % m)) ((p + (m - l)) % m))), .val (.int l), .val (.int m), .val (.tup (nD ls))]) ?_ ⟨_, _, addN_nodup (addN_nodup hn), by rw [List.length_append, List.length_singleton]; omega, fun _ => by omega, fun n => ?_, rfl⟩
    · simp (implicitDefEqProofs := false) (disch := omega) only [↓r_seq, ↓r_next, ↓r_if, ↓r_eif, ↓r_set, ↓r_ret, ↓r_retV, ↓r_expr, ↓r_asg, ↓r_par, ↓r_app, ↓r_ext, ↓r_sto, ↓r_or1, ↓r_or, ↓r_and1, ↓r_and, ↓r_vor1, ↓r_vor, ↓r_vand1, ↓r_vand, ↓r_not, ↓r_tru, ↓r_isB, ↓r_eC, ↓r_rd, ↓r_vl, ↓r_rV, ↓r_eV, ↓r_uV, ↓r_uVl, ↓r_sq0, ↓r_sq, ↓r_e2, ↓r_e3, ↓r_call, ↓r_user, ↓r_enot, ↓r_eneg, ↓r_tup, ↓r_lst, ↓r_sl, ↓r_noP, ↓r_aP, ↓r_iOf, ↓r_iF, ↓r_def, ↓r_ref, r_seqNx, r_seqRt, r_seqBk, r_seqCt, r_ifT, r_ifF, r_setV, r_setOt, r_setOl, r_setOd, r_setOs, r_retK, r_retVv, r_retVo, r_asgK, r_tgN, r_tgT, r_tgL, r_tgs0, r_tgs, r_parK, r_ownL, r_ownLo, r_ownD, r_ownDo, r_appK, r_appJ, r_extK, r_extJ, r_stoK, r_stoI, r_stoJ, r_stoL, r_orT, r_orF, r_andT, r_andF, r_vorK, r_vorT, r_vorF, r_vandK, r_vandT, r_vandF, r_notK, r_truK, r_truB, r_truI, r_truL, r_truT, r_truN, r_isBK, r_rdV, r_rdO, r_dV, r_dO, r_valV, r_valL, r_valD, r_rVv, r_rVo, r_rVb, r_eVv, r_uVv, r_uVo, r_uVb, r_uVlK, r_sqK, r_consK, r_opK, r_opJ, r_chK, r_chJ, r_chT, r_chF, r_clK, r_ntK, r_ngK, r_tpK, r_lsK, r_slK, r_slJ, r_slI, r_slL, r_slT, r_aPK, r_sqL, r_sqT, r_sqS, r_rtR, r_rtN, r_refO, r_refE, r_wdK, r_bAdd, r_bSub, r_bMul, r_bDiv, r_bMod, r_bPow, r_cLt, r_cLe, r_cGt, r_cGe, r_cEq, r_cNe, r_ixL, r_ixT, r_of, r_lenL, r_lenT, r_lenS, Pd.R.bind_ok, Pd.R.bind_err, Pd.R.bind_stuck, noE_ok', mul_r, div_i, mod_i, add_i, sub_i, lt_i, le_i, gt_i, ge_i, eq_i, ne_i, pow18, List.cons_append, List.nil_append, List.getElem?_cons_zero, List.getElem?_cons_succ, List.replicate_succ, List.replicate_zero, List.set_cons_zero, List.set_cons_succ, List.length_cons, List.length_nil, if_true, if_false, Bool.not_true, Bool.not_false, Bool.false_eq_true, ↓reduceIte, Nat.reduceAdd, Nat.reduceLeDiff, Nat.reduceLT, Nat.zero_add, Option.map_some, Int.cast_ofNat_Int, Int.natCast_one, Int.natCast_zero, Int.reduceBEq, Int.reduceLT, Int.reduceLE, Int.reduceAdd, Int.reduceSub, Int.reduceMul, Int.reduceNeg, Int.reduceDiv, Int.reduceMod, decide_true, decide_false, s1, s2, t1, t2]
    · rw [mem_addN, mem_addN, hm]
      constructor
      · rintro ((⟨l', h, h'⟩ | rfl) | rfl)
        · exact ⟨l', List.mem_append_left _ h, h'⟩
        · exact ⟨l, List.mem_append_right _ (List.mem_singleton.mpr rfl), .inl rfl⟩
        · exact ⟨l, List.mem_append_right _ (List.mem_singleton.mpr rfl), .inr rfl⟩
      · rintro ⟨l', h, h'⟩
        rw [List.mem_append, List.mem_singleton] at h
        rcases h with h | rfl
        · exact .inl (.inl ⟨l', h, h'⟩)
        · rcases h' with h' | h'
          · exact .inl (.inr h'.symm)
          · exact .inr h'.symm
  rintro Γ ⟨ks, s3, hn, hl, h0, hm, rfl⟩
  obtain ⟨q, e5, e6, e7, e8⟩ := sorted_tru (h0 hne) (by omega) hn
  have e9 : q = nearN m ls p := by
    refine ris_ext e7 (near_ris m ls p) fun n => ?_
    rw [e6, hm, mem_near]
    constructor
    · rintro ⟨l, hl, h⟩
      exact ⟨by rcases h with rfl | rfl <;> exact Nat.mod_lt _ (by omega), l, hl, h⟩
    · exact fun h => h.2
  rw [e9] at e5
  refine rets_eq ?_ rfl
  simp (implicitDefEqProofs := false) (disch := omega) only [↓r_seq, ↓r_next, ↓r_if, ↓r_eif, ↓r_set, ↓r_ret, ↓r_retV, ↓r_expr, ↓r_asg, ↓r_par, ↓r_app, ↓r_ext, ↓r_sto, ↓r_or1, ↓r_or, ↓r_and1, ↓r_and, ↓r_vor1, ↓r_vor, ↓r_vand1, ↓r_vand, ↓r_not, ↓r_tru, ↓r_isB, ↓r_eC, ↓r_rd, ↓r_vl, ↓r_rV, ↓r_eV, ↓r_uV, ↓r_uVl, ↓r_sq0, ↓r_sq, ↓r_e2, ↓r_e3, ↓r_call, ↓r_user, ↓r_enot, ↓r_eneg, ↓r_tup, ↓r_lst, ↓r_sl, ↓r_noP, ↓r_aP, ↓r_iOf, ↓r_iF, ↓r_def, ↓r_ref, r_seqNx, r_seqRt, r_seqBk, r_seqCt, r_ifT, r_ifF, r_setV, r_setOt, r_setOl, r_setOd, r_setOs, r_retK, r_retVv, r_retVo, r_asgK, r_tgN, r_tgT, r_tgL, r_tgs0, r_tgs, r_parK, r_ownL, r_ownLo, r_ownD, r_ownDo, r_appK, r_appJ, r_extK, r_extJ, r_stoK, r_stoI, r_stoJ, r_stoL, r_orT, r_orF, r_andT, r_andF, r_vorK, r_vorT, r_vorF, r_vandK, r_vandT, r_vandF, r_notK, r_truK, r_truB, r_truI, r_truL, r_truT, r_truN, r_isBK, r_rdV, r_rdO, r_dV, r_dO, r_valV, r_valL, r_valD, r_rVv, r_rVo, r_rVb, r_eVv, r_uVv, r_uVo, r_uVb, r_uVlK, r_sqK, r_consK, r_opK, r_opJ, r_chK, r_chJ, r_chT, r_chF, r_clK, r_ntK, r_ngK, r_tpK, r_lsK, r_slK, r_slJ, r_slI, r_slL, r_slT, r_aPK, r_sqL, r_sqT, r_sqS, r_rtR, r_rtN, r_refO, r_refE, r_wdK, r_bAdd, r_bSub, r_bMul, r_bDiv, r_bMod, r_bPow, r_cLt, r_cLe, r_cGt, r_cGe, r_cEq, r_cNe, r_ixL, r_ixT, r_of, r_lenL, r_lenT, r_lenS, Pd.R.bind_ok, Pd.R.bind_err, Pd.R.bind_stuck, noE_ok', mul_r, div_i, mod_i, add_i, sub_i, lt_i, le_i, gt_i, ge_i, eq_i, ne_i, pow18, List.cons_append, List.nil_append, List.getElem?_cons_zero, List.getElem?_cons_succ, List.replicate_succ, List.replicate_zero, List.set_cons_zero, List.set_cons_succ, List.length_cons, List.length_nil, if_true, if_false, Bool.not_true, Bool.not_false, Bool.false_eq_true, ↓reduceIte, Nat.reduceAdd, Nat.reduceLeDiff, Nat.reduceLT, Nat.zero_add, Option.map_some, Int.cast_ofNat_Int, Int.natCast_one, Int.natCast_zero, Int.reduceBEq, Int.reduceLT, Int.reduceLE, Int.reduceAdd, Int.reduceSub, Int.reduceMul, Int.reduceNeg, Int.reduceDiv, Int.reduceMod, decide_true, decide_false, e5]
end Pd

set_option Elab.async false
set_option linter.all false
set_option maxRecDepth 100000
set_option maxHeartbeats 1000000
namespace Pd
open PySem PySem.Spec L2 Pr

def oD : Option Nat → D
  | none => .non
  | some n => .int (n : Int)
def fD (F : List (Option Nat)) : List D := F.map oD
def nn (F : List (Option Nat)) : Nat := F.countP (·.isNone)
theorem fD_len (F : List (Option Nat)) : (fD F).length = F.length := List.length_map ..
theorem fD_get {F : List (Option Nat)} {k : Nat} {o : Option Nat} (h : F[k]? = some o) : atI (fD F) (k : Int) = some (oD o) := by
  refine L2.atI_nat ?_
  unfold fD
  rw [List.getElem?_map, h]
  rfl
theorem ixN_nat {n k : Nat} (h : k < n) : ixN n (k : Int) = some k := by
  unfold ixN
  rw [if_pos (by omega), if_pos (by omega), Int.toNat_natCast]
theorem sto_l {ds : List D} {k : Nat} (d : D) (h : k < ds.length) : stoD (.lst ds) (.int k) d = some (.lst (ds.set k d)) := by
  unfold stoD
  dsimp only
  rw [ixN_nat h]
  rfl
theorem fD_set (F : List (Option Nat)) (k s : Nat) : (fD F).set k (.int (s : Int)) = fD (F.set k (some s)) := by
  unfold fD
  rw [List.map_set]
  rfl
theorem is_non (o : Option Nat) : dIs (oD o) .non = some (.v (.bl o.isNone)) := by cases o <;> rfl
theorem r_cIs {a b : D} : dCmp .Is a b = dIs a b := rfl
def vis (s : Nat) : List Nat → List (Option Nat) × List Nat → List (Option Nat) × List Nat
  | [], st => st
  | o :: os, st => if st.1[o]? = some none then vis s os (st.1.set o (some s), st.2 ++ [o]) else vis s os st
theorem vis_app (s : Nat) : ∀ (a b : List Nat) (st : List (Option Nat) × List Nat), vis s (a ++ b) st = vis s b (vis s a st)
  | [], b, st => rfl
  | o :: a, b, st => by
    rw [List.cons_append, vis, vis]
    split
    · exact vis_app s a b _
    · exact vis_app s a b _
theorem nn_set {F : List (Option Nat)} {o s : Nat} (h : F[o]? = some none) : nn (F.set o (some s)) + 1 = nn F := by
  have ho : o < F.length := (List.getElem?_eq_some_iff.mp h).1
  have e : F = F.take o ++ none :: F.drop (o + 1) := by
    have := List.take_append_drop o F
    rw [List.drop_eq_getElem_cons ho] at this
    rw [(List.getElem?_eq_some_iff.mp h).2] at this
    exact this.symm
  have e2 : F.set o (some s) = F.take o ++ some s :: F.drop (o + 1) := by
    rw [List.set_eq_take_append_cons_drop, if_pos ho]
  rw [e2]
  conv => rhs; rw [e]
  unfold nn
  rw [List.countP_append, List.countP_append, List.countP_cons, List.countP_cons]
  simp
  omega
theorem vis_len (s : Nat) : ∀ (os : List Nat) (st : List (Option Nat) × List Nat), (vis s os st).1.length = st.1.length ∧ (vis s os st).2.length + nn (vis s os st).1 = st.2.length + nn st.1
  | [], st => ⟨rfl, rfl⟩
  | o :: os, st => by
    rw [vis]
    split
    · rename_i h
      obtain ⟨h1, h2⟩ := vis_len s os (st.1.set o (some s), st.2 ++ [o])
      have h3 := nn_set (s := s) h
      refine ⟨h1.trans List.length_set, h2.trans ?_⟩
      show (st.2 ++ [o]).length + nn (st.1.set o (some s)) = _
      rw [List.length_append, List.length_singleton]
      omega
    · exact vis_len s os st
theorem vis_keep (s : Nat) {k n : Nat} : ∀ (os : List Nat) (st : List (Option Nat) × List Nat), st.1[k]? = some (some n) → (vis s os st).1[k]? = some (some n)
  | [], st, h => h
  | o :: os, st, h => by
    rw [vis]
    split
    · rename_i ho
      refine vis_keep s os _ ?_
      show (st.1.set o (some s))[k]? = _
      rw [List.getElem?_set_ne (fun e => by rw [e, h] at ho; cases ho)]
      exact h
    · exact vis_keep s os st h
theorem vis_acc (s : Nat) : ∀ (os : List Nat) (st : List (Option Nat) × List Nat), (∀ a ∈ st.2, st.1[a]? = some (some s)) → ∀ a ∈ (vis s os st).2, (vis s os st).1[a]? = some (some s)
  | [], st, h => h
  | o :: os, st, h => by
    rw [vis]
    split
    · rename_i ho
      refine vis_acc s os _ ?_
      intro a ha
      show (st.1.set o (some s))[a]? = _
      by_cases e : a = o
      · rw [e, List.getElem?_set_self (List.getElem?_eq_some_iff.mp ho).1]
      · rw [List.getElem?_set_ne (fun x => e x.symm)]
        rcases List.mem_append.mp ha with h' | h'
        · exact h a h'
        · exact absurd (List.mem_singleton.mp h') e
    · exact vis_acc s os st h
def lev (m : Nat) (ls : List Nat) (s : Nat) : List Nat → List (Option Nat) × List Nat → List (Option Nat) × List Nat
  | [], st => st
  | h :: hs, st => lev m ls s hs (vis s (nearN m ls h) st)
theorem lev_app (m : Nat) (ls : List Nat) (s : Nat) : ∀ (a b : List Nat) (st : List (Option Nat) × List Nat), lev m ls s (a ++ b) st = lev m ls s b (lev m ls s a st)
  | [], b, st => rfl
  | o :: a, b, st => by
    rw [List.cons_append, lev, lev]
    exact lev_app m ls s a b _
theorem lev_len (m : Nat) (ls : List Nat) (s : Nat) : ∀ (hs : List Nat) (st : List (Option Nat) × List Nat), (lev m ls s hs st).1.length = st.1.length ∧ (lev m ls s hs st).2.length + nn (lev m ls s hs st).1 = st.2.length + nn st.1
  | [], st => ⟨rfl, rfl⟩
  | h :: hs, st => by
    rw [lev]
    obtain ⟨h1, h2⟩ := lev_len m ls s hs (vis s (nearN m ls h) st)
    obtain ⟨h3, h4⟩ := vis_len s (nearN m ls h) st
    exact ⟨h1.trans h3, h2.trans h4⟩
inductive Bfs (m : Nat) (ls : List Nat) : Nat → List Nat → List (Option Nat) → List (Option Nat) → Prop where
  | done (s : Nat) (F : List (Option Nat)) : Bfs m ls s [] F F
  | step (s : Nat) (h : Nat) (hs : List Nat) (F F' : List (Option Nat)) : Bfs m ls (s + 1) (lev m ls (s + 1) (h :: hs) (F, [])).2 (lev m ls (s + 1) (h :: hs) (F, [])).1 F' → Bfs m ls s (h :: hs) F F'
theorem Bfs.len {m : Nat} {ls : List Nat} {s : Nat} {hs : List Nat} {F F' : List (Option Nat)} (b : Bfs m ls s hs F F') : F'.length = F.length := by
  induction b with
  | done => rfl
  | step s h hs F F' _ ih => exact ih.trans (lev_len m ls (s + 1) (h :: hs) (F, [])).1
theorem nn_le (F : List (Option Nat)) : nn F ≤ F.length := List.countP_le_length ..
theorem ne_nil (l : List Nat) : dNe (.lst (nD l)) (.lst []) = some (.v (.bl (!l.isEmpty))) := by
  cases l with
  | nil => exact ne_same (by rw [purD]; exact pur_nD []) (by rw [depD]; exact Nat.le_trans (Nat.le_of_eq (congrArg (· + 1) (dep_nD []))) (by omega))
  | cons a l => exact ne_diff (by rw [purD]; exact pur_nD _) rfl (by rw [depD, dep_nD]; omega) (by rw [depD, depDs]; omega) (fun h => nomatch h)
def lwC : Gm → R Bool := isB (e2 (dCmp .NotEq) (rVar 3) (rd (eLst (seqR []))))
def lwI : Gm → R Out := sSeq (sIf (isB (e2 (dCmp .Is) (rd (e2 dIx (rVar 2) (rVar 7))) (rd (eC .non)))) (sSeq (sSto 2 (vl (eVar 4)) (rVar 7))
  (sSeq (sApp 5 (vl (eVar 7)))
  (sNext))) (sNext))
  (sNext)
def lwB : Gm → R Out := (sSeq (sSet false 4 (e2 (dBin .Add) (rVar 4) (rd (eC (.int 1)))))
  (sSeq (sSet true 5 (eLst (seqR [])))
  (sSeq (sFor (iF (vl (eVar 3))) (.nm 6) (sSeq (sFor (iF (vl (eUser d__law_near (seqR [uVar 0, uVar 6])))) (.nm 7) lwI)
  (sNext)))
  (sSeq ((fun Γ => (sSet false 3 (eVar 5)) (frz [5] Γ)))
  (sNext)))))
section
variable {m : Nat} {ls : List Nat} (R : Ring m ls)
include R
theorem lw_inner (p here : Sl) (s one : Nat) (F : List (Option Nat)) (acc : List Nat) (s7 : Sl) (hF : F.length = m) (hc : acc.length + nn F ≤ m) :
    ∃ s7', sFor (iF (vl (eUser d__law_near (seqR [uVar 0, uVar 6])))) (.nm 7) lwI [.val (ringD m ls), p, .own (.lst (fD F)), here, .val (.int s), .own (.lst (nD acc)), .val (.int one), s7] =
      .ok (.nx [.val (ringD m ls), p, .own (.lst (fD (vis s (nearN m ls one) (F, acc)).1)), here, .val (.int s), .own (.lst (nD (vis s (nearN m ls one) (F, acc)).2)), .val (.int one), s7']) := by
  have h100 := R.m100
  have key := go_of (fi := iF (vl (eUser d__law_near (seqR [uVar 0, uVar 6])))) (t := 7) (b := lwI) (φ := fun n : Nat => .int (n : Int)) (l := nearN m ls one)
    (fun a Γ => ∃ s7, Γ = [.val (ringD m ls), p, .own (.lst (fD (vis s a (F, acc)).1)), here, .val (.int s), .own (.lst (nD (vis s a (F, acc)).2)), .val (.int one), s7])
    (Γ := [.val (ringD m ls), p, .own (.lst (fD F)), here, .val (.int s), .own (.lst (nD acc)), .val (.int one), s7]) (by
      have := lnear_v R one
      simp (implicitDefEqProofs := false) (disch := omega) only [↓r_seq, ↓r_next, ↓r_if, ↓r_eif, ↓r_set, ↓r_ret, ↓r_retV, ↓r_expr, ↓r_asg, ↓r_par, ↓r_app, ↓r_ext, ↓r_sto, ↓r_or1, ↓r_or, ↓r_and1, ↓r_and, ↓r_vor1, ↓r_vor, ↓r_vand1, ↓r_vand, ↓r_not, ↓r_tru, ↓r_isB, ↓r_eC, ↓r_rd, ↓r_vl, ↓r_rV, ↓r_eV, ↓r_uV, ↓r_uVl, ↓r_sq0, ↓r_sq, ↓r_e2, ↓r_e3, ↓r_call, ↓r_user, ↓r_enot, ↓r_eneg, ↓r_tup, ↓r_lst, ↓r_sl, ↓r_noP, ↓r_aP, ↓r_iOf, ↓r_iF, ↓r_def, ↓r_ref, r_seqNx, r_seqRt, r_seqBk, r_seqCt, r_ifT, r_ifF, r_setV, r_setOt, r_setOl, r_setOd, r_setOs, r_retK, r_retVv, r_retVo, r_asgK, r_tgN, r_tgT, r_tgL, r_tgs0, r_tgs, r_parK, r_ownL, r_ownLo, r_ownD, r_ownDo, r_appK, r_appJ, r_extK, r_extJ, r_stoK, r_stoI, r_stoJ, r_stoL, r_orT, r_orF, r_andT, r_andF, r_vorK, r_vorT, r_vorF, r_vandK, r_vandT, r_vandF, r_notK, r_truK, r_truB, r_truI, r_truL, r_truT, r_truN, r_isBK, r_rdV, r_rdO, r_dV, r_dO, r_valV, r_valL, r_valD, r_rVv, r_rVo, r_rVb, r_eVv, r_uVv, r_uVo, r_uVb, r_uVlK, r_sqK, r_consK, r_opK, r_opJ, r_chK, r_chJ, r_chT, r_chF, r_clK, r_ntK, r_ngK, r_tpK, r_lsK, r_slK, r_slJ, r_slI, r_slL, r_slT, r_aPK, r_sqL, r_sqT, r_sqS, r_rtR, r_rtN, r_refO, r_refE, r_wdK, r_bAdd, r_bSub, r_bMul, r_bDiv, r_bMod, r_bPow, r_cLt, r_cLe, r_cGt, r_cGe, r_cEq, r_cNe, r_ixL, r_ixT, r_of, r_lenL, r_lenT, r_lenS, Pd.R.bind_ok, Pd.R.bind_err, Pd.R.bind_stuck, noE_ok', mul_r, div_i, mod_i, add_i, sub_i, lt_i, le_i, gt_i, ge_i, eq_i, ne_i, pow18, List.cons_append, List.nil_append, List.getElem?_cons_zero, List.getElem?_cons_succ, List.replicate_succ, List.replicate_zero, List.set_cons_zero, List.set_cons_succ, List.length_cons, List.length_nil, if_true, if_false, Bool.not_true, Bool.not_false, Bool.false_eq_true, ↓reduceIte, Nat.reduceAdd, Nat.reduceLeDiff, Nat.reduceLT, Nat.zero_add, Option.map_some, Int.cast_ofNat_Int, Int.natCast_one, Int.natCast_zero, Int.reduceBEq, Int.reduceLT, Int.reduceLE, Int.reduceAdd, Int.reduceSub, Int.reduceMul, Int.reduceNeg, Int.reduceDiv, Int.reduceMod, decide_true, decide_false, this]
      rfl) ⟨s7, rfl⟩ (by
      rintro a c o Γ e ⟨s7, rfl⟩
      have ho : o < m := near_lt (show o ∈ nearN m ls one by rw [e]; exact List.mem_append_right _ (List.mem_cons_self ..))
      obtain ⟨v1, v2⟩ := vis_len s a (F, acc)
      have hl : (vis s a (F, acc)).1.length = m := v1.trans hF
      have v2' : (vis s a (F, acc)).2.length + nn (vis s a (F, acc)).1 ≤ m := Nat.le_trans (Nat.le_of_eq v2) hc
      obtain ⟨x, hg⟩ : ∃ x, (vis s a (F, acc)).1[o]? = some x := ⟨_, List.getElem?_eq_getElem (show o < (vis s a (F, acc)).1.length by omega)⟩
      have ex : vis s (a ++ [o]) (F, acc) = vis s [o] (vis s a (F, acc)) := vis_app s a [o] _
      rw [ex]
      generalize (vis s a (F, acc)) = st at hl hg v2'
      have hi := fD_get hg
      have hx := is_non x
      refine go_eq (Γ' := [.val (ringD m ls), p, .own (.lst (fD (vis s [o] st).1)), here, .val (.int s), .own (.lst (nD (vis s [o] st).2)), .val (.int one), .val (.int o)]) ?_ ⟨_, rfl⟩
      cases x with
      | none =>
        have hs := sto_l (ds := fD st.1) (k := o) (.int (s : Int)) (by rw [fD_len]; omega)
        rw [fD_set] at hs
        have hv : vis s [o] st = (st.1.set o (some s), st.2 ++ [o]) := by rw [vis, if_pos hg]; rfl
        have ha : (nD st.2).length < 16777216 := by rw [len_nD]; omega
        have hn : nD st.2 ++ [D.int (o : Int)] = nD (st.2 ++ [o]) := by unfold nD; rw [List.map_append]; rfl
        rw [hv]
        unfold lwI
        simp (implicitDefEqProofs := false) (disch := omega) only [↓r_seq, ↓r_next, ↓r_if, ↓r_eif, ↓r_set, ↓r_ret, ↓r_retV, ↓r_expr, ↓r_asg, ↓r_par, ↓r_app, ↓r_ext, ↓r_sto, ↓r_or1, ↓r_or, ↓r_and1, ↓r_and, ↓r_vor1, ↓r_vor, ↓r_vand1, ↓r_vand, ↓r_not, ↓r_tru, ↓r_isB, ↓r_eC, ↓r_rd, ↓r_vl, ↓r_rV, ↓r_eV, ↓r_uV, ↓r_uVl, ↓r_sq0, ↓r_sq, ↓r_e2, ↓r_e3, ↓r_call, ↓r_user, ↓r_enot, ↓r_eneg, ↓r_tup, ↓r_lst, ↓r_sl, ↓r_noP, ↓r_aP, ↓r_iOf, ↓r_iF, ↓r_def, ↓r_ref, r_seqNx, r_seqRt, r_seqBk, r_seqCt, r_ifT, r_ifF, r_setV, r_setOt, r_setOl, r_setOd, r_setOs, r_retK, r_retVv, r_retVo, r_asgK, r_tgN, r_tgT, r_tgL, r_tgs0, r_tgs, r_parK, r_ownL, r_ownLo, r_ownD, r_ownDo, r_appK, r_appJ, r_extK, r_extJ, r_stoK, r_stoI, r_stoJ, r_stoL, r_orT, r_orF, r_andT, r_andF, r_vorK, r_vorT, r_vorF, r_vandK, r_vandT, r_vandF, r_notK, r_truK, r_truB, r_truI, r_truL, r_truT, r_truN, r_isBK, r_rdV, r_rdO, r_dV, r_dO, r_valV, r_valL, r_valD, r_rVv, r_rVo, r_rVb, r_eVv, r_uVv, r_uVo, r_uVb, r_uVlK, r_sqK, r_consK, r_opK, r_opJ, r_chK, r_chJ, r_chT, r_chF, r_clK, r_ntK, r_ngK, r_tpK, r_lsK, r_slK, r_slJ, r_slI, r_slL, r_slT, r_aPK, r_sqL, r_sqT, r_sqS, r_rtR, r_rtN, r_refO, r_refE, r_wdK, r_bAdd, r_bSub, r_bMul, r_bDiv, r_bMod, r_bPow, r_cLt, r_cLe, r_cGt, r_cGe, r_cEq, r_cNe, r_ixL, r_ixT, r_of, r_lenL, r_lenT, r_lenS, Pd.R.bind_ok, Pd.R.bind_err, Pd.R.bind_stuck, noE_ok', mul_r, div_i, mod_i, add_i, sub_i, lt_i, le_i, gt_i, ge_i, eq_i, ne_i, pow18, List.cons_append, List.nil_append, List.getElem?_cons_zero, List.getElem?_cons_succ, List.replicate_succ, List.replicate_zero, List.set_cons_zero, List.set_cons_succ, List.length_cons, List.length_nil, if_true, if_false, Bool.not_true, Bool.not_false, Bool.false_eq_true, ↓reduceIte, Nat.reduceAdd, Nat.reduceLeDiff, Nat.reduceLT, Nat.zero_add, Option.map_some, Int.cast_ofNat_Int, Int.natCast_one, Int.natCast_zero, Int.reduceBEq, Int.reduceLT, Int.reduceLE, Int.reduceAdd, Int.reduceSub, Int.reduceMul, Int.reduceNeg, Int.reduceDiv, Int.reduceMod, decide_true, decide_false, r_cIs, hi, hx, Option.isNone_none, hs, r_appJ ha, hn]
      | some n =>
        have hv : vis s [o] st = st := by rw [vis, if_neg (by rw [hg]; simp)]; rfl
        rw [hv]
        unfold lwI
        simp (implicitDefEqProofs := false) (disch := omega) only [↓r_seq, ↓r_next, ↓r_if, ↓r_eif, ↓r_set, ↓r_ret, ↓r_retV, ↓r_expr, ↓r_asg, ↓r_par, ↓r_app, ↓r_ext, ↓r_sto, ↓r_or1, ↓r_or, ↓r_and1, ↓r_and, ↓r_vor1, ↓r_vor, ↓r_vand1, ↓r_vand, ↓r_not, ↓r_tru, ↓r_isB, ↓r_eC, ↓r_rd, ↓r_vl, ↓r_rV, ↓r_eV, ↓r_uV, ↓r_uVl, ↓r_sq0, ↓r_sq, ↓r_e2, ↓r_e3, ↓r_call, ↓r_user, ↓r_enot, ↓r_eneg, ↓r_tup, ↓r_lst, ↓r_sl, ↓r_noP, ↓r_aP, ↓r_iOf, ↓r_iF, ↓r_def, ↓r_ref, r_seqNx, r_seqRt, r_seqBk, r_seqCt, r_ifT, r_ifF, r_setV, r_setOt, r_setOl, r_setOd, r_setOs, r_retK, r_retVv, r_retVo, r_asgK, r_tgN, r_tgT, r_tgL, r_tgs0, r_tgs, r_parK, r_ownL, r_ownLo, r_ownD, r_ownDo, r_appK, r_appJ, r_extK, r_extJ, r_stoK, r_stoI, r_stoJ, r_stoL, r_orT, r_orF, r_andT, r_andF, r_vorK, r_vorT, r_vorF, r_vandK, r_vandT, r_vandF, r_notK, r_truK, r_truB, r_truI, r_truL, r_truT, r_truN, r_isBK, r_rdV, r_rdO, r_dV, r_dO, r_valV, r_valL, r_valD, r_rVv, r_rVo, r_rVb, r_eVv, r_uVv, r_uVo, r_uVb, r_uVlK, r_sqK, r_consK, r_opK, r_opJ, r_chK, r_chJ, r_chT, r_chF, r_clK, r_ntK, r_ngK, r_tpK, r_lsK, r_slK, r_slJ, r_slI, r_slL, r_slT, r_aPK, r_sqL, r_sqT, r_sqS, r_rtR, r_rtN, r_refO, r_refE, r_wdK, r_bAdd, r_bSub, r_bMul, r_bDiv, r_bMod, r_bPow, r_cLt, r_cLe, r_cGt, r_cGe, r_cEq, r_cNe, r_ixL, r_ixT, r_of, r_lenL, r_lenT, r_lenS, Pd.R.bind_ok, Pd.R.bind_err, Pd.R.bind_stuck, noE_ok', mul_r, div_i, mod_i, add_i, sub_i, lt_i, le_i, gt_i, ge_i, eq_i, ne_i, pow18, List.cons_append, List.nil_append, List.getElem?_cons_zero, List.getElem?_cons_succ, List.replicate_succ, List.replicate_zero, List.set_cons_zero, List.set_cons_succ, List.length_cons, List.length_nil, if_true, if_false, Bool.not_true, Bool.not_false, Bool.false_eq_true, ↓reduceIte, Nat.reduceAdd, Nat.reduceLeDiff, Nat.reduceLT, Nat.zero_add, Option.map_some, Int.cast_ofNat_Int, Int.natCast_one, Int.natCast_zero, Int.reduceBEq, Int.reduceLT, Int.reduceLE, Int.reduceAdd, Int.reduceSub, Int.reduceMul, Int.reduceNeg, Int.reduceDiv, Int.reduceMod, decide_true, decide_false, r_cIs, hi, hx, Option.isNone_some])
  obtain ⟨Γ', e, s7', rfl⟩ := key
  exact ⟨s7', e⟩
theorem lw_body (p : Sl) (s : Nat) (h : Nat) (hs : List Nat) (F : List (Option Nat)) (s5 s6 s7 : Sl) (hF : F.length = m) :
    ∃ s6' s7', lwB [.val (ringD m ls), p, .own (.lst (fD F)), .val (.lst (nD (h :: hs))), .val (.int s), s5, s6, s7] =
      .ok (.nx [.val (ringD m ls), p, .own (.lst (fD (lev m ls (s + 1) (h :: hs) (F, [])).1)), .val (.lst (nD (lev m ls (s + 1) (h :: hs) (F, [])).2)), .val (.int ((s + 1 : Nat) : Int)), .val (.lst (nD (lev m ls (s + 1) (h :: hs) (F, [])).2)), s6', s7']) := by
  have hs1 : (s : Int) + 1 = ((s + 1 : Nat) : Int) := rfl
  have h0 : ([] : List D) = nD [] := rfl
  suffices hgo : Go (lwB [.val (ringD m ls), p, .own (.lst (fD F)), .val (.lst (nD (h :: hs))), .val (.int s), s5, s6, s7]) (fun Γ => ∃ s6' s7', Γ = [.val (ringD m ls), p, .own (.lst (fD (lev m ls (s + 1) (h :: hs) (F, [])).1)), .val (.lst (nD (lev m ls (s + 1) (h :: hs) (F, [])).2)), .val (.int ((s + 1 : Nat) : Int)), .val (.lst (nD (lev m ls (s + 1) (h :: hs) (F, [])).2)), s6', s7']) by
    obtain ⟨Γ', e, s6', s7', rfl⟩ := hgo
    exact ⟨s6', s7', e⟩
  unfold lwB
  refine go_seq (Γ1 := [.val (ringD m ls), p, .own (.lst (fD F)), .val (.lst (nD (h :: hs))), .val (.int ((s + 1 : Nat) : Int)), s5, s6, s7]) (by simp (implicitDefEqProofs := false) (disch := omega) only [↓r_seq, ↓r_next, ↓r_if, ↓r_eif, ↓r_set, ↓r_ret, ↓r_retV, ↓r_expr, ↓r_asg, ↓r_par, ↓r_app, ↓r_ext, ↓r_sto, ↓r_or1, ↓r_or, ↓r_and1, ↓r_and, ↓r_vor1, ↓r_vor, ↓r_vand1, ↓r_vand, ↓r_not, ↓r_tru, ↓r_isB, ↓r_eC, ↓r_rd, ↓r_vl, ↓r_rV, ↓r_eV, ↓r_uV, ↓r_uVl, ↓r_sq0, ↓r_sq, ↓r_e2, ↓r_e3, ↓r_call, ↓r_user, ↓r_enot, ↓r_eneg, ↓r_tup, ↓r_lst, ↓r_sl, ↓r_noP, ↓r_aP, ↓r_iOf, ↓r_iF, ↓r_def, ↓r_ref, r_seqNx, r_seqRt, r_seqBk, r_seqCt, r_ifT, r_ifF, r_setV, r_setOt, r_setOl, r_setOd, r_setOs, r_retK, r_retVv, r_retVo, r_asgK, r_tgN, r_tgT, r_tgL, r_tgs0, r_tgs, r_parK, r_ownL, r_ownLo, r_ownD, r_ownDo, r_appK, r_appJ, r_extK, r_extJ, r_stoK, r_stoI, r_stoJ, r_stoL, r_orT, r_orF, r_andT, r_andF, r_vorK, r_vorT, r_vorF, r_vandK, r_vandT, r_vandF, r_notK, r_truK, r_truB, r_truI, r_truL, r_truT, r_truN, r_isBK, r_rdV, r_rdO, r_dV, r_dO, r_valV, r_valL, r_valD, r_rVv, r_rVo, r_rVb, r_eVv, r_uVv, r_uVo, r_uVb, r_uVlK, r_sqK, r_consK, r_opK, r_opJ, r_chK, r_chJ, r_chT, r_chF, r_clK, r_ntK, r_ngK, r_tpK, r_lsK, r_slK, r_slJ, r_slI, r_slL, r_slT, r_aPK, r_sqL, r_sqT, r_sqS, r_rtR, r_rtN, r_refO, r_refE, r_wdK, r_bAdd, r_bSub, r_bMul, r_bDiv, r_bMod, r_bPow, r_cLt, r_cLe, r_cGt, r_cGe, r_cEq, r_cNe, r_ixL, r_ixT, r_of, r_lenL, r_lenT, r_lenS, Pd.R.bind_ok, Pd.R.bind_err, Pd.R.bind_stuck, noE_ok', mul_r, div_i, mod_i, add_i, sub_i, lt_i, le_i, gt_i, ge_i, eq_i, ne_i, pow18, List.cons_append, List.nil_append, List.getElem?_cons_zero, List.getElem?_cons_succ, List.replicate_succ, List.replicate_zero, List.set_cons_zero, List.set_cons_succ, List.length_cons, List.length_nil, if_true, if_false, Bool.not_true, Bool.not_false, Bool.false_eq_true, ↓reduceIte, Nat.reduceAdd, Nat.reduceLeDiff, Nat.reduceLT, Nat.zero_add, Option.map_some, Int.cast_ofNat_Int, Int.natCast_one, Int.natCast_zero, Int.reduceBEq, Int.reduceLT, Int.reduceLE, Int.reduceAdd, Int.reduceSub, Int.reduceMul, Int.reduceNeg, Int.reduceDiv, Int.reduceMod, decide_true, decide_false, hs1]) ?_
  refine go_seq (Γ1 := [.val (ringD m ls), p, .own (.lst (fD F)), .val (.lst (nD (h :: hs))), .val (.int ((s + 1 : Nat) : Int)), .own (.lst (nD [])), s6, s7]) (by simp (implicitDefEqProofs := false) (disch := omega) only [↓r_seq, ↓r_next, ↓r_if, ↓r_eif, ↓r_set, ↓r_ret, ↓r_retV, ↓r_expr, ↓r_asg, ↓r_par, ↓r_app, ↓r_ext, ↓r_sto, ↓r_or1, ↓r_or, ↓r_and1, ↓r_and, ↓r_vor1, ↓r_vor, ↓r_vand1, ↓r_vand, ↓r_not, ↓r_tru, ↓r_isB, ↓r_eC, ↓r_rd, ↓r_vl, ↓r_rV, ↓r_eV, ↓r_uV, ↓r_uVl, ↓r_sq0, ↓r_sq, ↓r_e2, ↓r_e3, ↓r_call, ↓r_user, ↓r_enot, ↓r_eneg, ↓r_tup, ↓r_lst, ↓r_sl, ↓r_noP, ↓r_aP, ↓r_iOf, ↓r_iF, ↓r_def, ↓r_ref, r_seqNx, r_seqRt, r_seqBk, r_seqCt, r_ifT, r_ifF, r_setV, r_setOt, r_setOl, r_setOd, r_setOs, r_retK, r_retVv, r_retVo, r_asgK, r_tgN, r_tgT, r_tgL, r_tgs0, r_tgs, r_parK, r_ownL, r_ownLo, r_ownD, r_ownDo, r_appK, r_appJ, r_extK, r_extJ, r_stoK, r_stoI, r_stoJ, r_stoL, r_orT, r_orF, r_andT, r_andF, r_vorK, r_vorT, r_vorF, r_vandK, r_vandT, r_vandF, r_notK, r_truK, r_truB, r_truI, r_truL, r_truT, r_truN, r_isBK, r_rdV, r_rdO, r_dV, r_dO, r_valV, r_valL, r_valD, r_rVv, r_rVo, r_rVb, r_eVv, r_uVv, r_uVo, r_uVb, r_uVlK, r_sqK, r_consK, r_opK, r_opJ, r_chK, r_chJ, r_chT, r_chF, r_clK, r_ntK, r_ngK, r_tpK, r_lsK, r_slK, r_slJ, r_slI, r_slL, r_slT, r_aPK, r_sqL, r_sqT, r_sqS, r_rtR, r_rtN, r_refO, r_refE, r_wdK, r_bAdd, r_bSub, r_bMul, r_bDiv, r_bMod, r_bPow, r_cLt, r_cLe, r_cGt, r_cGe, r_cEq, r_cNe, r_ixL, r_ixT, r_of, r_lenL, r_lenT, r_lenS, Pd.R.bind_ok, Pd.R.bind_err, Pd.R.bind_stuck, noE_ok', mul_r, div_i, mod_i, add_i, sub_i, lt_i, le_i, gt_i, ge_i, eq_i, ne_i, pow18, List.cons_append, List.nil_append, List.getElem?_cons_zero, List.getElem?_cons_succ, List.replicate_succ, List.replicate_zero, List.set_cons_zero, List.set_cons_succ, List.length_cons, List.length_nil, if_true, if_false, Bool.not_true, Bool.not_false, Bool.false_eq_true, ↓reduceIte, Nat.reduceAdd, Nat.reduceLeDiff, Nat.reduceLT, Nat.zero_add, Option.map_some, Int.cast_ofNat_Int, Int.natCast_one, Int.natCast_zero, Int.reduceBEq, Int.reduceLT, Int.reduceLE, Int.reduceAdd, Int.reduceSub, Int.reduceMul, Int.reduceNeg, Int.reduceDiv, Int.reduceMod, decide_true, decide_false]; rfl) ?_
  refine go_seq' (fun Γ => ∃ s6 s7, Γ = [.val (ringD m ls), p, .own (.lst (fD (lev m ls (s + 1) (h :: hs) (F, [])).1)), .val (.lst (nD (h :: hs))), .val (.int ((s + 1 : Nat) : Int)), .own (.lst (nD (lev m ls (s + 1) (h :: hs) (F, [])).2)), s6, s7])
    (go_of (φ := fun n : Nat => .int (n : Int)) (l := h :: hs) (fun a Γ => ∃ s6 s7, Γ = [.val (ringD m ls), p, .own (.lst (fD (lev m ls (s + 1) a (F, [])).1)), .val (.lst (nD (h :: hs))), .val (.int ((s + 1 : Nat) : Int)), .own (.lst (nD (lev m ls (s + 1) a (F, [])).2)), s6, s7]) (by simp (implicitDefEqProofs := false) (disch := omega) only [↓r_seq, ↓r_next, ↓r_if, ↓r_eif, ↓r_set, ↓r_ret, ↓r_retV, ↓r_expr, ↓r_asg, ↓r_par, ↓r_app, ↓r_ext, ↓r_sto, ↓r_or1, ↓r_or, ↓r_and1, ↓r_and, ↓r_vor1, ↓r_vor, ↓r_vand1, ↓r_vand, ↓r_not, ↓r_tru, ↓r_isB, ↓r_eC, ↓r_rd, ↓r_vl, ↓r_rV, ↓r_eV, ↓r_uV, ↓r_uVl, ↓r_sq0, ↓r_sq, ↓r_e2, ↓r_e3, ↓r_call, ↓r_user, ↓r_enot, ↓r_eneg, ↓r_tup, ↓r_lst, ↓r_sl, ↓r_noP, ↓r_aP, ↓r_iOf, ↓r_iF, ↓r_def, ↓r_ref, r_seqNx, r_seqRt, r_seqBk, r_seqCt, r_ifT, r_ifF, r_setV, r_setOt, r_setOl, r_setOd, r_setOs, r_retK, r_retVv, r_retVo, r_asgK, r_tgN, r_tgT, r_tgL, r_tgs0, r_tgs, r_parK, r_ownL, r_ownLo, r_ownD, r_ownDo, r_appK, r_appJ, r_extK, r_extJ, r_stoK, r_stoI, r_stoJ, r_stoL, r_orT, r_orF, r_andT, r_andF, r_vorK, r_vorT, r_vorF, r_vandK, r_vandT, r_vandF, r_notK, r_truK, r_truB, r_truI, r_truL, r_truT, r_truN, r_isBK, r_rdV, r_rdO, r_dV, r_dO, r_valV, r_valL, r_valD, r_rVv, r_rVo, r_rVb, r_eVv, r_uVv, r_uVo, r_uVb, r_uVlK, r_sqK, r_consK, r_opK, r_opJ, r_chK, r_chJ, r_chT, r_chF, r_clK, r_ntK, r_ngK, r_tpK, r_lsK, r_slK, r_slJ, r_slI, r_slL, r_slT, r_aPK, r_sqL, r_sqT, r_sqS, r_rtR, r_rtN, r_refO, r_refE, r_wdK, r_bAdd, r_bSub, r_bMul, r_bDiv, r_bMod, r_bPow, r_cLt, r_cLe, r_cGt, r_cGe, r_cEq, r_cNe, r_ixL, r_ixT, r_of, r_lenL, r_lenT, r_lenS, Pd.R.bind_ok, Pd.R.bind_err, Pd.R.bind_stuck, noE_ok', mul_r, div_i, mod_i, add_i, sub_i, lt_i, le_i, gt_i, ge_i, eq_i, ne_i, pow18, List.cons_append, List.nil_append, List.getElem?_cons_zero, List.getElem?_cons_succ, List.replicate_succ, List.replicate_zero, List.set_cons_zero, List.set_cons_succ, List.length_cons, List.length_nil, if_true, if_false, Bool.not_true, Bool.not_false, Bool.false_eq_true, ↓reduceIte, Nat.reduceAdd, Nat.reduceLeDiff, Nat.reduceLT, Nat.zero_add, Option.map_some, Int.cast_ofNat_Int, Int.natCast_one, Int.natCast_zero, Int.reduceBEq, Int.reduceLT, Int.reduceLE, Int.reduceAdd, Int.reduceSub, Int.reduceMul, Int.reduceNeg, Int.reduceDiv, Int.reduceMod, decide_true, decide_false]; rfl) ⟨_, _, rfl⟩ ?_) ?_
  · rintro a c o Γ e ⟨s6, s7, rfl⟩
    obtain ⟨v1, v2⟩ := lev_len m ls (s + 1) a (F, [])
    have ex : lev m ls (s + 1) (a ++ [o]) (F, []) = vis (s + 1) (nearN m ls o) (lev m ls (s + 1) a (F, [])) := lev_app m ls (s + 1) a [o] _
    rw [ex]
    obtain ⟨s7', hi⟩ := lw_inner R p (.val (.lst (nD (h :: hs)))) (s + 1) o (lev m ls (s + 1) a (F, [])).1 (lev m ls (s + 1) a (F, [])).2 s7 (v1.trans hF) (by
      rw [v2]
      have := nn_le F
      show 0 + nn F ≤ m
      omega)
    exact go_seq hi (go_next ⟨_, _, rfl⟩)
  rintro Γ ⟨s6, s7, rfl⟩
  refine go_seq (Γ1 := [.val (ringD m ls), p, .own (.lst (fD (lev m ls (s + 1) (h :: hs) (F, [])).1)), .val (.lst (nD (lev m ls (s + 1) (h :: hs) (F, [])).2)), .val (.int ((s + 1 : Nat) : Int)), .val (.lst (nD (lev m ls (s + 1) (h :: hs) (F, [])).2)), s6, s7]) ?_ (go_next ⟨_, _, rfl⟩)
  show sSet false 3 (eVar 5) [.val (ringD m ls), p, .own (.lst (fD (lev m ls (s + 1) (h :: hs) (F, [])).1)), .val (.lst (nD (h :: hs))), .val (.int ((s + 1 : Nat) : Int)), .val (.lst (nD (lev m ls (s + 1) (h :: hs) (F, [])).2)), s6, s7] = _
  simp (implicitDefEqProofs := false) (disch := omega) only [↓r_seq, ↓r_next, ↓r_if, ↓r_eif, ↓r_set, ↓r_ret, ↓r_retV, ↓r_expr, ↓r_asg, ↓r_par, ↓r_app, ↓r_ext, ↓r_sto, ↓r_or1, ↓r_or, ↓r_and1, ↓r_and, ↓r_vor1, ↓r_vor, ↓r_vand1, ↓r_vand, ↓r_not, ↓r_tru, ↓r_isB, ↓r_eC, ↓r_rd, ↓r_vl, ↓r_rV, ↓r_eV, ↓r_uV, ↓r_uVl, ↓r_sq0, ↓r_sq, ↓r_e2, ↓r_e3, ↓r_call, ↓r_user, ↓r_enot, ↓r_eneg, ↓r_tup, ↓r_lst, ↓r_sl, ↓r_noP, ↓r_aP, ↓r_iOf, ↓r_iF, ↓r_def, ↓r_ref, r_seqNx, r_seqRt, r_seqBk, r_seqCt, r_ifT, r_ifF, r_setV, r_setOt, r_setOl, r_setOd, r_setOs, r_retK, r_retVv, r_retVo, r_asgK, r_tgN, r_tgT, r_tgL, r_tgs0, r_tgs, r_parK, r_ownL, r_ownLo, r_ownD, r_ownDo, r_appK, r_appJ, r_extK, r_extJ, r_stoK, r_stoI, r_stoJ, r_stoL, r_orT, r_orF, r_andT, r_andF, r_vorK, r_vorT, r_vorF, r_vandK, r_vandT, r_vandF, r_notK, r_truK, r_truB, r_truI, r_truL, r_truT, r_truN, r_isBK, r_rdV, r_rdO, r_dV, r_dO, r_valV, r_valL, r_valD, r_rVv, r_rVo, r_rVb, r_eVv, r_uVv, r_uVo, r_uVb, r_uVlK, r_sqK, r_consK, r_opK, r_opJ, r_chK, r_chJ, r_chT, r_chF, r_clK, r_ntK, r_ngK, r_tpK, r_lsK, r_slK, r_slJ, r_slI, r_slL, r_slT, r_aPK, r_sqL, r_sqT, r_sqS, r_rtR, r_rtN, r_refO, r_refE, r_wdK, r_bAdd, r_bSub, r_bMul, r_bDiv, r_bMod, r_bPow, r_cLt, r_cLe, r_cGt, r_cGe, r_cEq, r_cNe, r_ixL, r_ixT, r_of, r_lenL, r_lenT, r_lenS, Pd.R.bind_ok, Pd.R.bind_err, Pd.R.bind_stuck, noE_ok', mul_r, div_i, mod_i, add_i, sub_i, lt_i, le_i, gt_i, ge_i, eq_i, ne_i, pow18, List.cons_append, List.nil_append, List.getElem?_cons_zero, List.getElem?_cons_succ, List.replicate_succ, List.replicate_zero, List.set_cons_zero, List.set_cons_succ, List.length_cons, List.length_nil, if_true, if_false, Bool.not_true, Bool.not_false, Bool.false_eq_true, ↓reduceIte, Nat.reduceAdd, Nat.reduceLeDiff, Nat.reduceLT, Nat.zero_add, Option.map_some, Int.cast_ofNat_Int, Int.natCast_one, Int.natCast_zero, Int.reduceBEq, Int.reduceLT, Int.reduceLE, Int.reduceAdd, Int.reduceSub, Int.reduceMul, Int.reduceNeg, Int.reduceDiv, Int.reduceMod, decide_true, decide_false]
theorem lw_while (p : Sl) : ∀ (n s : Nat) (hs : List Nat) (F : List (Option Nat)) (s5 s6 s7 : Sl), F.length = m → nn F + (if hs = [] then 0 else 1) < n →
    ∃ F' s', Bfs m ls s hs F F' ∧ ∃ h5 h6 h7, whR lwC lwB n [.val (ringD m ls), p, .own (.lst (fD F)), .val (.lst (nD hs)), .val (.int s), s5, s6, s7] = .ok (.nx [.val (ringD m ls), p, .own (.lst (fD F')), .val (.lst (nD [])), .val (.int (s' : Nat)), h5, h6, h7])
  | 0, _, _, _, _, _, _, _, hn => absurd hn (Nat.not_lt_zero _)
  | n + 1, s, hs, F, s5, s6, s7, hF, hn => by
    have hne := ne_nil hs
    cases hs with
    | nil =>
      refine ⟨F, s, .done s F, s5, s6, s7, ?_⟩
      have e : lwC [.val (ringD m ls), p, .own (.lst (fD F)), .val (.lst (nD [])), .val (.int s), s5, s6, s7] = .ok false := by
        unfold lwC
        simp (implicitDefEqProofs := false) (disch := omega) only [↓r_seq, ↓r_next, ↓r_if, ↓r_eif, ↓r_set, ↓r_ret, ↓r_retV, ↓r_expr, ↓r_asg, ↓r_par, ↓r_app, ↓r_ext, ↓r_sto, ↓r_or1, ↓r_or, ↓r_and1, ↓r_and, ↓r_vor1, ↓r_vor, ↓r_vand1, ↓r_vand, ↓r_not, ↓r_tru, ↓r_isB, ↓r_eC, ↓r_rd, ↓r_vl, ↓r_rV, ↓r_eV, ↓r_uV, ↓r_uVl, ↓r_sq0, ↓r_sq, ↓r_e2, ↓r_e3, ↓r_call, ↓r_user, ↓r_enot, ↓r_eneg, ↓r_tup, ↓r_lst, ↓r_sl, ↓r_noP, ↓r_aP, ↓r_iOf, ↓r_iF, ↓r_def, ↓r_ref, r_seqNx, r_seqRt, r_seqBk, r_seqCt, r_ifT, r_ifF, r_setV, r_setOt, r_setOl, r_setOd, r_setOs, r_retK, r_retVv, r_retVo, r_asgK, r_tgN, r_tgT, r_tgL, r_tgs0, r_tgs, r_parK, r_ownL, r_ownLo, r_ownD, r_ownDo, r_appK, r_appJ, r_extK, r_extJ, r_stoK, r_stoI, r_stoJ, r_stoL, r_orT, r_orF, r_andT, r_andF, r_vorK, r_vorT, r_vorF, r_vandK, r_vandT, r_vandF, r_notK, r_truK, r_truB, r_truI, r_truL, r_truT, r_truN, r_isBK, r_rdV, r_rdO, r_dV, r_dO, r_valV, r_valL, r_valD, r_rVv, r_rVo, r_rVb, r_eVv, r_uVv, r_uVo, r_uVb, r_uVlK, r_sqK, r_consK, r_opK, r_opJ, r_chK, r_chJ, r_chT, r_chF, r_clK, r_ntK, r_ngK, r_tpK, r_lsK, r_slK, r_slJ, r_slI, r_slL, r_slT, r_aPK, r_sqL, r_sqT, r_sqS, r_rtR, r_rtN, r_refO, r_refE, r_wdK, r_bAdd, r_bSub, r_bMul, r_bDiv, r_bMod, r_bPow, r_cLt, r_cLe, r_cGt, r_cGe, r_cEq, r_cNe, r_ixL, r_ixT, r_of, r_lenL, r_lenT, r_lenS, Pd.R.bind_ok, Pd.R.bind_err, Pd.R.bind_stuck, noE_ok', mul_r, div_i, mod_i, add_i, sub_i, lt_i, le_i, gt_i, ge_i, eq_i, ne_i, pow18, List.cons_append, List.nil_append, List.getElem?_cons_zero, List.getElem?_cons_succ, List.replicate_succ, List.replicate_zero, List.set_cons_zero, List.set_cons_succ, List.length_cons, List.length_nil, if_true, if_false, Bool.not_true, Bool.not_false, Bool.false_eq_true, ↓reduceIte, Nat.reduceAdd, Nat.reduceLeDiff, Nat.reduceLT, Nat.zero_add, Option.map_some, Int.cast_ofNat_Int, Int.natCast_one, Int.natCast_zero, Int.reduceBEq, Int.reduceLT, Int.reduceLE, Int.reduceAdd, Int.reduceSub, Int.reduceMul, Int.reduceNeg, Int.reduceDiv, Int.reduceMod, decide_true, decide_false, hne]
        rfl
      rw [whR, e]
      rfl
    | cons h hs =>
      have e : lwC [.val (ringD m ls), p, .own (.lst (fD F)), .val (.lst (nD (h :: hs))), .val (.int s), s5, s6, s7] = .ok true := by
        unfold lwC
        simp (implicitDefEqProofs := false) (disch := omega) only [↓r_seq, ↓r_next, ↓r_if, ↓r_eif, ↓r_set, ↓r_ret, ↓r_retV, ↓r_expr, ↓r_asg, ↓r_par, ↓r_app, ↓r_ext, ↓r_sto, ↓r_or1, ↓r_or, ↓r_and1, ↓r_and, ↓r_vor1, ↓r_vor, ↓r_vand1, ↓r_vand, ↓r_not, ↓r_tru, ↓r_isB, ↓r_eC, ↓r_rd, ↓r_vl, ↓r_rV, ↓r_eV, ↓r_uV, ↓r_uVl, ↓r_sq0, ↓r_sq, ↓r_e2, ↓r_e3, ↓r_call, ↓r_user, ↓r_enot, ↓r_eneg, ↓r_tup, ↓r_lst, ↓r_sl, ↓r_noP, ↓r_aP, ↓r_iOf, ↓r_iF, ↓r_def, ↓r_ref, r_seqNx, r_seqRt, r_seqBk, r_seqCt, r_ifT, r_ifF, r_setV, r_setOt, r_setOl, r_setOd, r_setOs, r_retK, r_retVv, r_retVo, r_asgK, r_tgN, r_tgT, r_tgL, r_tgs0, r_tgs, r_parK, r_ownL, r_ownLo, r_ownD, r_ownDo, r_appK, r_appJ, r_extK, r_extJ, r_stoK, r_stoI, r_stoJ, r_stoL, r_orT, r_orF, r_andT, r_andF, r_vorK, r_vorT, r_vorF, r_vandK, r_vandT, r_vandF, r_notK, r_truK, r_truB, r_truI, r_truL, r_truT, r_truN, r_isBK, r_rdV, r_rdO, r_dV, r_dO, r_valV, r_valL, r_valD, r_rVv, r_rVo, r_rVb, r_eVv, r_uVv, r_uVo, r_uVb, r_uVlK, r_sqK, r_consK, r_opK, r_opJ, r_chK, r_chJ, r_chT, r_chF, r_clK, r_ntK, r_ngK, r_tpK, r_lsK, r_slK, r_slJ, r_slI, r_slL, r_slT, r_aPK, r_sqL, r_sqT, r_sqS, r_rtR, r_rtN, r_refO, r_refE, r_wdK, r_bAdd, r_bSub, r_bMul, r_bDiv, r_bMod, r_bPow, r_cLt, r_cLe, r_cGt, r_cGe, r_cEq, r_cNe, r_ixL, r_ixT, r_of, r_lenL, r_lenT, r_lenS, Pd.R.bind_ok, Pd.R.bind_err, Pd.R.bind_stuck, noE_ok', mul_r, div_i, mod_i, add_i, sub_i, lt_i, le_i, gt_i, ge_i, eq_i, ne_i, pow18, List.cons_append, List.nil_append, List.getElem?_cons_zero, List.getElem?_cons_succ, List.replicate_succ, List.replicate_zero, List.set_cons_zero, List.set_cons_succ, List.length_cons, List.length_nil, if_true, if_false, Bool.not_true, Bool.not_false, Bool.false_eq_true, ↓reduceIte, Nat.reduceAdd, Nat.reduceLeDiff, Nat.reduceLT, Nat.zero_add, Option.map_some, Int.cast_ofNat_Int, Int.natCast_one, Int.natCast_zero, Int.reduceBEq, Int.reduceLT, Int.reduceLE, Int.reduceAdd, Int.reduceSub, Int.reduceMul, Int.reduceNeg, Int.reduceDiv, Int.reduceMod, decide_true, decide_false, hne]
        rfl
      obtain ⟨s6', s7', eb⟩ := lw_body R p s h hs F s5 s6 s7 hF
      obtain ⟨v1, v2⟩ := lev_len m ls (s + 1) (h :: hs) (F, [])
      rw [if_neg (by simp)] at hn
      have v2' : (lev m ls (s + 1) (h :: hs) (F, [])).2.length + nn (lev m ls (s + 1) (h :: hs) (F, [])).1 = 0 + nn F := v2
      obtain ⟨F', s', b, h5, h6, h7, ew⟩ := lw_while p n (s + 1) (lev m ls (s + 1) (h :: hs) (F, [])).2 (lev m ls (s + 1) (h :: hs) (F, [])).1 (.val (.lst (nD (lev m ls (s + 1) (h :: hs) (F, [])).2))) s6' s7' (v1.trans hF) (by
        split
        · omega
        · rename_i hx
          have := List.length_pos_iff.mpr hx
          omega)
      refine ⟨F', s', .step s h hs F F' b, h5, h6, h7, ?_⟩
      rw [whR, e, Pd.R.bind_ok, if_pos rfl, eb, Pd.R.bind_ok]
      exact ew
theorem lsteps_v {p : Nat} (hp : p < m) : ∃ F, Bfs m ls 0 [p] ((List.replicate m none).set p (some 0)) F ∧ d__law_steps [.val (ringD m ls), .val (.int p)] = .ok (.o (.lst (fD F))) := by
  have h100 := R.m100
  have i0 : atI [D.int (m : Int), .tup (nD ls)] 0 = some (.int m) := rfl
  have hmul : dMul (.lst [.non]) (.int m) = some (.o (.lst (fD (List.replicate m none)))) := by
    unfold dMul
    dsimp only
    rw [if_pos ⟨by omega, by omega, by rw [Int.toNat_natCast, List.length_singleton]; unfold line; omega⟩, Int.toNat_natCast]
    unfold fD
    rw [List.map_replicate, List.flatten_replicate_singleton]
    rfl
  have hst := sto_l (ds := fD (List.replicate m none)) (k := p) (.int ((0 : Nat) : Int)) (by rw [fD_len, List.length_replicate]; exact hp)
  rw [fD_set] at hst
  have hl : ((List.replicate m (none : Option Nat)).set p (some 0)).length = m := by rw [List.length_set, List.length_replicate]
  obtain ⟨F, s', b, h5, h6, h7, ew⟩ := lw_while R (.val (.int p)) whN 0 [p] ((List.replicate m none).set p (some 0)) .un .un .un hl (by
    have := nn_le ((List.replicate m (none : Option Nat)).set p (some 0))
    rw [if_neg (by simp)]
    unfold whN
    omega)
  refine ⟨F, b, ?_⟩
  unfold d__law_steps
  refine def_rt ?_
  unfold f__law_steps
  show sSeq _ _ [.val (ringD m ls), .val (.int p), .un, .un, .un, .un, .un, .un] = _
  refine seq_nx (Γ1 := [.val (ringD m ls), .val (.int p), .own (.lst (fD (List.replicate m none))), .un, .un, .un, .un, .un]) ?_ ?_
  · unfold ringD
    simp (implicitDefEqProofs := false) (disch := omega) only [↓r_seq, ↓r_next, ↓r_if, ↓r_eif, ↓r_set, ↓r_ret, ↓r_retV, ↓r_expr, ↓r_asg, ↓r_par, ↓r_app, ↓r_ext, ↓r_sto, ↓r_or1, ↓r_or, ↓r_and1, ↓r_and, ↓r_vor1, ↓r_vor, ↓r_vand1, ↓r_vand, ↓r_not, ↓r_tru, ↓r_isB, ↓r_eC, ↓r_rd, ↓r_vl, ↓r_rV, ↓r_eV, ↓r_uV, ↓r_uVl, ↓r_sq0, ↓r_sq, ↓r_e2, ↓r_e3, ↓r_call, ↓r_user, ↓r_enot, ↓r_eneg, ↓r_tup, ↓r_lst, ↓r_sl, ↓r_noP, ↓r_aP, ↓r_iOf, ↓r_iF, ↓r_def, ↓r_ref, r_seqNx, r_seqRt, r_seqBk, r_seqCt, r_ifT, r_ifF, r_setV, r_setOt, r_setOl, r_setOd, r_setOs, r_retK, r_retVv, r_retVo, r_asgK, r_tgN, r_tgT, r_tgL, r_tgs0, r_tgs, r_parK, r_ownL, r_ownLo, r_ownD, r_ownDo, r_appK, r_appJ, r_extK, r_extJ, r_stoK, r_stoI, r_stoJ, r_stoL, r_orT, r_orF, r_andT, r_andF, r_vorK, r_vorT, r_vorF, r_vandK, r_vandT, r_vandF, r_notK, r_truK, r_truB, r_truI, r_truL, r_truT, r_truN, r_isBK, r_rdV, r_rdO, r_dV, r_dO, r_valV, r_valL, r_valD, r_rVv, r_rVo, r_rVb, r_eVv, r_uVv, r_uVo, r_uVb, r_uVlK, r_sqK, r_consK, r_opK, r_opJ, r_chK, r_chJ, r_chT, r_chF, r_clK, r_ntK, r_ngK, r_tpK, r_lsK, r_slK, r_slJ, r_slI, r_slL, r_slT, r_aPK, r_sqL, r_sqT, r_sqS, r_rtR, r_rtN, r_refO, r_refE, r_wdK, r_bAdd, r_bSub, r_bMul, r_bDiv, r_bMod, r_bPow, r_cLt, r_cLe, r_cGt, r_cGe, r_cEq, r_cNe, r_ixL, r_ixT, r_of, r_lenL, r_lenT, r_lenS, Pd.R.bind_ok, Pd.R.bind_err, Pd.R.bind_stuck, noE_ok', mul_r, div_i, mod_i, add_i, sub_i, lt_i, le_i, gt_i, ge_i, eq_i, ne_i, pow18, List.cons_append, List.nil_append, List.getElem?_cons_zero, List.getElem?_cons_succ, List.replicate_succ, List.replicate_zero, List.set_cons_zero, List.set_cons_succ, List.length_cons, List.length_nil, if_true, if_false, Bool.not_true, Bool.not_false, Bool.false_eq_true, ↓reduceIte, Nat.reduceAdd, Nat.reduceLeDiff, Nat.reduceLT, Nat.zero_add, Option.map_some, Int.cast_ofNat_Int, Int.natCast_one, Int.natCast_zero, Int.reduceBEq, Int.reduceLT, Int.reduceLE, Int.reduceAdd, Int.reduceSub, Int.reduceMul, Int.reduceNeg, Int.reduceDiv, Int.reduceMod, decide_true, decide_false, i0, hmul]
  refine seq_nx (Γ1 := [.val (ringD m ls), .val (.int p), .own (.lst (fD ((List.replicate m none).set p (some 0)))), .un, .un, .un, .un, .un]) ?_ ?_
  · rw [show ((0 : Nat) : Int) = 0 from rfl] at hst
    simp (implicitDefEqProofs := false) (disch := omega) only [↓r_seq, ↓r_next, ↓r_if, ↓r_eif, ↓r_set, ↓r_ret, ↓r_retV, ↓r_expr, ↓r_asg, ↓r_par, ↓r_app, ↓r_ext, ↓r_sto, ↓r_or1, ↓r_or, ↓r_and1, ↓r_and, ↓r_vor1, ↓r_vor, ↓r_vand1, ↓r_vand, ↓r_not, ↓r_tru, ↓r_isB, ↓r_eC, ↓r_rd, ↓r_vl, ↓r_rV, ↓r_eV, ↓r_uV, ↓r_uVl, ↓r_sq0, ↓r_sq, ↓r_e2, ↓r_e3, ↓r_call, ↓r_user, ↓r_enot, ↓r_eneg, ↓r_tup, ↓r_lst, ↓r_sl, ↓r_noP, ↓r_aP, ↓r_iOf, ↓r_iF, ↓r_def, ↓r_ref, r_seqNx, r_seqRt, r_seqBk, r_seqCt, r_ifT, r_ifF, r_setV, r_setOt, r_setOl, r_setOd, r_setOs, r_retK, r_retVv, r_retVo, r_asgK, r_tgN, r_tgT, r_tgL, r_tgs0, r_tgs, r_parK, r_ownL, r_ownLo, r_ownD, r_ownDo, r_appK, r_appJ, r_extK, r_extJ, r_stoK, r_stoI, r_stoJ, r_stoL, r_orT, r_orF, r_andT, r_andF, r_vorK, r_vorT, r_vorF, r_vandK, r_vandT, r_vandF, r_notK, r_truK, r_truB, r_truI, r_truL, r_truT, r_truN, r_isBK, r_rdV, r_rdO, r_dV, r_dO, r_valV, r_valL, r_valD, r_rVv, r_rVo, r_rVb, r_eVv, r_uVv, r_uVo, r_uVb, r_uVlK, r_sqK, r_consK, r_opK, r_opJ, r_chK, r_chJ, r_chT, r_chF, r_clK, r_ntK, r_ngK, r_tpK, r_lsK, r_slK, r_slJ, r_slI, r_slL, r_slT, r_aPK, r_sqL, r_sqT, r_sqS, r_rtR, r_rtN, r_refO, r_refE, r_wdK, r_bAdd, r_bSub, r_bMul, r_bDiv, r_bMod, r_bPow, r_cLt, r_cLe, r_cGt, r_cGe, r_cEq, r_cNe, r_ixL, r_ixT, r_of, r_lenL, r_lenT, r_lenS, Pd.R.bind_ok, Pd.R.bind_err, Pd.R.bind_stuck, noE_ok', mul_r, div_i, mod_i, add_i, sub_i, lt_i, le_i, gt_i, ge_i, eq_i, ne_i, pow18, List.cons_append, List.nil_append, List.getElem?_cons_zero, List.getElem?_cons_succ, List.replicate_succ, List.replicate_zero, List.set_cons_zero, List.set_cons_succ, List.length_cons, List.length_nil, if_true, if_false, Bool.not_true, Bool.not_false, Bool.false_eq_true, ↓reduceIte, Nat.reduceAdd, Nat.reduceLeDiff, Nat.reduceLT, Nat.zero_add, Option.map_some, Int.cast_ofNat_Int, Int.natCast_one, Int.natCast_zero, Int.reduceBEq, Int.reduceLT, Int.reduceLE, Int.reduceAdd, Int.reduceSub, Int.reduceMul, Int.reduceNeg, Int.reduceDiv, Int.reduceMod, decide_true, decide_false, hst]
  refine seq_nx (Γ1 := [.val (ringD m ls), .val (.int p), .own (.lst (fD ((List.replicate m none).set p (some 0)))), .val (.lst (nD [p])), .un, .un, .un, .un]) ?_ ?_
  · simp (implicitDefEqProofs := false) (disch := omega) only [↓r_seq, ↓r_next, ↓r_if, ↓r_eif, ↓r_set, ↓r_ret, ↓r_retV, ↓r_expr, ↓r_asg, ↓r_par, ↓r_app, ↓r_ext, ↓r_sto, ↓r_or1, ↓r_or, ↓r_and1, ↓r_and, ↓r_vor1, ↓r_vor, ↓r_vand1, ↓r_vand, ↓r_not, ↓r_tru, ↓r_isB, ↓r_eC, ↓r_rd, ↓r_vl, ↓r_rV, ↓r_eV, ↓r_uV, ↓r_uVl, ↓r_sq0, ↓r_sq, ↓r_e2, ↓r_e3, ↓r_call, ↓r_user, ↓r_enot, ↓r_eneg, ↓r_tup, ↓r_lst, ↓r_sl, ↓r_noP, ↓r_aP, ↓r_iOf, ↓r_iF, ↓r_def, ↓r_ref, r_seqNx, r_seqRt, r_seqBk, r_seqCt, r_ifT, r_ifF, r_setV, r_setOt, r_setOl, r_setOd, r_setOs, r_retK, r_retVv, r_retVo, r_asgK, r_tgN, r_tgT, r_tgL, r_tgs0, r_tgs, r_parK, r_ownL, r_ownLo, r_ownD, r_ownDo, r_appK, r_appJ, r_extK, r_extJ, r_stoK, r_stoI, r_stoJ, r_stoL, r_orT, r_orF, r_andT, r_andF, r_vorK, r_vorT, r_vorF, r_vandK, r_vandT, r_vandF, r_notK, r_truK, r_truB, r_truI, r_truL, r_truT, r_truN, r_isBK, r_rdV, r_rdO, r_dV, r_dO, r_valV, r_valL, r_valD, r_rVv, r_rVo, r_rVb, r_eVv, r_uVv, r_uVo, r_uVb, r_uVlK, r_sqK, r_consK, r_opK, r_opJ, r_chK, r_chJ, r_chT, r_chF, r_clK, r_ntK, r_ngK, r_tpK, r_lsK, r_slK, r_slJ, r_slI, r_slL, r_slT, r_aPK, r_sqL, r_sqT, r_sqS, r_rtR, r_rtN, r_refO, r_refE, r_wdK, r_bAdd, r_bSub, r_bMul, r_bDiv, r_bMod, r_bPow, r_cLt, r_cLe, r_cGt, r_cGe, r_cEq, r_cNe, r_ixL, r_ixT, r_of, r_lenL, r_lenT, r_lenS, Pd.R.bind_ok, Pd.R.bind_err, Pd.R.bind_stuck, noE_ok', mul_r, div_i, mod_i, add_i, sub_i, lt_i, le_i, gt_i, ge_i, eq_i, ne_i, pow18, List.cons_append, List.nil_append, List.getElem?_cons_zero, List.getElem?_cons_succ, List.replicate_succ, List.replicate_zero, List.set_cons_zero, List.set_cons_succ, List.length_cons, List.length_nil, if_true, if_false, Bool.not_true, Bool.not_false, Bool.false_eq_true, ↓reduceIte, Nat.reduceAdd, Nat.reduceLeDiff, Nat.reduceLT, Nat.zero_add, Option.map_some, Int.cast_ofNat_Int, Int.natCast_one, Int.natCast_zero, Int.reduceBEq, Int.reduceLT, Int.reduceLE, Int.reduceAdd, Int.reduceSub, Int.reduceMul, Int.reduceNeg, Int.reduceDiv, Int.reduceMod, decide_true, decide_false]
    rfl
  refine seq_nx (Γ1 := [.val (ringD m ls), .val (.int p), .own (.lst (fD ((List.replicate m none).set p (some 0)))), .val (.lst (nD [p])), .val (.int (0 : Nat)), .un, .un, .un]) ?_ ?_
  · simp (implicitDefEqProofs := false) (disch := omega) only [↓r_seq, ↓r_next, ↓r_if, ↓r_eif, ↓r_set, ↓r_ret, ↓r_retV, ↓r_expr, ↓r_asg, ↓r_par, ↓r_app, ↓r_ext, ↓r_sto, ↓r_or1, ↓r_or, ↓r_and1, ↓r_and, ↓r_vor1, ↓r_vor, ↓r_vand1, ↓r_vand, ↓r_not, ↓r_tru, ↓r_isB, ↓r_eC, ↓r_rd, ↓r_vl, ↓r_rV, ↓r_eV, ↓r_uV, ↓r_uVl, ↓r_sq0, ↓r_sq, ↓r_e2, ↓r_e3, ↓r_call, ↓r_user, ↓r_enot, ↓r_eneg, ↓r_tup, ↓r_lst, ↓r_sl, ↓r_noP, ↓r_aP, ↓r_iOf, ↓r_iF, ↓r_def, ↓r_ref, r_seqNx, r_seqRt, r_seqBk, r_seqCt, r_ifT, r_ifF, r_setV, r_setOt, r_setOl, r_setOd, r_setOs, r_retK, r_retVv, r_retVo, r_asgK, r_tgN, r_tgT, r_tgL, r_tgs0, r_tgs, r_parK, r_ownL, r_ownLo, r_ownD, r_ownDo, r_appK, r_appJ, r_extK, r_extJ, r_stoK, r_stoI, r_stoJ, r_stoL, r_orT, r_orF, r_andT, r_andF, r_vorK, r_vorT, r_vorF, r_vandK, r_vandT, r_vandF, r_notK, r_truK, r_truB, r_truI, r_truL, r_truT, r_truN, r_isBK, r_rdV, r_rdO, r_dV, r_dO, r_valV, r_valL, r_valD, r_rVv, r_rVo, r_rVb, r_eVv, r_uVv, r_uVo, r_uVb, r_uVlK, r_sqK, r_consK, r_opK, r_opJ, r_chK, r_chJ, r_chT, r_chF, r_clK, r_ntK, r_ngK, r_tpK, r_lsK, r_slK, r_slJ, r_slI, r_slL, r_slT, r_aPK, r_sqL, r_sqT, r_sqS, r_rtR, r_rtN, r_refO, r_refE, r_wdK, r_bAdd, r_bSub, r_bMul, r_bDiv, r_bMod, r_bPow, r_cLt, r_cLe, r_cGt, r_cGe, r_cEq, r_cNe, r_ixL, r_ixT, r_of, r_lenL, r_lenT, r_lenS, Pd.R.bind_ok, Pd.R.bind_err, Pd.R.bind_stuck, noE_ok', mul_r, div_i, mod_i, add_i, sub_i, lt_i, le_i, gt_i, ge_i, eq_i, ne_i, pow18, List.cons_append, List.nil_append, List.getElem?_cons_zero, List.getElem?_cons_succ, List.replicate_succ, List.replicate_zero, List.set_cons_zero, List.set_cons_succ, List.length_cons, List.length_nil, if_true, if_false, Bool.not_true, Bool.not_false, Bool.false_eq_true, ↓reduceIte, Nat.reduceAdd, Nat.reduceLeDiff, Nat.reduceLT, Nat.zero_add, Option.map_some, Int.cast_ofNat_Int, Int.natCast_one, Int.natCast_zero, Int.reduceBEq, Int.reduceLT, Int.reduceLE, Int.reduceAdd, Int.reduceSub, Int.reduceMul, Int.reduceNeg, Int.reduceDiv, Int.reduceMod, decide_true, decide_false]
  refine seq_nx ew ?_
  simp (implicitDefEqProofs := false) (disch := omega) only [↓r_seq, ↓r_next, ↓r_if, ↓r_eif, ↓r_set, ↓r_ret, ↓r_retV, ↓r_expr, ↓r_asg, ↓r_par, ↓r_app, ↓r_ext, ↓r_sto, ↓r_or1, ↓r_or, ↓r_and1, ↓r_and, ↓r_vor1, ↓r_vor, ↓r_vand1, ↓r_vand, ↓r_not, ↓r_tru, ↓r_isB, ↓r_eC, ↓r_rd, ↓r_vl, ↓r_rV, ↓r_eV, ↓r_uV, ↓r_uVl, ↓r_sq0, ↓r_sq, ↓r_e2, ↓r_e3, ↓r_call, ↓r_user, ↓r_enot, ↓r_eneg, ↓r_tup, ↓r_lst, ↓r_sl, ↓r_noP, ↓r_aP, ↓r_iOf, ↓r_iF, ↓r_def, ↓r_ref, r_seqNx, r_seqRt, r_seqBk, r_seqCt, r_ifT, r_ifF, r_setV, r_setOt, r_setOl, r_setOd, r_setOs, r_retK, r_retVv, r_retVo, r_asgK, r_tgN, r_tgT, r_tgL, r_tgs0, r_tgs, r_parK, r_ownL, r_ownLo, r_ownD, r_ownDo, r_appK, r_appJ, r_extK, r_extJ, r_stoK, r_stoI, r_stoJ, r_stoL, r_orT, r_orF, r_andT, r_andF, r_vorK, r_vorT, r_vorF, r_vandK, r_vandT, r_vandF, r_notK, r_truK, r_truB, r_truI, r_truL, r_truT, r_truN, r_isBK, r_rdV, r_rdO, r_dV, r_dO, r_valV, r_valL, r_valD, r_rVv, r_rVo, r_rVb, r_eVv, r_uVv, r_uVo, r_uVb, r_uVlK, r_sqK, r_consK, r_opK, r_opJ, r_chK, r_chJ, r_chT, r_chF, r_clK, r_ntK, r_ngK, r_tpK, r_lsK, r_slK, r_slJ, r_slI, r_slL, r_slT, r_aPK, r_sqL, r_sqT, r_sqS, r_rtR, r_rtN, r_refO, r_refE, r_wdK, r_bAdd, r_bSub, r_bMul, r_bDiv, r_bMod, r_bPow, r_cLt, r_cLe, r_cGt, r_cGe, r_cEq, r_cNe, r_ixL, r_ixT, r_of, r_lenL, r_lenT, r_lenS, Pd.R.bind_ok, Pd.R.bind_err, Pd.R.bind_stuck, noE_ok', mul_r, div_i, mod_i, add_i, sub_i, lt_i, le_i, gt_i, ge_i, eq_i, ne_i, pow18, List.cons_append, List.nil_append, List.getElem?_cons_zero, List.getElem?_cons_succ, List.replicate_succ, List.replicate_zero, List.set_cons_zero, List.set_cons_succ, List.length_cons, List.length_nil, if_true, if_false, Bool.not_true, Bool.not_false, Bool.false_eq_true, ↓reduceIte, Nat.reduceAdd, Nat.reduceLeDiff, Nat.reduceLT, Nat.zero_add, Option.map_some, Int.cast_ofNat_Int, Int.natCast_one, Int.natCast_zero, Int.reduceBEq, Int.reduceLT, Int.reduceLE, Int.reduceAdd, Int.reduceSub, Int.reduceMul, Int.reduceNeg, Int.reduceDiv, Int.reduceMod, decide_true, decide_false]
end
end Pd

set_option Elab.async false
set_option linter.all false
set_option maxRecDepth 100000
set_option maxHeartbeats 1000000
namespace Pd
open PySem PySem.Spec L2 Pr

def Wk (m : Nat) (ls : List Nat) : Nat → Nat → Nat → Prop
  | 0, p, q => p = q
  | n + 1, p, q => ∃ r, Wk m ls n p r ∧ q ∈ nearN m ls r
def IsD (m : Nat) (ls : List Nat) (p q n : Nat) : Prop := Wk m ls n p q ∧ ∀ k, k < n → ¬ Wk m ls k p q
section
variable {m : Nat} {ls : List Nat} {p : Nat}
theorem wk_min : ∀ (n : Nat) {q : Nat}, Wk m ls n p q → ∃ t, t ≤ n ∧ IsD m ls p q t := by
  intro n
  induction n using Nat.strongRecOn with
  | ind n ih =>
    intro q h
    by_cases hx : ∃ k, k < n ∧ Wk m ls k p q
    · obtain ⟨k, hk, hw⟩ := hx
      obtain ⟨t, ht, hd⟩ := ih k hk hw
      exact ⟨t, by omega, hd⟩
    · exact ⟨n, Nat.le_refl _, h, fun k hk hw => hx ⟨k, hk, hw⟩⟩
theorem isD_unique {q s t : Nat} (h : IsD m ls p q s) (h' : IsD m ls p q t) : s = t := by
  rcases Nat.lt_trichotomy s t with x | x | x
  · exact absurd h.1 (h'.2 s x)
  · exact x
  · exact absurd h'.1 (h.2 t x)
theorem isD_pred {q s : Nat} (h : IsD m ls p q (s + 1)) : ∃ r, IsD m ls p r s ∧ q ∈ nearN m ls r := by
  obtain ⟨r, hw, hq⟩ := h.1
  exact ⟨r, ⟨hw, fun k hk hw' => h.2 (k + 1) (by omega) ⟨r, hw', hq⟩⟩, hq⟩
theorem wk_lt (hp : p < m) : ∀ {n q : Nat}, Wk m ls n p q → q < m
  | 0, q, h => by
    have : p = q := h
    omega
  | n + 1, q, ⟨r, _, h⟩ => near_lt h
theorem vis_get (s : Nat) : ∀ (os : List Nat) (st : List (Option Nat) × List Nat) (q : Nat), ((st.1[q]? = some none ∧ q ∈ os) → (vis s os st).1[q]? = some (some s)) ∧ (¬ (st.1[q]? = some none ∧ q ∈ os) → (vis s os st).1[q]? = st.1[q]?) ∧ (q ∈ (vis s os st).2 ↔ q ∈ st.2 ∨ (st.1[q]? = some none ∧ q ∈ os))
  | [], st, q => ⟨fun h => absurd h.2 List.not_mem_nil, fun _ => rfl, ⟨.inl, fun h => h.elim id fun h => absurd h.2 List.not_mem_nil⟩⟩
  | o :: os, st, q => by
    rw [vis]
    split
    · rename_i ho
      obtain ⟨h1, h2, h3⟩ := vis_get s os (st.1.set o (some s), st.2 ++ [o]) q
      have hl := (List.getElem?_eq_some_iff.mp ho).1
      by_cases e : q = o
      · subst e
        have hs : (st.1.set q (some s))[q]? = some (some s) := List.getElem?_set_self hl
        refine ⟨fun _ => (h2 fun x => ?_).trans hs, fun x => absurd ⟨ho, List.mem_cons_self ..⟩ x, ?_⟩
        · have := x.1
          rw [hs] at this
          cases this
        · rw [h3]
          exact ⟨fun _ => .inr ⟨ho, List.mem_cons_self ..⟩, fun _ => .inl (List.mem_append_right _ (List.mem_singleton.mpr rfl))⟩
      · have hs : (st.1.set o (some s))[q]? = st.1[q]? := List.getElem?_set_ne (fun x => e x.symm)
        dsimp only at h1 h2 h3
        rw [hs] at h1 h2 h3
        have hm : q ∈ o :: os ↔ q ∈ os := by rw [List.mem_cons]; exact ⟨fun h => h.resolve_left e, .inr⟩
        rw [hm]
        refine ⟨h1, h2, ?_⟩
        rw [h3, List.mem_append, List.mem_singleton]
        exact ⟨fun h => h.elim (fun h => h.elim .inl fun h => absurd h e) .inr, fun h => h.elim (fun h => .inl (.inl h)) .inr⟩
    · rename_i ho
      obtain ⟨h1, h2, h3⟩ := vis_get s os st q
      have hm : (st.1[q]? = some none ∧ q ∈ o :: os) ↔ (st.1[q]? = some none ∧ q ∈ os) := by
        rw [List.mem_cons]
        refine ⟨fun h => ⟨h.1, h.2.resolve_left fun e => ho (e ▸ h.1)⟩, fun h => ⟨h.1, .inr h.2⟩⟩
      rw [hm]
      exact ⟨h1, h2, h3⟩
theorem lev_get (s : Nat) : ∀ (hs : List Nat) (st : List (Option Nat) × List Nat) (q : Nat), ((st.1[q]? = some none ∧ ∃ h ∈ hs, q ∈ nearN m ls h) → (lev m ls s hs st).1[q]? = some (some s)) ∧ (¬ (st.1[q]? = some none ∧ ∃ h ∈ hs, q ∈ nearN m ls h) → (lev m ls s hs st).1[q]? = st.1[q]?) ∧ (q ∈ (lev m ls s hs st).2 ↔ q ∈ st.2 ∨ (st.1[q]? = some none ∧ ∃ h ∈ hs, q ∈ nearN m ls h))
  | [], st, q => ⟨fun ⟨_, h, x, _⟩ => absurd x List.not_mem_nil, fun _ => rfl, ⟨.inl, fun h => h.elim id fun ⟨_, h, x, _⟩ => absurd x List.not_mem_nil⟩⟩
  | h :: hs, st, q => by
    rw [lev]
    obtain ⟨h1, h2, h3⟩ := lev_get s hs (vis s (nearN m ls h) st) q
    obtain ⟨v1, v2, v3⟩ := vis_get s (nearN m ls h) st q
    by_cases hx : st.1[q]? = some none ∧ q ∈ nearN m ls h
    · have hv := v1 hx
      have hn : ¬ ((vis s (nearN m ls h) st).1[q]? = some none ∧ ∃ h ∈ hs, q ∈ nearN m ls h) := fun x => by
        have := x.1
        rw [hv] at this
        cases this
      refine ⟨fun _ => (h2 hn).trans hv, fun x => absurd ⟨hx.1, h, List.mem_cons_self .., hx.2⟩ x, ?_⟩
      rw [h3, v3]
      exact ⟨fun _ => .inr ⟨hx.1, h, List.mem_cons_self .., hx.2⟩, fun _ => .inl (.inr hx)⟩
    · have hv := v2 hx
      rw [hv] at h1 h2 h3
      have hm : (st.1[q]? = some none ∧ ∃ h' ∈ h :: hs, q ∈ nearN m ls h') ↔ (st.1[q]? = some none ∧ ∃ h ∈ hs, q ∈ nearN m ls h) := by
        constructor
        · rintro ⟨a, h', b, c⟩
          rcases List.mem_cons.mp b with rfl | b
          · exact absurd ⟨a, c⟩ hx
          · exact ⟨a, h', b, c⟩
        · rintro ⟨a, h', b, c⟩
          exact ⟨a, h', List.mem_cons_of_mem _ b, c⟩
      rw [hm]
      refine ⟨h1, h2, ?_⟩
      rw [h3, v3]
      exact ⟨fun x => x.elim (fun x => x.elim .inl fun x => absurd x hx) .inr, fun x => x.elim (fun x => .inl (.inl x)) .inr⟩
structure Inv (m : Nat) (ls : List Nat) (p s : Nat) (here : List Nat) (F : List (Option Nat)) : Prop where
  len : F.length = m
  found : ∀ q t, F[q]? = some (some t) ↔ IsD m ls p q t ∧ t ≤ s
  now : ∀ q, q ∈ here ↔ IsD m ls p q s
theorem Inv.next (hp : p < m) {s : Nat} {here : List Nat} {F : List (Option Nat)} (I : Inv m ls p s here F) : Inv m ls p (s + 1) (lev m ls (s + 1) here (F, [])).2 (lev m ls (s + 1) here (F, [])).1 := by
  have new : ∀ q, (F[q]? = some none ∧ ∃ h ∈ here, q ∈ nearN m ls h) ↔ IsD m ls p q (s + 1) := by
    intro q
    constructor
    · rintro ⟨a, h, b, c⟩
      have hd := (I.now h).mp b
      refine ⟨⟨h, hd.1, c⟩, fun k hk hw => ?_⟩
      obtain ⟨t, ht, hd'⟩ := wk_min k hw
      have := (I.found q t).mpr ⟨hd', by omega⟩
      rw [a] at this
      cases this
    · intro hd
      obtain ⟨r, hr, hq⟩ := isD_pred hd
      refine ⟨?_, r, (I.now r).mpr hr, hq⟩
      have hl : q < F.length := by rw [I.len]; exact near_lt hq
      cases e : F[q] with
      | none => rw [List.getElem?_eq_getElem hl, e]
      | some t =>
        have h1 := (I.found q t).mp (by rw [List.getElem?_eq_getElem hl, e])
        have := isD_unique h1.1 hd
        omega
  refine ⟨(lev_len m ls (s + 1) here (F, [])).1.trans I.len, fun q t => ?_, fun q => ?_⟩
  · obtain ⟨h1, h2, _⟩ := lev_get (m := m) (ls := ls) (s + 1) here (F, []) q
    by_cases hx : F[q]? = some none ∧ ∃ h ∈ here, q ∈ nearN m ls h
    · rw [h1 hx]
      have hd := (new q).mp hx
      constructor
      · intro e
        cases e
        exact ⟨hd, Nat.le_refl _⟩
      · rintro ⟨e, _⟩
        rw [isD_unique e hd]
    · rw [h2 hx]
      show F[q]? = some (some t) ↔ _
      rw [I.found]
      refine ⟨fun h => ⟨h.1, by omega⟩, fun h => ⟨h.1, ?_⟩⟩
      have : t ≠ s + 1 := fun e => hx ((new q).mpr (e ▸ h.1))
      omega
  · obtain ⟨_, _, h3⟩ := lev_get (m := m) (ls := ls) (s + 1) here (F, []) q
    rw [h3, ← new q]
    exact ⟨fun x => x.elim (fun x => absurd x List.not_mem_nil) id, .inr⟩
structure Dist (m : Nat) (ls : List Nat) (p : Nat) (F : List (Option Nat)) : Prop where
  len : F.length = m
  at_ : ∀ q t, F[q]? = some (some t) ↔ IsD m ls p q t
theorem Bfs.dist (hp : p < m) {s : Nat} {here : List Nat} {F F' : List (Option Nat)} (b : Bfs m ls s here F F') : Inv m ls p s here F → Dist m ls p F' := by
  induction b with
  | done s F =>
    intro I
    refine ⟨I.len, fun q t => ?_⟩
    rw [I.found]
    refine ⟨fun h => h.1, fun h => ⟨h, ?_⟩⟩
    have none : ∀ k q, ¬ IsD m ls p q (s + k) := by
      intro k
      induction k with
      | zero => exact fun q h => absurd ((I.now q).mpr h) List.not_mem_nil
      | succ k ih =>
        intro q h
        obtain ⟨r, hr, _⟩ := isD_pred h
        exact ih r hr
    by_cases ht : t ≤ s
    · exact ht
    · exact absurd (show IsD m ls p q (s + (t - s)) by rw [show s + (t - s) = t by omega]; exact h) (none _ _)
  | step s h hs F F' _ ih => exact fun I => ih (I.next hp)
theorem inv_start (hp : p < m) : Inv m ls p 0 [p] ((List.replicate m none).set p (some 0)) := by
  have z : ∀ q, IsD m ls p q 0 ↔ q = p := fun q => ⟨fun h => (show p = q from h.1).symm, fun h => ⟨show p = q from h.symm, fun k hk => absurd hk (Nat.not_lt_zero _)⟩⟩
  refine ⟨by rw [List.length_set, List.length_replicate], fun q t => ?_, fun q => by rw [List.mem_singleton, z]⟩
  by_cases e : q = p
  · subst e
    rw [List.getElem?_set_self (by rw [List.length_replicate]; exact hp)]
    constructor
    · intro h
      cases h
      exact ⟨(z q).mpr rfl, Nat.le_refl _⟩
    · rintro ⟨_, h⟩
      rw [show t = 0 by omega]
  · rw [List.getElem?_set_ne (fun x => e x.symm), List.getElem?_replicate]
    constructor
    · intro h
      split at h <;> cases h
    · rintro ⟨h, h0⟩
      obtain rfl : t = 0 := by omega
      exact absurd ((z q).mp h) e
theorem dist_unique {F F' : List (Option Nat)} (h : Dist m ls p F) (h' : Dist m ls p F') : F = F' := by
  refine List.ext_getElem? fun q => ?_
  by_cases hq : q < m
  · have l1 : q < F.length := by rw [h.len]; exact hq
    have l2 : q < F'.length := by rw [h'.len]; exact hq
    cases e : F[q] with
    | some t =>
      have := (h.at_ q t).mp (by rw [List.getElem?_eq_getElem l1, e])
      rw [(h'.at_ q t).mpr this, List.getElem?_eq_getElem l1, e]
    | none =>
      cases e' : F'[q] with
      | none => rw [List.getElem?_eq_getElem l1, List.getElem?_eq_getElem l2, e, e']
      | some t =>
        have := (h.at_ q t).mpr ((h'.at_ q t).mp (by rw [List.getElem?_eq_getElem l2, e']))
        rw [List.getElem?_eq_getElem l1, e] at this
        cases this
  · rw [List.getElem?_eq_none (by rw [h.len]; omega), List.getElem?_eq_none (by rw [h'.len]; omega)]
theorem lsteps_d (R : Ring m ls) (hp : p < m) : ∃ F, Dist m ls p F ∧ d__law_steps [.val (ringD m ls), .val (.int p)] = .ok (.o (.lst (fD F))) := by
  obtain ⟨F, b, e⟩ := lsteps_v R hp
  exact ⟨F, b.dist hp (inv_start hp), e⟩
end
def qwC : Gm → R Bool := isB (e2 (dCmp .Lt) (rVar 3) (rd (eCall fLen (seqR [rVar 2]))))
def qwI : Gm → R Out := sSeq (sIf (isB (e2 (dCmp .Is) (rd (e2 dIx (rVar 1) (rVar 4))) (rd (eC .non)))) (sSeq (sSto 1 (vl (e2 (dBin .Add) (rd (e2 dIx (rVar 1) (rd (e2 dIx (rVar 2) (rVar 3))))) (rd (eC (.int 1))))) (rVar 4))
  (sSeq (sApp 2 (vl (eVar 4)))
  (sNext))) (sNext))
  (sNext)
def qwB : Gm → R Out := sSeq (sFor (iF (vl (eUser d_beside (seqR [uVar 0, uVal (vl (e2 dIx (rVar 2) (rVar 3)))])))) (.nm 4) qwI)
  (sSeq (sSet false 3 (e2 (dBin .Add) (rVar 3) (rd (eC (.int 1)))))
  (sNext))
section
variable {m : Nat} {ls : List Nat} (R : Ring m ls)
include R
theorem sw_body (s : Nat) (done rest acc : List Nat) (h : Nat) (F : List (Option Nat)) (s4 : Sl) (hF : F.length = m) (hh : F[h]? = some (some s)) (hd : done.length + rest.length + acc.length + 1 + nn F ≤ m) :
    ∃ s4', qwB [.val (ringD m ls), .own (.lst (fD F)), .own (.lst (nD (done ++ h :: rest ++ acc))), .val (.int done.length), s4] =
      .ok (.nx [.val (ringD m ls), .own (.lst (fD (vis (s + 1) (nearN m ls h) (F, acc)).1)), .own (.lst (nD (done ++ h :: rest ++ (vis (s + 1) (nearN m ls h) (F, acc)).2))), .val (.int ((done.length + 1 : Nat) : Int)), s4']) := by
  have h100 := R.m100
  have io : ∀ acc : List Nat, atI (nD (done ++ h :: rest ++ acc)) (done.length : Int) = some (.int (h : Int)) := fun acc => by
    refine L2.atI_nat ?_
    unfold nD
    rw [List.getElem?_map, List.append_assoc, List.getElem?_append_right (Nat.le_refl _), Nat.sub_self]
    rfl
  suffices hgo : Go (qwB [.val (ringD m ls), .own (.lst (fD F)), .own (.lst (nD (done ++ h :: rest ++ acc))), .val (.int done.length), s4]) (fun Γ => ∃ s4', Γ = [.val (ringD m ls), .own (.lst (fD (vis (s + 1) (nearN m ls h) (F, acc)).1)), .own (.lst (nD (done ++ h :: rest ++ (vis (s + 1) (nearN m ls h) (F, acc)).2))), .val (.int ((done.length + 1 : Nat) : Int)), s4']) by
    obtain ⟨Γ', e, s4', rfl⟩ := hgo
    exact ⟨s4', e⟩
  unfold qwB
  refine go_seq' (fun Γ => ∃ s4', Γ = [.val (ringD m ls), .own (.lst (fD (vis (s + 1) (nearN m ls h) (F, acc)).1)), .own (.lst (nD (done ++ h :: rest ++ (vis (s + 1) (nearN m ls h) (F, acc)).2))), .val (.int done.length), s4'])
    (go_of (φ := fun n : Nat => .int (n : Int)) (l := nearN m ls h) (fun a Γ => ∃ s4', Γ = [.val (ringD m ls), .own (.lst (fD (vis (s + 1) a (F, acc)).1)), .own (.lst (nD (done ++ h :: rest ++ (vis (s + 1) a (F, acc)).2))), .val (.int done.length), s4']) ?_ ⟨_, rfl⟩ ?_) ?_
  · have := beside_v R h
    simp (implicitDefEqProofs := false) (disch := omega) only [↓r_seq, ↓r_next, ↓r_if, ↓r_eif, ↓r_set, ↓r_ret, ↓r_retV, ↓r_expr, ↓r_asg, ↓r_par, ↓r_app, ↓r_ext, ↓r_sto, ↓r_or1, ↓r_or, ↓r_and1, ↓r_and, ↓r_vor1, ↓r_vor, ↓r_vand1, ↓r_vand, ↓r_not, ↓r_tru, ↓r_isB, ↓r_eC, ↓r_rd, ↓r_vl, ↓r_rV, ↓r_eV, ↓r_uV, ↓r_uVl, ↓r_sq0, ↓r_sq, ↓r_e2, ↓r_e3, ↓r_call, ↓r_user, ↓r_enot, ↓r_eneg, ↓r_tup, ↓r_lst, ↓r_sl, ↓r_noP, ↓r_aP, ↓r_iOf, ↓r_iF, ↓r_def, ↓r_ref, r_seqNx, r_seqRt, r_seqBk, r_seqCt, r_ifT, r_ifF, r_setV, r_setOt, r_setOl, r_setOd, r_setOs, r_retK, r_retVv, r_retVo, r_asgK, r_tgN, r_tgT, r_tgL, r_tgs0, r_tgs, r_parK, r_ownL, r_ownLo, r_ownD, r_ownDo, r_appK, r_appJ, r_extK, r_extJ, r_stoK, r_stoI, r_stoJ, r_stoL, r_orT, r_orF, r_andT, r_andF, r_vorK, r_vorT, r_vorF, r_vandK, r_vandT, r_vandF, r_notK, r_truK, r_truB, r_truI, r_truL, r_truT, r_truN, r_isBK, r_rdV, r_rdO, r_dV, r_dO, r_valV, r_valL, r_valD, r_rVv, r_rVo, r_rVb, r_eVv, r_uVv, r_uVo, r_uVb, r_uVlK, r_sqK, r_consK, r_opK, r_opJ, r_chK, r_chJ, r_chT, r_chF, r_clK, r_ntK, r_ngK, r_tpK, r_lsK, r_slK, r_slJ, r_slI, r_slL, r_slT, r_aPK, r_sqL, r_sqT, r_sqS, r_rtR, r_rtN, r_refO, r_refE, r_wdK, r_bAdd, r_bSub, r_bMul, r_bDiv, r_bMod, r_bPow, r_cLt, r_cLe, r_cGt, r_cGe, r_cEq, r_cNe, r_ixL, r_ixT, r_of, r_lenL, r_lenT, r_lenS, Pd.R.bind_ok, Pd.R.bind_err, Pd.R.bind_stuck, noE_ok', mul_r, div_i, mod_i, add_i, sub_i, lt_i, le_i, gt_i, ge_i, eq_i, ne_i, pow18, List.cons_append, List.nil_append, List.getElem?_cons_zero, List.getElem?_cons_succ, List.replicate_succ, List.replicate_zero, List.set_cons_zero, List.set_cons_succ, List.length_cons, List.length_nil, if_true, if_false, Bool.not_true, Bool.not_false, Bool.false_eq_true, ↓reduceIte, Nat.reduceAdd, Nat.reduceLeDiff, Nat.reduceLT, Nat.zero_add, Option.map_some, Int.cast_ofNat_Int, Int.natCast_one, Int.natCast_zero, Int.reduceBEq, Int.reduceLT, Int.reduceLE, Int.reduceAdd, Int.reduceSub, Int.reduceMul, Int.reduceNeg, Int.reduceDiv, Int.reduceMod, decide_true, decide_false, io, this]
    rfl
  · rintro a c o Γ e ⟨s4, rfl⟩
    have ho : o < m := near_lt (show o ∈ nearN m ls h by rw [e]; exact List.mem_append_right _ (List.mem_cons_self ..))
    obtain ⟨v1, v2⟩ := vis_len (s + 1) a (F, acc)
    have hl : (vis (s + 1) a (F, acc)).1.length = m := v1.trans hF
    have v2' : (vis (s + 1) a (F, acc)).2.length + nn (vis (s + 1) a (F, acc)).1 = acc.length + nn F := v2
    have vk := vis_keep (s + 1) (k := h) (n := s) a (F, acc) hh
    obtain ⟨x, hg⟩ : ∃ x, (vis (s + 1) a (F, acc)).1[o]? = some x := ⟨_, List.getElem?_eq_getElem (show o < (vis (s + 1) a (F, acc)).1.length by omega)⟩
    have ex : vis (s + 1) (a ++ [o]) (F, acc) = vis (s + 1) [o] (vis (s + 1) a (F, acc)) := vis_app (s + 1) a [o] _
    rw [ex]
    generalize (vis (s + 1) a (F, acc)) = st at hl hg v2' vk
    have hi := fD_get hg
    have hk := fD_get vk
    have hx := is_non x
    refine go_eq (Γ' := [.val (ringD m ls), .own (.lst (fD (vis (s + 1) [o] st).1)), .own (.lst (nD (done ++ h :: rest ++ (vis (s + 1) [o] st).2))), .val (.int done.length), .val (.int o)]) ?_ ⟨_, rfl⟩
    cases x with
    | none =>
      have hs := sto_l (ds := fD st.1) (k := o) (.int ((s + 1 : Nat) : Int)) (by rw [fD_len]; omega)
      rw [fD_set] at hs
      have hs1 : (s : Int) + 1 = ((s + 1 : Nat) : Int) := rfl
      have hv : vis (s + 1) [o] st = (st.1.set o (some (s + 1)), st.2 ++ [o]) := by rw [vis, if_pos hg]; rfl
      have ha : (nD (done ++ h :: rest ++ st.2)).length < 16777216 := by
        rw [len_nD, List.length_append, List.length_append, List.length_cons]
        omega
      have hn : nD (done ++ h :: rest ++ st.2) ++ [D.int (o : Int)] = nD (done ++ h :: rest ++ (st.2 ++ [o])) := by
        unfold nD
        rw [← List.append_assoc, List.map_append (l₁ := done ++ h :: rest ++ st.2)]
        rfl
      have hk' : atI (fD st.1) (h : Int) = some (.int (s : Int)) := hk
      rw [hv]
      unfold qwI
      simp (implicitDefEqProofs := false) (disch := omega) only [↓r_seq, ↓r_next, ↓r_if, ↓r_eif, ↓r_set, ↓r_ret, ↓r_retV, ↓r_expr, ↓r_asg, ↓r_par, ↓r_app, ↓r_ext, ↓r_sto, ↓r_or1, ↓r_or, ↓r_and1, ↓r_and, ↓r_vor1, ↓r_vor, ↓r_vand1, ↓r_vand, ↓r_not, ↓r_tru, ↓r_isB, ↓r_eC, ↓r_rd, ↓r_vl, ↓r_rV, ↓r_eV, ↓r_uV, ↓r_uVl, ↓r_sq0, ↓r_sq, ↓r_e2, ↓r_e3, ↓r_call, ↓r_user, ↓r_enot, ↓r_eneg, ↓r_tup, ↓r_lst, ↓r_sl, ↓r_noP, ↓r_aP, ↓r_iOf, ↓r_iF, ↓r_def, ↓r_ref, r_seqNx, r_seqRt, r_seqBk, r_seqCt, r_ifT, r_ifF, r_setV, r_setOt, r_setOl, r_setOd, r_setOs, r_retK, r_retVv, r_retVo, r_asgK, r_tgN, r_tgT, r_tgL, r_tgs0, r_tgs, r_parK, r_ownL, r_ownLo, r_ownD, r_ownDo, r_appK, r_appJ, r_extK, r_extJ, r_stoK, r_stoI, r_stoJ, r_stoL, r_orT, r_orF, r_andT, r_andF, r_vorK, r_vorT, r_vorF, r_vandK, r_vandT, r_vandF, r_notK, r_truK, r_truB, r_truI, r_truL, r_truT, r_truN, r_isBK, r_rdV, r_rdO, r_dV, r_dO, r_valV, r_valL, r_valD, r_rVv, r_rVo, r_rVb, r_eVv, r_uVv, r_uVo, r_uVb, r_uVlK, r_sqK, r_consK, r_opK, r_opJ, r_chK, r_chJ, r_chT, r_chF, r_clK, r_ntK, r_ngK, r_tpK, r_lsK, r_slK, r_slJ, r_slI, r_slL, r_slT, r_aPK, r_sqL, r_sqT, r_sqS, r_rtR, r_rtN, r_refO, r_refE, r_wdK, r_bAdd, r_bSub, r_bMul, r_bDiv, r_bMod, r_bPow, r_cLt, r_cLe, r_cGt, r_cGe, r_cEq, r_cNe, r_ixL, r_ixT, r_of, r_lenL, r_lenT, r_lenS, Pd.R.bind_ok, Pd.R.bind_err, Pd.R.bind_stuck, noE_ok', mul_r, div_i, mod_i, add_i, sub_i, lt_i, le_i, gt_i, ge_i, eq_i, ne_i, pow18, List.cons_append, List.nil_append, List.getElem?_cons_zero, List.getElem?_cons_succ, List.replicate_succ, List.replicate_zero, List.set_cons_zero, List.set_cons_succ, List.length_cons, List.length_nil, if_true, if_false, Bool.not_true, Bool.not_false, Bool.false_eq_true, ↓reduceIte, Nat.reduceAdd, Nat.reduceLeDiff, Nat.reduceLT, Nat.zero_add, Option.map_some, Int.cast_ofNat_Int, Int.natCast_one, Int.natCast_zero, Int.reduceBEq, Int.reduceLT, Int.reduceLE, Int.reduceAdd, Int.reduceSub, Int.reduceMul, Int.reduceNeg, Int.reduceDiv, Int.reduceMod, decide_true, decide_false, r_cIs, hi, hx, Option.isNone_none, io, hk', hs1, hs, r_appJ ha, hn]
    | some n =>
      have hv : vis (s + 1) [o] st = st := by rw [vis, if_neg (by rw [hg]; simp)]; rfl
      rw [hv]
      unfold qwI
      simp (implicitDefEqProofs := false) (disch := omega) only [↓r_seq, ↓r_next, ↓r_if, ↓r_eif, ↓r_set, ↓r_ret, ↓r_retV, ↓r_expr, ↓r_asg, ↓r_par, ↓r_app, ↓r_ext, ↓r_sto, ↓r_or1, ↓r_or, ↓r_and1, ↓r_and, ↓r_vor1, ↓r_vor, ↓r_vand1, ↓r_vand, ↓r_not, ↓r_tru, ↓r_isB, ↓r_eC, ↓r_rd, ↓r_vl, ↓r_rV, ↓r_eV, ↓r_uV, ↓r_uVl, ↓r_sq0, ↓r_sq, ↓r_e2, ↓r_e3, ↓r_call, ↓r_user, ↓r_enot, ↓r_eneg, ↓r_tup, ↓r_lst, ↓r_sl, ↓r_noP, ↓r_aP, ↓r_iOf, ↓r_iF, ↓r_def, ↓r_ref, r_seqNx, r_seqRt, r_seqBk, r_seqCt, r_ifT, r_ifF, r_setV, r_setOt, r_setOl, r_setOd, r_setOs, r_retK, r_retVv, r_retVo, r_asgK, r_tgN, r_tgT, r_tgL, r_tgs0, r_tgs, r_parK, r_ownL, r_ownLo, r_ownD, r_ownDo, r_appK, r_appJ, r_extK, r_extJ, r_stoK, r_stoI, r_stoJ, r_stoL, r_orT, r_orF, r_andT, r_andF, r_vorK, r_vorT, r_vorF, r_vandK, r_vandT, r_vandF, r_notK, r_truK, r_truB, r_truI, r_truL, r_truT, r_truN, r_isBK, r_rdV, r_rdO, r_dV, r_dO, r_valV, r_valL, r_valD, r_rVv, r_rVo, r_rVb, r_eVv, r_uVv, r_uVo, r_uVb, r_uVlK, r_sqK, r_consK, r_opK, r_opJ, r_chK, r_chJ, r_chT, r_chF, r_clK, r_ntK, r_ngK, r_tpK, r_lsK, r_slK, r_slJ, r_slI, r_slL, r_slT, r_aPK, r_sqL, r_sqT, r_sqS, r_rtR, r_rtN, r_refO, r_refE, r_wdK, r_bAdd, r_bSub, r_bMul, r_bDiv, r_bMod, r_bPow, r_cLt, r_cLe, r_cGt, r_cGe, r_cEq, r_cNe, r_ixL, r_ixT, r_of, r_lenL, r_lenT, r_lenS, Pd.R.bind_ok, Pd.R.bind_err, Pd.R.bind_stuck, noE_ok', mul_r, div_i, mod_i, add_i, sub_i, lt_i, le_i, gt_i, ge_i, eq_i, ne_i, pow18, List.cons_append, List.nil_append, List.getElem?_cons_zero, List.getElem?_cons_succ, List.replicate_succ, List.replicate_zero, List.set_cons_zero, List.set_cons_succ, List.length_cons, List.length_nil, if_true, if_false, Bool.not_true, Bool.not_false, Bool.false_eq_true, ↓reduceIte, Nat.reduceAdd, Nat.reduceLeDiff, Nat.reduceLT, Nat.zero_add, Option.map_some, Int.cast_ofNat_Int, Int.natCast_one, Int.natCast_zero, Int.reduceBEq, Int.reduceLT, Int.reduceLE, Int.reduceAdd, Int.reduceSub, Int.reduceMul, Int.reduceNeg, Int.reduceDiv, Int.reduceMod, decide_true, decide_false, r_cIs, hi, hx, Option.isNone_some]
  rintro Γ ⟨s4', rfl⟩
  have hs1 : (done.length : Int) + 1 = ((done.length + 1 : Nat) : Int) := rfl
  exact go_eq (Γ' := [.val (ringD m ls), .own (.lst (fD (vis (s + 1) (nearN m ls h) (F, acc)).1)), .own (.lst (nD (done ++ h :: rest ++ (vis (s + 1) (nearN m ls h) (F, acc)).2))), .val (.int ((done.length + 1 : Nat) : Int)), s4']) (by simp (implicitDefEqProofs := false) (disch := omega) only [↓r_seq, ↓r_next, ↓r_if, ↓r_eif, ↓r_set, ↓r_ret, ↓r_retV, ↓r_expr, ↓r_asg, ↓r_par, ↓r_app, ↓r_ext, ↓r_sto, ↓r_or1, ↓r_or, ↓r_and1, ↓r_and, ↓r_vor1, ↓r_vor, ↓r_vand1, ↓r_vand, ↓r_not, ↓r_tru, ↓r_isB, ↓r_eC, ↓r_rd, ↓r_vl, ↓r_rV, ↓r_eV, ↓r_uV, ↓r_uVl, ↓r_sq0, ↓r_sq, ↓r_e2, ↓r_e3, ↓r_call, ↓r_user, ↓r_enot, ↓r_eneg, ↓r_tup, ↓r_lst, ↓r_sl, ↓r_noP, ↓r_aP, ↓r_iOf, ↓r_iF, ↓r_def, ↓r_ref, r_seqNx, r_seqRt, r_seqBk, r_seqCt, r_ifT, r_ifF, r_setV, r_setOt, r_setOl, r_setOd, r_setOs, r_retK, r_retVv, r_retVo, r_asgK, r_tgN, r_tgT, r_tgL, r_tgs0, r_tgs, r_parK, r_ownL, r_ownLo, r_ownD, r_ownDo, r_appK, r_appJ, r_extK, r_extJ, r_stoK, r_stoI, r_stoJ, r_stoL, r_orT, r_orF, r_andT, r_andF, r_vorK, r_vorT, r_vorF, r_vandK, r_vandT, r_vandF, r_notK, r_truK, r_truB, r_truI, r_truL, r_truT, r_truN, r_isBK, r_rdV, r_rdO, r_dV, r_dO, r_valV, r_valL, r_valD, r_rVv, r_rVo, r_rVb, r_eVv, r_uVv, r_uVo, r_uVb, r_uVlK, r_sqK, r_consK, r_opK, r_opJ, r_chK, r_chJ, r_chT, r_chF, r_clK, r_ntK, r_ngK, r_tpK, r_lsK, r_slK, r_slJ, r_slI, r_slL, r_slT, r_aPK, r_sqL, r_sqT, r_sqS, r_rtR, r_rtN, r_refO, r_refE, r_wdK, r_bAdd, r_bSub, r_bMul, r_bDiv, r_bMod, r_bPow, r_cLt, r_cLe, r_cGt, r_cGe, r_cEq, r_cNe, r_ixL, r_ixT, r_of, r_lenL, r_lenT, r_lenS, Pd.R.bind_ok, Pd.R.bind_err, Pd.R.bind_stuck, noE_ok', mul_r, div_i, mod_i, add_i, sub_i, lt_i, le_i, gt_i, ge_i, eq_i, ne_i, pow18, List.cons_append, List.nil_append, List.getElem?_cons_zero, List.getElem?_cons_succ, List.replicate_succ, List.replicate_zero, List.set_cons_zero, List.set_cons_succ, List.length_cons, List.length_nil, if_true, if_false, Bool.not_true, Bool.not_false, Bool.false_eq_true, ↓reduceIte, Nat.reduceAdd, Nat.reduceLeDiff, Nat.reduceLT, Nat.zero_add, Option.map_some, Int.cast_ofNat_Int, Int.natCast_one, Int.natCast_zero, Int.reduceBEq, Int.reduceLT, Int.reduceLE, Int.reduceAdd, Int.reduceSub, Int.reduceMul, Int.reduceNeg, Int.reduceDiv, Int.reduceMod, decide_true, decide_false, hs1]) ⟨_, rfl⟩
theorem sw_while : ∀ (n s : Nat) (done rest acc : List Nat) (F : List (Option Nat)) (s4 : Sl), F.length = m → (∀ h ∈ rest, F[h]? = some (some s)) → (∀ h ∈ acc, F[h]? = some (some (s + 1))) → done.length + rest.length + acc.length + nn F ≤ m → rest.length + acc.length + nn F < n →
    ∃ F', Bfs m ls (s + 1) (lev m ls (s + 1) rest (F, acc)).2 (lev m ls (s + 1) rest (F, acc)).1 F' ∧ ∃ s2 s3 s4', whR qwC qwB n [.val (ringD m ls), .own (.lst (fD F)), .own (.lst (nD (done ++ rest ++ acc))), .val (.int done.length), s4] = .ok (.nx [.val (ringD m ls), .own (.lst (fD F')), s2, s3, s4'])
  | 0, _, _, _, _, _, _, _, _, _, _, hn => absurd hn (Nat.not_lt_zero _)
  | n + 1, s, done, rest, acc, F, s4, hF, hr, ha, hd, hn => by
    have step : ∀ (s : Nat) (rest acc : List Nat) (h : Nat), F[h]? = some (some s) → (∀ h ∈ rest, F[h]? = some (some s)) → (∀ h ∈ acc, F[h]? = some (some (s + 1))) → done.length + rest.length + acc.length + 1 + nn F ≤ m → rest.length + acc.length + nn F < n →
        ∃ F', Bfs m ls (s + 1) (lev m ls (s + 1) (h :: rest) (F, acc)).2 (lev m ls (s + 1) (h :: rest) (F, acc)).1 F' ∧ ∃ s2 s3 s4', whR qwC qwB (n + 1) [.val (ringD m ls), .own (.lst (fD F)), .own (.lst (nD (done ++ h :: rest ++ acc))), .val (.int done.length), s4] = .ok (.nx [.val (ringD m ls), .own (.lst (fD F')), s2, s3, s4']) := by
      intro s rest acc h hh hr ha hd hn
      obtain ⟨s4', eb⟩ := sw_body R s done rest acc h F s4 hF hh hd
      obtain ⟨v1, v2⟩ := vis_len (s + 1) (nearN m ls h) (F, acc)
      have v2' : (vis (s + 1) (nearN m ls h) (F, acc)).2.length + nn (vis (s + 1) (nearN m ls h) (F, acc)).1 = acc.length + nn F := v2
      obtain ⟨F', b, s2, s3, s4'', ew⟩ := sw_while n s (done ++ [h]) rest (vis (s + 1) (nearN m ls h) (F, acc)).2 (vis (s + 1) (nearN m ls h) (F, acc)).1 s4' (v1.trans hF)
        (fun k hk => vis_keep (s + 1) _ _ (hr k hk)) (vis_acc (s + 1) _ _ ha) (by rw [List.length_append, List.length_singleton]; omega) (by omega)
      refine ⟨F', b, s2, s3, s4'', ?_⟩
      have ec : qwC [.val (ringD m ls), .own (.lst (fD F)), .own (.lst (nD (done ++ h :: rest ++ acc))), .val (.int done.length), s4] = .ok true := by
        have hlt : (done.length : Int) < ((done ++ h :: rest ++ acc).length : Int) := by
          rw [List.length_append, List.length_append, List.length_cons]
          omega
        unfold qwC
        simp (implicitDefEqProofs := false) (disch := omega) only [↓r_seq, ↓r_next, ↓r_if, ↓r_eif, ↓r_set, ↓r_ret, ↓r_retV, ↓r_expr, ↓r_asg, ↓r_par, ↓r_app, ↓r_ext, ↓r_sto, ↓r_or1, ↓r_or, ↓r_and1, ↓r_and, ↓r_vor1, ↓r_vor, ↓r_vand1, ↓r_vand, ↓r_not, ↓r_tru, ↓r_isB, ↓r_eC, ↓r_rd, ↓r_vl, ↓r_rV, ↓r_eV, ↓r_uV, ↓r_uVl, ↓r_sq0, ↓r_sq, ↓r_e2, ↓r_e3, ↓r_call, ↓r_user, ↓r_enot, ↓r_eneg, ↓r_tup, ↓r_lst, ↓r_sl, ↓r_noP, ↓r_aP, ↓r_iOf, ↓r_iF, ↓r_def, ↓r_ref, r_seqNx, r_seqRt, r_seqBk, r_seqCt, r_ifT, r_ifF, r_setV, r_setOt, r_setOl, r_setOd, r_setOs, r_retK, r_retVv, r_retVo, r_asgK, r_tgN, r_tgT, r_tgL, r_tgs0, r_tgs, r_parK, r_ownL, r_ownLo, r_ownD, r_ownDo, r_appK, r_appJ, r_extK, r_extJ, r_stoK, r_stoI, r_stoJ, r_stoL, r_orT, r_orF, r_andT, r_andF, r_vorK, r_vorT, r_vorF, r_vandK, r_vandT, r_vandF, r_notK, r_truK, r_truB, r_truI, r_truL, r_truT, r_truN, r_isBK, r_rdV, r_rdO, r_dV, r_dO, r_valV, r_valL, r_valD, r_rVv, r_rVo, r_rVb, r_eVv, r_uVv, r_uVo, r_uVb, r_uVlK, r_sqK, r_consK, r_opK, r_opJ, r_chK, r_chJ, r_chT, r_chF, r_clK, r_ntK, r_ngK, r_tpK, r_lsK, r_slK, r_slJ, r_slI, r_slL, r_slT, r_aPK, r_sqL, r_sqT, r_sqS, r_rtR, r_rtN, r_refO, r_refE, r_wdK, r_bAdd, r_bSub, r_bMul, r_bDiv, r_bMod, r_bPow, r_cLt, r_cLe, r_cGt, r_cGe, r_cEq, r_cNe, r_ixL, r_ixT, r_of, r_lenL, r_lenT, r_lenS, Pd.R.bind_ok, Pd.R.bind_err, Pd.R.bind_stuck, noE_ok', mul_r, div_i, mod_i, add_i, sub_i, lt_i, le_i, gt_i, ge_i, eq_i, ne_i, pow18, List.cons_append, List.nil_append, List.getElem?_cons_zero, List.getElem?_cons_succ, List.replicate_succ, List.replicate_zero, List.set_cons_zero, List.set_cons_succ, List.length_cons, List.length_nil, if_true, if_false, Bool.not_true, Bool.not_false, Bool.false_eq_true, ↓reduceIte, Nat.reduceAdd, Nat.reduceLeDiff, Nat.reduceLT, Nat.zero_add, Option.map_some, Int.cast_ofNat_Int, Int.natCast_one, Int.natCast_zero, Int.reduceBEq, Int.reduceLT, Int.reduceLE, Int.reduceAdd, Int.reduceSub, Int.reduceMul, Int.reduceNeg, Int.reduceDiv, Int.reduceMod, decide_true, decide_false, len_nD, hlt]
      rw [whR, ec, Pd.R.bind_ok, if_pos rfl, eb, Pd.R.bind_ok]
      rw [List.length_append, List.length_singleton, show done ++ [h] ++ rest = done ++ h :: rest by rw [List.append_assoc]; rfl] at ew
      exact ew
    cases rest with
    | cons h rest =>
      rw [List.length_cons] at hd hn
      exact step s rest acc h (hr h (List.mem_cons_self ..)) (fun k hk => hr k (List.mem_cons_of_mem _ hk)) ha (by omega) (by omega)
    | nil =>
      cases acc with
      | nil =>
        refine ⟨F, .done _ _, .own (.lst (nD (done ++ [] ++ []))), .val (.int done.length), s4, ?_⟩
        · have ec : qwC [.val (ringD m ls), .own (.lst (fD F)), .own (.lst (nD (done ++ [] ++ []))), .val (.int done.length), s4] = .ok false := by
            have hlt : ¬ (done.length : Int) < ((done ++ [] ++ [] : List Nat).length : Int) := by
              rw [List.append_nil, List.append_nil]
              omega
            unfold qwC
            simp (implicitDefEqProofs := false) (disch := omega) only [↓r_seq, ↓r_next, ↓r_if, ↓r_eif, ↓r_set, ↓r_ret, ↓r_retV, ↓r_expr, ↓r_asg, ↓r_par, ↓r_app, ↓r_ext, ↓r_sto, ↓r_or1, ↓r_or, ↓r_and1, ↓r_and, ↓r_vor1, ↓r_vor, ↓r_vand1, ↓r_vand, ↓r_not, ↓r_tru, ↓r_isB, ↓r_eC, ↓r_rd, ↓r_vl, ↓r_rV, ↓r_eV, ↓r_uV, ↓r_uVl, ↓r_sq0, ↓r_sq, ↓r_e2, ↓r_e3, ↓r_call, ↓r_user, ↓r_enot, ↓r_eneg, ↓r_tup, ↓r_lst, ↓r_sl, ↓r_noP, ↓r_aP, ↓r_iOf, ↓r_iF, ↓r_def, ↓r_ref, r_seqNx, r_seqRt, r_seqBk, r_seqCt, r_ifT, r_ifF, r_setV, r_setOt, r_setOl, r_setOd, r_setOs, r_retK, r_retVv, r_retVo, r_asgK, r_tgN, r_tgT, r_tgL, r_tgs0, r_tgs, r_parK, r_ownL, r_ownLo, r_ownD, r_ownDo, r_appK, r_appJ, r_extK, r_extJ, r_stoK, r_stoI, r_stoJ, r_stoL, r_orT, r_orF, r_andT, r_andF, r_vorK, r_vorT, r_vorF, r_vandK, r_vandT, r_vandF, r_notK, r_truK, r_truB, r_truI, r_truL, r_truT, r_truN, r_isBK, r_rdV, r_rdO, r_dV, r_dO, r_valV, r_valL, r_valD, r_rVv, r_rVo, r_rVb, r_eVv, r_uVv, r_uVo, r_uVb, r_uVlK, r_sqK, r_consK, r_opK, r_opJ, r_chK, r_chJ, r_chT, r_chF, r_clK, r_ntK, r_ngK, r_tpK, r_lsK, r_slK, r_slJ, r_slI, r_slL, r_slT, r_aPK, r_sqL, r_sqT, r_sqS, r_rtR, r_rtN, r_refO, r_refE, r_wdK, r_bAdd, r_bSub, r_bMul, r_bDiv, r_bMod, r_bPow, r_cLt, r_cLe, r_cGt, r_cGe, r_cEq, r_cNe, r_ixL, r_ixT, r_of, r_lenL, r_lenT, r_lenS, Pd.R.bind_ok, Pd.R.bind_err, Pd.R.bind_stuck, noE_ok', mul_r, div_i, mod_i, add_i, sub_i, lt_i, le_i, gt_i, ge_i, eq_i, ne_i, pow18, List.cons_append, List.nil_append, List.getElem?_cons_zero, List.getElem?_cons_succ, List.replicate_succ, List.replicate_zero, List.set_cons_zero, List.set_cons_succ, List.length_cons, List.length_nil, if_true, if_false, Bool.not_true, Bool.not_false, Bool.false_eq_true, ↓reduceIte, Nat.reduceAdd, Nat.reduceLeDiff, Nat.reduceLT, Nat.zero_add, Option.map_some, Int.cast_ofNat_Int, Int.natCast_one, Int.natCast_zero, Int.reduceBEq, Int.reduceLT, Int.reduceLE, Int.reduceAdd, Int.reduceSub, Int.reduceMul, Int.reduceNeg, Int.reduceDiv, Int.reduceMod, decide_true, decide_false, len_nD, hlt]
          rw [whR, ec]
          rfl
      | cons h acc =>
        rw [List.length_cons, List.length_nil] at hd hn
        obtain ⟨F', b, s2, s3, s4', ew⟩ := step (s + 1) acc [] h (ha h (List.mem_cons_self ..)) (fun k hk => ha k (List.mem_cons_of_mem _ hk)) (fun k hk => absurd hk List.not_mem_nil) (by rw [List.length_nil]; omega) (by rw [List.length_nil]; omega)
        refine ⟨F', .step _ _ _ _ _ b, s2, s3, s4', ?_⟩
        rw [List.append_nil] at ew ⊢
        exact ew
theorem steps_v : ∃ F, Dist m ls 0 F ∧ d_steps_of [.val (ringD m ls)] = .ok (.o (.lst (fD F))) := by
  have h100 := R.m100
  have hm := R.m3
  have i0 : atI [D.int (m : Int), .tup (nD ls)] 0 = some (.int m) := rfl
  have hmul : dMul (.lst [.non]) (.int m) = some (.o (.lst (fD (List.replicate m none)))) := by
    unfold dMul
    dsimp only
    rw [if_pos ⟨by omega, by omega, by rw [Int.toNat_natCast, List.length_singleton]; unfold line; omega⟩, Int.toNat_natCast]
    unfold fD
    rw [List.map_replicate, List.flatten_replicate_singleton]
    rfl
  have hst := sto_l (ds := fD (List.replicate m none)) (k := 0) (.int ((0 : Nat) : Int)) (by rw [fD_len, List.length_replicate]; omega)
  rw [fD_set, show ((0 : Nat) : Int) = 0 from rfl] at hst
  have hl : ((List.replicate m (none : Option Nat)).set 0 (some 0)).length = m := by rw [List.length_set, List.length_replicate]
  have h0 : ((List.replicate m (none : Option Nat)).set 0 (some 0))[0]? = some (some 0) := List.getElem?_set_self (by rw [List.length_replicate]; omega)
  have hn : nn ((List.replicate m (none : Option Nat)).set 0 (some 0)) + 1 = nn (List.replicate m none) := nn_set (by rw [List.getElem?_replicate, if_pos (by omega)])
  have hn2 := nn_le (List.replicate m (none : Option Nat))
  rw [List.length_replicate] at hn2
  obtain ⟨F', b, s2, s3, s4, ew⟩ := sw_while R whN 0 [] [0] [] ((List.replicate m none).set 0 (some 0)) .un hl (fun h hh => by rw [List.mem_singleton.mp hh]; exact h0) (fun h hh => absurd hh List.not_mem_nil) (by
    show 0 + 1 + 0 + nn ((List.replicate m (none : Option Nat)).set 0 (some 0)) ≤ m
    omega) (by
    show 1 + 0 + nn ((List.replicate m (none : Option Nat)).set 0 (some 0)) < whN
    unfold whN
    omega)
  refine ⟨F', (Bfs.step 0 0 [] _ _ b).dist (by omega) (inv_start (by omega)), ?_⟩
  unfold d_steps_of
  refine def_rt ?_
  unfold f_steps_of
  show sSeq _ _ [.val (ringD m ls), .un, .un, .un, .un] = _
  refine seq_nx (Γ1 := [.val (ringD m ls), .own (.lst (fD (List.replicate m none))), .un, .un, .un]) ?_ ?_
  · unfold ringD
    simp (implicitDefEqProofs := false) (disch := omega) only [↓r_seq, ↓r_next, ↓r_if, ↓r_eif, ↓r_set, ↓r_ret, ↓r_retV, ↓r_expr, ↓r_asg, ↓r_par, ↓r_app, ↓r_ext, ↓r_sto, ↓r_or1, ↓r_or, ↓r_and1, ↓r_and, ↓r_vor1, ↓r_vor, ↓r_vand1, ↓r_vand, ↓r_not, ↓r_tru, ↓r_isB, ↓r_eC, ↓r_rd, ↓r_vl, ↓r_rV, ↓r_eV, ↓r_uV, ↓r_uVl, ↓r_sq0, ↓r_sq, ↓r_e2, ↓r_e3, ↓r_call, ↓r_user, ↓r_enot, ↓r_eneg, ↓r_tup, ↓r_lst, ↓r_sl, ↓r_noP, ↓r_aP, ↓r_iOf, ↓r_iF, ↓r_def, ↓r_ref, r_seqNx, r_seqRt, r_seqBk, r_seqCt, r_ifT, r_ifF, r_setV, r_setOt, r_setOl, r_setOd, r_setOs, r_retK, r_retVv, r_retVo, r_asgK, r_tgN, r_tgT, r_tgL, r_tgs0, r_tgs, r_parK, r_ownL, r_ownLo, r_ownD, r_ownDo, r_appK, r_appJ, r_extK, r_extJ, r_stoK, r_stoI, r_stoJ, r_stoL, r_orT, r_orF, r_andT, r_andF, r_vorK, r_vorT, r_vorF, r_vandK, r_vandT, r_vandF, r_notK, r_truK, r_truB, r_truI, r_truL, r_truT, r_truN, r_isBK, r_rdV, r_rdO, r_dV, r_dO, r_valV, r_valL, r_valD, r_rVv, r_rVo, r_rVb, r_eVv, r_uVv, r_uVo, r_uVb, r_uVlK, r_sqK, r_consK, r_opK, r_opJ, r_chK, r_chJ, r_chT, r_chF, r_clK, r_ntK, r_ngK, r_tpK, r_lsK, r_slK, r_slJ, r_slI, r_slL, r_slT, r_aPK, r_sqL, r_sqT, r_sqS, r_rtR, r_rtN, r_refO, r_refE, r_wdK, r_bAdd, r_bSub, r_bMul, r_bDiv, r_bMod, r_bPow, r_cLt, r_cLe, r_cGt, r_cGe, r_cEq, r_cNe, r_ixL, r_ixT, r_of, r_lenL, r_lenT, r_lenS, Pd.R.bind_ok, Pd.R.bind_err, Pd.R.bind_stuck, noE_ok', mul_r, div_i, mod_i, add_i, sub_i, lt_i, le_i, gt_i, ge_i, eq_i, ne_i, pow18, List.cons_append, List.nil_append, List.getElem?_cons_zero, List.getElem?_cons_succ, List.replicate_succ, List.replicate_zero, List.set_cons_zero, List.set_cons_succ, List.length_cons, List.length_nil, if_true, if_false, Bool.not_true, Bool.not_false, Bool.false_eq_true, ↓reduceIte, Nat.reduceAdd, Nat.reduceLeDiff, Nat.reduceLT, Nat.zero_add, Option.map_some, Int.cast_ofNat_Int, Int.natCast_one, Int.natCast_zero, Int.reduceBEq, Int.reduceLT, Int.reduceLE, Int.reduceAdd, Int.reduceSub, Int.reduceMul, Int.reduceNeg, Int.reduceDiv, Int.reduceMod, decide_true, decide_false, i0, hmul]
  refine seq_nx (Γ1 := [.val (ringD m ls), .own (.lst (fD ((List.replicate m none).set 0 (some 0)))), .un, .un, .un]) ?_ ?_
  · simp (implicitDefEqProofs := false) (disch := omega) only [↓r_seq, ↓r_next, ↓r_if, ↓r_eif, ↓r_set, ↓r_ret, ↓r_retV, ↓r_expr, ↓r_asg, ↓r_par, ↓r_app, ↓r_ext, ↓r_sto, ↓r_or1, ↓r_or, ↓r_and1, ↓r_and, ↓r_vor1, ↓r_vor, ↓r_vand1, ↓r_vand, ↓r_not, ↓r_tru, ↓r_isB, ↓r_eC, ↓r_rd, ↓r_vl, ↓r_rV, ↓r_eV, ↓r_uV, ↓r_uVl, ↓r_sq0, ↓r_sq, ↓r_e2, ↓r_e3, ↓r_call, ↓r_user, ↓r_enot, ↓r_eneg, ↓r_tup, ↓r_lst, ↓r_sl, ↓r_noP, ↓r_aP, ↓r_iOf, ↓r_iF, ↓r_def, ↓r_ref, r_seqNx, r_seqRt, r_seqBk, r_seqCt, r_ifT, r_ifF, r_setV, r_setOt, r_setOl, r_setOd, r_setOs, r_retK, r_retVv, r_retVo, r_asgK, r_tgN, r_tgT, r_tgL, r_tgs0, r_tgs, r_parK, r_ownL, r_ownLo, r_ownD, r_ownDo, r_appK, r_appJ, r_extK, r_extJ, r_stoK, r_stoI, r_stoJ, r_stoL, r_orT, r_orF, r_andT, r_andF, r_vorK, r_vorT, r_vorF, r_vandK, r_vandT, r_vandF, r_notK, r_truK, r_truB, r_truI, r_truL, r_truT, r_truN, r_isBK, r_rdV, r_rdO, r_dV, r_dO, r_valV, r_valL, r_valD, r_rVv, r_rVo, r_rVb, r_eVv, r_uVv, r_uVo, r_uVb, r_uVlK, r_sqK, r_consK, r_opK, r_opJ, r_chK, r_chJ, r_chT, r_chF, r_clK, r_ntK, r_ngK, r_tpK, r_lsK, r_slK, r_slJ, r_slI, r_slL, r_slT, r_aPK, r_sqL, r_sqT, r_sqS, r_rtR, r_rtN, r_refO, r_refE, r_wdK, r_bAdd, r_bSub, r_bMul, r_bDiv, r_bMod, r_bPow, r_cLt, r_cLe, r_cGt, r_cGe, r_cEq, r_cNe, r_ixL, r_ixT, r_of, r_lenL, r_lenT, r_lenS, Pd.R.bind_ok, Pd.R.bind_err, Pd.R.bind_stuck, noE_ok', mul_r, div_i, mod_i, add_i, sub_i, lt_i, le_i, gt_i, ge_i, eq_i, ne_i, pow18, List.cons_append, List.nil_append, List.getElem?_cons_zero, List.getElem?_cons_succ, List.replicate_succ, List.replicate_zero, List.set_cons_zero, List.set_cons_succ, List.length_cons, List.length_nil, if_true, if_false, Bool.not_true, Bool.not_false, Bool.false_eq_true, ↓reduceIte, Nat.reduceAdd, Nat.reduceLeDiff, Nat.reduceLT, Nat.zero_add, Option.map_some, Int.cast_ofNat_Int, Int.natCast_one, Int.natCast_zero, Int.reduceBEq, Int.reduceLT, Int.reduceLE, Int.reduceAdd, Int.reduceSub, Int.reduceMul, Int.reduceNeg, Int.reduceDiv, Int.reduceMod, decide_true, decide_false, hst]
  refine seq_nx (Γ1 := [.val (ringD m ls), .own (.lst (fD ((List.replicate m none).set 0 (some 0)))), .own (.lst (nD [0])), .un, .un]) ?_ ?_
  · simp (implicitDefEqProofs := false) (disch := omega) only [↓r_seq, ↓r_next, ↓r_if, ↓r_eif, ↓r_set, ↓r_ret, ↓r_retV, ↓r_expr, ↓r_asg, ↓r_par, ↓r_app, ↓r_ext, ↓r_sto, ↓r_or1, ↓r_or, ↓r_and1, ↓r_and, ↓r_vor1, ↓r_vor, ↓r_vand1, ↓r_vand, ↓r_not, ↓r_tru, ↓r_isB, ↓r_eC, ↓r_rd, ↓r_vl, ↓r_rV, ↓r_eV, ↓r_uV, ↓r_uVl, ↓r_sq0, ↓r_sq, ↓r_e2, ↓r_e3, ↓r_call, ↓r_user, ↓r_enot, ↓r_eneg, ↓r_tup, ↓r_lst, ↓r_sl, ↓r_noP, ↓r_aP, ↓r_iOf, ↓r_iF, ↓r_def, ↓r_ref, r_seqNx, r_seqRt, r_seqBk, r_seqCt, r_ifT, r_ifF, r_setV, r_setOt, r_setOl, r_setOd, r_setOs, r_retK, r_retVv, r_retVo, r_asgK, r_tgN, r_tgT, r_tgL, r_tgs0, r_tgs, r_parK, r_ownL, r_ownLo, r_ownD, r_ownDo, r_appK, r_appJ, r_extK, r_extJ, r_stoK, r_stoI, r_stoJ, r_stoL, r_orT, r_orF, r_andT, r_andF, r_vorK, r_vorT, r_vorF, r_vandK, r_vandT, r_vandF, r_notK, r_truK, r_truB, r_truI, r_truL, r_truT, r_truN, r_isBK, r_rdV, r_rdO, r_dV, r_dO, r_valV, r_valL, r_valD, r_rVv, r_rVo, r_rVb, r_eVv, r_uVv, r_uVo, r_uVb, r_uVlK, r_sqK, r_consK, r_opK, r_opJ, r_chK, r_chJ, r_chT, r_chF, r_clK, r_ntK, r_ngK, r_tpK, r_lsK, r_slK, r_slJ, r_slI, r_slL, r_slT, r_aPK, r_sqL, r_sqT, r_sqS, r_rtR, r_rtN, r_refO, r_refE, r_wdK, r_bAdd, r_bSub, r_bMul, r_bDiv, r_bMod, r_bPow, r_cLt, r_cLe, r_cGt, r_cGe, r_cEq, r_cNe, r_ixL, r_ixT, r_of, r_lenL, r_lenT, r_lenS, Pd.R.bind_ok, Pd.R.bind_err, Pd.R.bind_stuck, noE_ok', mul_r, div_i, mod_i, add_i, sub_i, lt_i, le_i, gt_i, ge_i, eq_i, ne_i, pow18, List.cons_append, List.nil_append, List.getElem?_cons_zero, List.getElem?_cons_succ, List.replicate_succ, List.replicate_zero, List.set_cons_zero, List.set_cons_succ, List.length_cons, List.length_nil, if_true, if_false, Bool.not_true, Bool.not_false, Bool.false_eq_true, ↓reduceIte, Nat.reduceAdd, Nat.reduceLeDiff, Nat.reduceLT, Nat.zero_add, Option.map_some, Int.cast_ofNat_Int, Int.natCast_one, Int.natCast_zero, Int.reduceBEq, Int.reduceLT, Int.reduceLE, Int.reduceAdd, Int.reduceSub, Int.reduceMul, Int.reduceNeg, Int.reduceDiv, Int.reduceMod, decide_true, decide_false]
    rfl
  refine seq_nx (Γ1 := [.val (ringD m ls), .own (.lst (fD ((List.replicate m none).set 0 (some 0)))), .own (.lst (nD [0])), .val (.int (0 : Nat)), .un]) ?_ ?_
  · simp (implicitDefEqProofs := false) (disch := omega) only [↓r_seq, ↓r_next, ↓r_if, ↓r_eif, ↓r_set, ↓r_ret, ↓r_retV, ↓r_expr, ↓r_asg, ↓r_par, ↓r_app, ↓r_ext, ↓r_sto, ↓r_or1, ↓r_or, ↓r_and1, ↓r_and, ↓r_vor1, ↓r_vor, ↓r_vand1, ↓r_vand, ↓r_not, ↓r_tru, ↓r_isB, ↓r_eC, ↓r_rd, ↓r_vl, ↓r_rV, ↓r_eV, ↓r_uV, ↓r_uVl, ↓r_sq0, ↓r_sq, ↓r_e2, ↓r_e3, ↓r_call, ↓r_user, ↓r_enot, ↓r_eneg, ↓r_tup, ↓r_lst, ↓r_sl, ↓r_noP, ↓r_aP, ↓r_iOf, ↓r_iF, ↓r_def, ↓r_ref, r_seqNx, r_seqRt, r_seqBk, r_seqCt, r_ifT, r_ifF, r_setV, r_setOt, r_setOl, r_setOd, r_setOs, r_retK, r_retVv, r_retVo, r_asgK, r_tgN, r_tgT, r_tgL, r_tgs0, r_tgs, r_parK, r_ownL, r_ownLo, r_ownD, r_ownDo, r_appK, r_appJ, r_extK, r_extJ, r_stoK, r_stoI, r_stoJ, r_stoL, r_orT, r_orF, r_andT, r_andF, r_vorK, r_vorT, r_vorF, r_vandK, r_vandT, r_vandF, r_notK, r_truK, r_truB, r_truI, r_truL, r_truT, r_truN, r_isBK, r_rdV, r_rdO, r_dV, r_dO, r_valV, r_valL, r_valD, r_rVv, r_rVo, r_rVb, r_eVv, r_uVv, r_uVo, r_uVb, r_uVlK, r_sqK, r_consK, r_opK, r_opJ, r_chK, r_chJ, r_chT, r_chF, r_clK, r_ntK, r_ngK, r_tpK, r_lsK, r_slK, r_slJ, r_slI, r_slL, r_slT, r_aPK, r_sqL, r_sqT, r_sqS, r_rtR, r_rtN, r_refO, r_refE, r_wdK, r_bAdd, r_bSub, r_bMul, r_bDiv, r_bMod, r_bPow, r_cLt, r_cLe, r_cGt, r_cGe, r_cEq, r_cNe, r_ixL, r_ixT, r_of, r_lenL, r_lenT, r_lenS, Pd.R.bind_ok, Pd.R.bind_err, Pd.R.bind_stuck, noE_ok', mul_r, div_i, mod_i, add_i, sub_i, lt_i, le_i, gt_i, ge_i, eq_i, ne_i, pow18, List.cons_append, List.nil_append, List.getElem?_cons_zero, List.getElem?_cons_succ, List.replicate_succ, List.replicate_zero, List.set_cons_zero, List.set_cons_succ, List.length_cons, List.length_nil, if_true, if_false, Bool.not_true, Bool.not_false, Bool.false_eq_true, ↓reduceIte, Nat.reduceAdd, Nat.reduceLeDiff, Nat.reduceLT, Nat.zero_add, Option.map_some, Int.cast_ofNat_Int, Int.natCast_one, Int.natCast_zero, Int.reduceBEq, Int.reduceLT, Int.reduceLE, Int.reduceAdd, Int.reduceSub, Int.reduceMul, Int.reduceNeg, Int.reduceDiv, Int.reduceMod, decide_true, decide_false]
  refine seq_nx ew ?_
  simp (implicitDefEqProofs := false) (disch := omega) only [↓r_seq, ↓r_next, ↓r_if, ↓r_eif, ↓r_set, ↓r_ret, ↓r_retV, ↓r_expr, ↓r_asg, ↓r_par, ↓r_app, ↓r_ext, ↓r_sto, ↓r_or1, ↓r_or, ↓r_and1, ↓r_and, ↓r_vor1, ↓r_vor, ↓r_vand1, ↓r_vand, ↓r_not, ↓r_tru, ↓r_isB, ↓r_eC, ↓r_rd, ↓r_vl, ↓r_rV, ↓r_eV, ↓r_uV, ↓r_uVl, ↓r_sq0, ↓r_sq, ↓r_e2, ↓r_e3, ↓r_call, ↓r_user, ↓r_enot, ↓r_eneg, ↓r_tup, ↓r_lst, ↓r_sl, ↓r_noP, ↓r_aP, ↓r_iOf, ↓r_iF, ↓r_def, ↓r_ref, r_seqNx, r_seqRt, r_seqBk, r_seqCt, r_ifT, r_ifF, r_setV, r_setOt, r_setOl, r_setOd, r_setOs, r_retK, r_retVv, r_retVo, r_asgK, r_tgN, r_tgT, r_tgL, r_tgs0, r_tgs, r_parK, r_ownL, r_ownLo, r_ownD, r_ownDo, r_appK, r_appJ, r_extK, r_extJ, r_stoK, r_stoI, r_stoJ, r_stoL, r_orT, r_orF, r_andT, r_andF, r_vorK, r_vorT, r_vorF, r_vandK, r_vandT, r_vandF, r_notK, r_truK, r_truB, r_truI, r_truL, r_truT, r_truN, r_isBK, r_rdV, r_rdO, r_dV, r_dO, r_valV, r_valL, r_valD, r_rVv, r_rVo, r_rVb, r_eVv, r_uVv, r_uVo, r_uVb, r_uVlK, r_sqK, r_consK, r_opK, r_opJ, r_chK, r_chJ, r_chT, r_chF, r_clK, r_ntK, r_ngK, r_tpK, r_lsK, r_slK, r_slJ, r_slI, r_slL, r_slT, r_aPK, r_sqL, r_sqT, r_sqS, r_rtR, r_rtN, r_refO, r_refE, r_wdK, r_bAdd, r_bSub, r_bMul, r_bDiv, r_bMod, r_bPow, r_cLt, r_cLe, r_cGt, r_cGe, r_cEq, r_cNe, r_ixL, r_ixT, r_of, r_lenL, r_lenT, r_lenS, Pd.R.bind_ok, Pd.R.bind_err, Pd.R.bind_stuck, noE_ok', mul_r, div_i, mod_i, add_i, sub_i, lt_i, le_i, gt_i, ge_i, eq_i, ne_i, pow18, List.cons_append, List.nil_append, List.getElem?_cons_zero, List.getElem?_cons_succ, List.replicate_succ, List.replicate_zero, List.set_cons_zero, List.set_cons_succ, List.length_cons, List.length_nil, if_true, if_false, Bool.not_true, Bool.not_false, Bool.false_eq_true, ↓reduceIte, Nat.reduceAdd, Nat.reduceLeDiff, Nat.reduceLT, Nat.zero_add, Option.map_some, Int.cast_ofNat_Int, Int.natCast_one, Int.natCast_zero, Int.reduceBEq, Int.reduceLT, Int.reduceLE, Int.reduceAdd, Int.reduceSub, Int.reduceMul, Int.reduceNeg, Int.reduceDiv, Int.reduceMod, decide_true, decide_false]
end
end Pd

set_option Elab.async false
set_option linter.all false
set_option maxRecDepth 100000
set_option maxHeartbeats 1000000
namespace Pd
open PySem PySem.Spec L2 Pr

section
variable {m : Nat} {ls : List Nat}
theorem near_tr {p q t : Nat} (hm : 0 < m) (h : q ∈ nearN m ls p) : (q + t) % m ∈ nearN m ls ((p + t) % m) := by
  obtain ⟨_, l, hl, h⟩ := mem_near.mp h
  refine mem_near.mpr ⟨Nat.mod_lt _ hm, l, hl, ?_⟩
  rcases h with rfl | rfl
  · left
    rw [Nat.mod_add_mod, Nat.mod_add_mod, show p + t + l = p + l + t by omega]
  · right
    rw [Nat.mod_add_mod, Nat.mod_add_mod, show p + t + (m - l) = p + (m - l) + t by omega]
theorem wk_tr (hm : 0 < m) (t : Nat) : ∀ {n p q : Nat}, Wk m ls n p q → Wk m ls n ((p + t) % m) ((q + t) % m)
  | 0, p, q, h => by
    have : p = q := h
    rw [this]
    rfl
  | n + 1, p, q, ⟨r, hw, h⟩ => ⟨(r + t) % m, wk_tr hm t hw, near_tr hm h⟩
theorem near_sym1 {p q l : Nat} (hp : p < m) (hl : l ≤ m) (h : (p + l) % m = q) : (q + (m - l)) % m = p := by
  rw [← h, Nat.mod_add_mod, show p + l + (m - l) = p + m by omega, Nat.add_mod_right, Nat.mod_eq_of_lt hp]
theorem near_sym2 {p q l : Nat} (hp : p < m) (hl : l ≤ m) (h : (p + (m - l)) % m = q) : (q + l) % m = p := by
  rw [← h, Nat.mod_add_mod, show p + (m - l) + l = p + m by omega, Nat.add_mod_right, Nat.mod_eq_of_lt hp]
theorem near_sym (hl : ∀ l ∈ ls, l ≤ m) {p q : Nat} (hp : p < m) (h : q ∈ nearN m ls p) : p ∈ nearN m ls q := by
  obtain ⟨_, l, hl', h⟩ := mem_near.mp h
  refine mem_near.mpr ⟨hp, l, hl', ?_⟩
  rcases h with h | h
  · exact .inr (near_sym1 hp (hl l hl') h)
  · exact .inl (near_sym2 hp (hl l hl') h)
def certB (m : Nat) (ls : List Nat) (p : Nat) (g : Nat → Nat) : Bool := g p == 0 && (List.range m).all fun q => (g q != 0 || q == p) && ((nearN m ls q).all (fun r => decide (g r ≤ g q + 1)) && (g q == 0 || (nearN m ls q).any fun r => g r + 1 == g q))
theorem isD_cert (hl : ∀ l ∈ ls, l ≤ m) {p : Nat} (hp : p < m) {g : Nat → Nat} (h : certB m ls p g = true) {q : Nat} (hq : q < m) : IsD m ls p q (g q) := by
  unfold certB at h
  rw [Bool.and_eq_true, List.all_eq_true] at h
  obtain ⟨h0, h⟩ := h
  have h0 := eq_of_beq h0
  have hz : ∀ q, q < m → g q = 0 → q = p := fun q hq e => by
    have := h q (List.mem_range.mpr hq)
    rw [Bool.and_eq_true, Bool.or_eq_true] at this
    rcases this.1 with x | x
    · simp [e] at x
    · exact eq_of_beq x
  have hup : ∀ q, q < m → ∀ r ∈ nearN m ls q, g r ≤ g q + 1 := fun q hq r hr => by
    have := h q (List.mem_range.mpr hq)
    rw [Bool.and_eq_true, Bool.and_eq_true, List.all_eq_true] at this
    exact of_decide_eq_true (this.2.1 r hr)
  have hdn : ∀ q, q < m → g q ≠ 0 → ∃ r ∈ nearN m ls q, g r + 1 = g q := fun q hq hn => by
    have := h q (List.mem_range.mpr hq)
    rw [Bool.and_eq_true, Bool.and_eq_true] at this
    have h2 := this.2.2
    rw [Bool.or_eq_true] at h2
    rcases h2 with x | x
    · exact absurd (eq_of_beq x) hn
    · obtain ⟨r, hr, e⟩ := List.any_eq_true.mp x
      exact ⟨r, hr, eq_of_beq e⟩
  have low : ∀ n q, Wk m ls n p q → g q ≤ n := by
    intro n
    induction n with
    | zero => intro q h; have : p = q := h; rw [← this, h0]; exact Nat.le_refl _
    | succ n ih =>
      rintro q ⟨r, hw, hr⟩
      have h1 := ih r hw
      have h2 := hup r (wk_lt hp hw) q hr
      omega
  have up : ∀ n q, q < m → g q = n → Wk m ls n p q := by
    intro n
    induction n with
    | zero => intro q hq e; exact (hz q hq e).symm
    | succ n ih =>
      intro q hq e
      obtain ⟨r, hr, e'⟩ := hdn q hq (by omega)
      exact ⟨r, ih r (near_lt hr) (by omega), near_sym hl hq hr⟩
  exact ⟨up _ q hq rfl, fun k hk hw => by have := low k q hw; omega⟩
theorem dist_cert (hl : ∀ l ∈ ls, l ≤ m) {p : Nat} (hp : p < m) {g : Nat → Nat} (h : certB m ls p g = true) {F : List (Option Nat)} (hF : Dist m ls p F) : F = (List.range m).map fun q => some (g q) := by
  refine List.ext_getElem? fun q => ?_
  by_cases hq : q < m
  · rw [(hF.at_ q (g q)).mpr (isD_cert hl hp h hq), List.getElem?_map, List.getElem?_range hq]
    rfl
  · rw [List.getElem?_eq_none (by rw [hF.len]; omega), List.getElem?_eq_none (by rw [List.length_map, List.length_range]; omega)]
theorem Ring.le (R : Ring m ls) : ∀ l ∈ ls, l ≤ m := fun l hl => by have := R.half l hl; omega
end
theorem head_v (ns : List Int) {K : Int} (h1 : 1 ≤ K) (h2 : K ≤ 60) (rest : Gm) : ∃ n : Nat, iOf rngF1 (seqR [rd (eCall fMax (seqR [rd (eC (.int 1)), rd (eCall fMin (seqR [rd (eCall fLen (seqR [rVar 0])), rd (eC (.int K))]))]))]) (.val (.scr ns) :: rest) = .ok (nD (List.range n)) := by
  by_cases h3 : K < ns.length
  · by_cases h4 : (1 : Int) < K
    · obtain ⟨n, hn⟩ : ∃ n : Nat, K = (n : Int) := ⟨K.toNat, by omega⟩
      subst hn
      refine ⟨n, ?_⟩
      have := rng1 (n := n) (by omega)
      simp (implicitDefEqProofs := false) (disch := omega) only [↓r_seq, ↓r_next, ↓r_if, ↓r_eif, ↓r_set, ↓r_ret, ↓r_retV, ↓r_expr, ↓r_asg, ↓r_par, ↓r_app, ↓r_ext, ↓r_sto, ↓r_or1, ↓r_or, ↓r_and1, ↓r_and, ↓r_vor1, ↓r_vor, ↓r_vand1, ↓r_vand, ↓r_not, ↓r_tru, ↓r_isB, ↓r_eC, ↓r_rd, ↓r_vl, ↓r_rV, ↓r_eV, ↓r_uV, ↓r_uVl, ↓r_sq0, ↓r_sq, ↓r_e2, ↓r_e3, ↓r_call, ↓r_user, ↓r_enot, ↓r_eneg, ↓r_tup, ↓r_lst, ↓r_sl, ↓r_noP, ↓r_aP, ↓r_iOf, ↓r_iF, ↓r_def, ↓r_ref, r_seqNx, r_seqRt, r_seqBk, r_seqCt, r_ifT, r_ifF, r_setV, r_setOt, r_setOl, r_setOd, r_setOs, r_retK, r_retVv, r_retVo, r_asgK, r_tgN, r_tgT, r_tgL, r_tgs0, r_tgs, r_parK, r_ownL, r_ownLo, r_ownD, r_ownDo, r_appK, r_appJ, r_extK, r_extJ, r_stoK, r_stoI, r_stoJ, r_stoL, r_orT, r_orF, r_andT, r_andF, r_vorK, r_vorT, r_vorF, r_vandK, r_vandT, r_vandF, r_notK, r_truK, r_truB, r_truI, r_truL, r_truT, r_truN, r_isBK, r_rdV, r_rdO, r_dV, r_dO, r_valV, r_valL, r_valD, r_rVv, r_rVo, r_rVb, r_eVv, r_uVv, r_uVo, r_uVb, r_uVlK, r_sqK, r_consK, r_opK, r_opJ, r_chK, r_chJ, r_chT, r_chF, r_clK, r_ntK, r_ngK, r_tpK, r_lsK, r_slK, r_slJ, r_slI, r_slL, r_slT, r_aPK, r_sqL, r_sqT, r_sqS, r_rtR, r_rtN, r_refO, r_refE, r_wdK, r_bAdd, r_bSub, r_bMul, r_bDiv, r_bMod, r_bPow, r_cLt, r_cLe, r_cGt, r_cGe, r_cEq, r_cNe, r_ixL, r_ixT, r_of, r_lenL, r_lenT, r_lenS, Pd.R.bind_ok, Pd.R.bind_err, Pd.R.bind_stuck, noE_ok', mul_r, div_i, mod_i, add_i, sub_i, lt_i, le_i, gt_i, ge_i, eq_i, ne_i, pow18, List.cons_append, List.nil_append, List.getElem?_cons_zero, List.getElem?_cons_succ, List.replicate_succ, List.replicate_zero, List.set_cons_zero, List.set_cons_succ, List.length_cons, List.length_nil, if_true, if_false, Bool.not_true, Bool.not_false, Bool.false_eq_true, ↓reduceIte, Nat.reduceAdd, Nat.reduceLeDiff, Nat.reduceLT, Nat.zero_add, Option.map_some, Int.cast_ofNat_Int, Int.natCast_one, Int.natCast_zero, Int.reduceBEq, Int.reduceLT, Int.reduceLE, Int.reduceAdd, Int.reduceSub, Int.reduceMul, Int.reduceNeg, Int.reduceDiv, Int.reduceMod, decide_true, decide_false, max_i, min_i, h3, h4, gt_iff_lt, this]
    · obtain rfl : K = 1 := by omega
      refine ⟨1, ?_⟩
      have := rng1 (n := 1) (by omega)
      rw [Int.natCast_one] at this
      simp (implicitDefEqProofs := false) (disch := omega) only [↓r_seq, ↓r_next, ↓r_if, ↓r_eif, ↓r_set, ↓r_ret, ↓r_retV, ↓r_expr, ↓r_asg, ↓r_par, ↓r_app, ↓r_ext, ↓r_sto, ↓r_or1, ↓r_or, ↓r_and1, ↓r_and, ↓r_vor1, ↓r_vor, ↓r_vand1, ↓r_vand, ↓r_not, ↓r_tru, ↓r_isB, ↓r_eC, ↓r_rd, ↓r_vl, ↓r_rV, ↓r_eV, ↓r_uV, ↓r_uVl, ↓r_sq0, ↓r_sq, ↓r_e2, ↓r_e3, ↓r_call, ↓r_user, ↓r_enot, ↓r_eneg, ↓r_tup, ↓r_lst, ↓r_sl, ↓r_noP, ↓r_aP, ↓r_iOf, ↓r_iF, ↓r_def, ↓r_ref, r_seqNx, r_seqRt, r_seqBk, r_seqCt, r_ifT, r_ifF, r_setV, r_setOt, r_setOl, r_setOd, r_setOs, r_retK, r_retVv, r_retVo, r_asgK, r_tgN, r_tgT, r_tgL, r_tgs0, r_tgs, r_parK, r_ownL, r_ownLo, r_ownD, r_ownDo, r_appK, r_appJ, r_extK, r_extJ, r_stoK, r_stoI, r_stoJ, r_stoL, r_orT, r_orF, r_andT, r_andF, r_vorK, r_vorT, r_vorF, r_vandK, r_vandT, r_vandF, r_notK, r_truK, r_truB, r_truI, r_truL, r_truT, r_truN, r_isBK, r_rdV, r_rdO, r_dV, r_dO, r_valV, r_valL, r_valD, r_rVv, r_rVo, r_rVb, r_eVv, r_uVv, r_uVo, r_uVb, r_uVlK, r_sqK, r_consK, r_opK, r_opJ, r_chK, r_chJ, r_chT, r_chF, r_clK, r_ntK, r_ngK, r_tpK, r_lsK, r_slK, r_slJ, r_slI, r_slL, r_slT, r_aPK, r_sqL, r_sqT, r_sqS, r_rtR, r_rtN, r_refO, r_refE, r_wdK, r_bAdd, r_bSub, r_bMul, r_bDiv, r_bMod, r_bPow, r_cLt, r_cLe, r_cGt, r_cGe, r_cEq, r_cNe, r_ixL, r_ixT, r_of, r_lenL, r_lenT, r_lenS, Pd.R.bind_ok, Pd.R.bind_err, Pd.R.bind_stuck, noE_ok', mul_r, div_i, mod_i, add_i, sub_i, lt_i, le_i, gt_i, ge_i, eq_i, ne_i, pow18, List.cons_append, List.nil_append, List.getElem?_cons_zero, List.getElem?_cons_succ, List.replicate_succ, List.replicate_zero, List.set_cons_zero, List.set_cons_succ, List.length_cons, List.length_nil, if_true, if_false, Bool.not_true, Bool.not_false, Bool.false_eq_true, ↓reduceIte, Nat.reduceAdd, Nat.reduceLeDiff, Nat.reduceLT, Nat.zero_add, Option.map_some, Int.cast_ofNat_Int, Int.natCast_one, Int.natCast_zero, Int.reduceBEq, Int.reduceLT, Int.reduceLE, Int.reduceAdd, Int.reduceSub, Int.reduceMul, Int.reduceNeg, Int.reduceDiv, Int.reduceMod, decide_true, decide_false, max_i, min_i, h3, gt_iff_lt, this]
  · by_cases h4 : (1 : Int) < ns.length
    · refine ⟨ns.length, ?_⟩
      have := rng1 (n := ns.length) (by omega)
      simp (implicitDefEqProofs := false) (disch := omega) only [↓r_seq, ↓r_next, ↓r_if, ↓r_eif, ↓r_set, ↓r_ret, ↓r_retV, ↓r_expr, ↓r_asg, ↓r_par, ↓r_app, ↓r_ext, ↓r_sto, ↓r_or1, ↓r_or, ↓r_and1, ↓r_and, ↓r_vor1, ↓r_vor, ↓r_vand1, ↓r_vand, ↓r_not, ↓r_tru, ↓r_isB, ↓r_eC, ↓r_rd, ↓r_vl, ↓r_rV, ↓r_eV, ↓r_uV, ↓r_uVl, ↓r_sq0, ↓r_sq, ↓r_e2, ↓r_e3, ↓r_call, ↓r_user, ↓r_enot, ↓r_eneg, ↓r_tup, ↓r_lst, ↓r_sl, ↓r_noP, ↓r_aP, ↓r_iOf, ↓r_iF, ↓r_def, ↓r_ref, r_seqNx, r_seqRt, r_seqBk, r_seqCt, r_ifT, r_ifF, r_setV, r_setOt, r_setOl, r_setOd, r_setOs, r_retK, r_retVv, r_retVo, r_asgK, r_tgN, r_tgT, r_tgL, r_tgs0, r_tgs, r_parK, r_ownL, r_ownLo, r_ownD, r_ownDo, r_appK, r_appJ, r_extK, r_extJ, r_stoK, r_stoI, r_stoJ, r_stoL, r_orT, r_orF, r_andT, r_andF, r_vorK, r_vorT, r_vorF, r_vandK, r_vandT, r_vandF, r_notK, r_truK, r_truB, r_truI, r_truL, r_truT, r_truN, r_isBK, r_rdV, r_rdO, r_dV, r_dO, r_valV, r_valL, r_valD, r_rVv, r_rVo, r_rVb, r_eVv, r_uVv, r_uVo, r_uVb, r_uVlK, r_sqK, r_consK, r_opK, r_opJ, r_chK, r_chJ, r_chT, r_chF, r_clK, r_ntK, r_ngK, r_tpK, r_lsK, r_slK, r_slJ, r_slI, r_slL, r_slT, r_aPK, r_sqL, r_sqT, r_sqS, r_rtR, r_rtN, r_refO, r_refE, r_wdK, r_bAdd, r_bSub, r_bMul, r_bDiv, r_bMod, r_bPow, r_cLt, r_cLe, r_cGt, r_cGe, r_cEq, r_cNe, r_ixL, r_ixT, r_of, r_lenL, r_lenT, r_lenS, Pd.R.bind_ok, Pd.R.bind_err, Pd.R.bind_stuck, noE_ok', mul_r, div_i, mod_i, add_i, sub_i, lt_i, le_i, gt_i, ge_i, eq_i, ne_i, pow18, List.cons_append, List.nil_append, List.getElem?_cons_zero, List.getElem?_cons_succ, List.replicate_succ, List.replicate_zero, List.set_cons_zero, List.set_cons_succ, List.length_cons, List.length_nil, if_true, if_false, Bool.not_true, Bool.not_false, Bool.false_eq_true, ↓reduceIte, Nat.reduceAdd, Nat.reduceLeDiff, Nat.reduceLT, Nat.zero_add, Option.map_some, Int.cast_ofNat_Int, Int.natCast_one, Int.natCast_zero, Int.reduceBEq, Int.reduceLT, Int.reduceLE, Int.reduceAdd, Int.reduceSub, Int.reduceMul, Int.reduceNeg, Int.reduceDiv, Int.reduceMod, decide_true, decide_false, max_i, min_i, h3, h4, gt_iff_lt, this]
    · refine ⟨1, ?_⟩
      have := rng1 (n := 1) (by omega)
      rw [Int.natCast_one] at this
      simp (implicitDefEqProofs := false) (disch := omega) only [↓r_seq, ↓r_next, ↓r_if, ↓r_eif, ↓r_set, ↓r_ret, ↓r_retV, ↓r_expr, ↓r_asg, ↓r_par, ↓r_app, ↓r_ext, ↓r_sto, ↓r_or1, ↓r_or, ↓r_and1, ↓r_and, ↓r_vor1, ↓r_vor, ↓r_vand1, ↓r_vand, ↓r_not, ↓r_tru, ↓r_isB, ↓r_eC, ↓r_rd, ↓r_vl, ↓r_rV, ↓r_eV, ↓r_uV, ↓r_uVl, ↓r_sq0, ↓r_sq, ↓r_e2, ↓r_e3, ↓r_call, ↓r_user, ↓r_enot, ↓r_eneg, ↓r_tup, ↓r_lst, ↓r_sl, ↓r_noP, ↓r_aP, ↓r_iOf, ↓r_iF, ↓r_def, ↓r_ref, r_seqNx, r_seqRt, r_seqBk, r_seqCt, r_ifT, r_ifF, r_setV, r_setOt, r_setOl, r_setOd, r_setOs, r_retK, r_retVv, r_retVo, r_asgK, r_tgN, r_tgT, r_tgL, r_tgs0, r_tgs, r_parK, r_ownL, r_ownLo, r_ownD, r_ownDo, r_appK, r_appJ, r_extK, r_extJ, r_stoK, r_stoI, r_stoJ, r_stoL, r_orT, r_orF, r_andT, r_andF, r_vorK, r_vorT, r_vorF, r_vandK, r_vandT, r_vandF, r_notK, r_truK, r_truB, r_truI, r_truL, r_truT, r_truN, r_isBK, r_rdV, r_rdO, r_dV, r_dO, r_valV, r_valL, r_valD, r_rVv, r_rVo, r_rVb, r_eVv, r_uVv, r_uVo, r_uVb, r_uVlK, r_sqK, r_consK, r_opK, r_opJ, r_chK, r_chJ, r_chT, r_chF, r_clK, r_ntK, r_ngK, r_tpK, r_lsK, r_slK, r_slJ, r_slI, r_slL, r_slT, r_aPK, r_sqL, r_sqT, r_sqS, r_rtR, r_rtN, r_refO, r_refE, r_wdK, r_bAdd, r_bSub, r_bMul, r_bDiv, r_bMod, r_bPow, r_cLt, r_cLe, r_cGt, r_cGe, r_cEq, r_cNe, r_ixL, r_ixT, r_of, r_lenL, r_lenT, r_lenS, Pd.R.bind_ok, Pd.R.bind_err, Pd.R.bind_stuck, noE_ok', mul_r, div_i, mod_i, add_i, sub_i, lt_i, le_i, gt_i, ge_i, eq_i, ne_i, pow18, List.cons_append, List.nil_append, List.getElem?_cons_zero, List.getElem?_cons_succ, List.replicate_succ, List.replicate_zero, List.set_cons_zero, List.set_cons_succ, List.length_cons, List.length_nil, if_true, if_false, Bool.not_true, Bool.not_false, Bool.false_eq_true, ↓reduceIte, Nat.reduceAdd, Nat.reduceLeDiff, Nat.reduceLT, Nat.zero_add, Option.map_some, Int.cast_ofNat_Int, Int.natCast_one, Int.natCast_zero, Int.reduceBEq, Int.reduceLT, Int.reduceLE, Int.reduceAdd, Int.reduceSub, Int.reduceMul, Int.reduceNeg, Int.reduceDiv, Int.reduceMod, decide_true, decide_false, max_i, min_i, h3, h4, gt_iff_lt, this]
theorem pick4 (a b c d : Int) {r : Nat} (h : r < 4) : ∃ x, (x = a ∨ x = b ∨ x = c ∨ x = d) ∧ atI [D.int a, .int b, .int c, .int d] (r : Int) = some (.int x) := by
  rcases (show r = 0 ∨ r = 1 ∨ r = 2 ∨ r = 3 by omega) with rfl | rfl | rfl | rfl
  · exact ⟨a, .inl rfl, rfl⟩
  · exact ⟨b, .inr (.inl rfl), rfl⟩
  · exact ⟨c, .inr (.inr (.inl rfl)), rfl⟩
  · exact ⟨d, .inr (.inr (.inr rfl)), rfl⟩
end Pd

set_option Elab.async false
set_option linter.all false
set_option maxRecDepth 100000
set_option maxHeartbeats 1000000
namespace Pd
open PySem PySem.Spec L2 Pr

def gdC : Gm → R Bool := isB (e2 (dCmp .Gt) (rVar 1) (rd (eC (.int 0))))
def gdB : Gm → R Out := sSeq (sPar 0 1 (seqR [vl (eVar 1), vl (e2 (dBin .Mod) (rVar 0) (rVar 1))])) (sNext)
theorem gd_while : ∀ (n a b : Nat), b < n → whR gdC gdB n [.val (.int a), .val (.int b)] = .ok (.nx [.val (.int (Nat.gcd a b)), .val (.int (0 : Nat))])
  | 0, _, _, h => absurd h (Nat.not_lt_zero _)
  | n + 1, a, b, h => by
    by_cases h0 : b = 0
    · subst h0
      have e : gdC [.val (.int a), .val (.int (0 : Nat))] = .ok false := by
        unfold gdC
        simp (implicitDefEqProofs := false) (disch := omega) only [↓r_seq, ↓r_next, ↓r_if, ↓r_eif, ↓r_set, ↓r_ret, ↓r_retV, ↓r_expr, ↓r_asg, ↓r_par, ↓r_app, ↓r_ext, ↓r_sto, ↓r_or1, ↓r_or, ↓r_and1, ↓r_and, ↓r_vor1, ↓r_vor, ↓r_vand1, ↓r_vand, ↓r_not, ↓r_tru, ↓r_isB, ↓r_eC, ↓r_rd, ↓r_vl, ↓r_rV, ↓r_eV, ↓r_uV, ↓r_uVl, ↓r_sq0, ↓r_sq, ↓r_e2, ↓r_e3, ↓r_call, ↓r_user, ↓r_enot, ↓r_eneg, ↓r_tup, ↓r_lst, ↓r_sl, ↓r_noP, ↓r_aP, ↓r_iOf, ↓r_iF, ↓r_def, ↓r_ref, r_seqNx, r_seqRt, r_seqBk, r_seqCt, r_ifT, r_ifF, r_setV, r_setOt, r_setOl, r_setOd, r_setOs, r_retK, r_retVv, r_retVo, r_asgK, r_tgN, r_tgT, r_tgL, r_tgs0, r_tgs, r_parK, r_ownL, r_ownLo, r_ownD, r_ownDo, r_appK, r_appJ, r_extK, r_extJ, r_stoK, r_stoI, r_stoJ, r_stoL, r_orT, r_orF, r_andT, r_andF, r_vorK, r_vorT, r_vorF, r_vandK, r_vandT, r_vandF, r_notK, r_truK, r_truB, r_truI, r_truL, r_truT, r_truN, r_isBK, r_rdV, r_rdO, r_dV, r_dO, r_valV, r_valL, r_valD, r_rVv, r_rVo, r_rVb, r_eVv, r_uVv, r_uVo, r_uVb, r_uVlK, r_sqK, r_consK, r_opK, r_opJ, r_chK, r_chJ, r_chT, r_chF, r_clK, r_ntK, r_ngK, r_tpK, r_lsK, r_slK, r_slJ, r_slI, r_slL, r_slT, r_aPK, r_sqL, r_sqT, r_sqS, r_rtR, r_rtN, r_refO, r_refE, r_wdK, r_bAdd, r_bSub, r_bMul, r_bDiv, r_bMod, r_bPow, r_cLt, r_cLe, r_cGt, r_cGe, r_cEq, r_cNe, r_ixL, r_ixT, r_of, r_lenL, r_lenT, r_lenS, Pd.R.bind_ok, Pd.R.bind_err, Pd.R.bind_stuck, noE_ok', mul_r, div_i, mod_i, add_i, sub_i, lt_i, le_i, gt_i, ge_i, eq_i, ne_i, pow18, List.cons_append, List.nil_append, List.getElem?_cons_zero, List.getElem?_cons_succ, List.replicate_succ, List.replicate_zero, List.set_cons_zero, List.set_cons_succ, List.length_cons, List.length_nil, if_true, if_false, Bool.not_true, Bool.not_false, Bool.false_eq_true, ↓reduceIte, Nat.reduceAdd, Nat.reduceLeDiff, Nat.reduceLT, Nat.zero_add, Option.map_some, Int.cast_ofNat_Int, Int.natCast_one, Int.natCast_zero, Int.reduceBEq, Int.reduceLT, Int.reduceLE, Int.reduceAdd, Int.reduceSub, Int.reduceMul, Int.reduceNeg, Int.reduceDiv, Int.reduceMod, decide_true, decide_false]
      rw [whR, e, Pd.R.bind_ok, Nat.gcd_zero_right]
      rfl
    · have hb : (0 : Int) < b := by omega
      have e : gdC [.val (.int a), .val (.int b)] = .ok true := by
        unfold gdC
        simp (implicitDefEqProofs := false) (disch := omega) only [↓r_seq, ↓r_next, ↓r_if, ↓r_eif, ↓r_set, ↓r_ret, ↓r_retV, ↓r_expr, ↓r_asg, ↓r_par, ↓r_app, ↓r_ext, ↓r_sto, ↓r_or1, ↓r_or, ↓r_and1, ↓r_and, ↓r_vor1, ↓r_vor, ↓r_vand1, ↓r_vand, ↓r_not, ↓r_tru, ↓r_isB, ↓r_eC, ↓r_rd, ↓r_vl, ↓r_rV, ↓r_eV, ↓r_uV, ↓r_uVl, ↓r_sq0, ↓r_sq, ↓r_e2, ↓r_e3, ↓r_call, ↓r_user, ↓r_enot, ↓r_eneg, ↓r_tup, ↓r_lst, ↓r_sl, ↓r_noP, ↓r_aP, ↓r_iOf, ↓r_iF, ↓r_def, ↓r_ref, r_seqNx, r_seqRt, r_seqBk, r_seqCt, r_ifT, r_ifF, r_setV, r_setOt, r_setOl, r_setOd, r_setOs, r_retK, r_retVv, r_retVo, r_asgK, r_tgN, r_tgT, r_tgL, r_tgs0, r_tgs, r_parK, r_ownL, r_ownLo, r_ownD, r_ownDo, r_appK, r_appJ, r_extK, r_extJ, r_stoK, r_stoI, r_stoJ, r_stoL, r_orT, r_orF, r_andT, r_andF, r_vorK, r_vorT, r_vorF, r_vandK, r_vandT, r_vandF, r_notK, r_truK, r_truB, r_truI, r_truL, r_truT, r_truN, r_isBK, r_rdV, r_rdO, r_dV, r_dO, r_valV, r_valL, r_valD, r_rVv, r_rVo, r_rVb, r_eVv, r_uVv, r_uVo, r_uVb, r_uVlK, r_sqK, r_consK, r_opK, r_opJ, r_chK, r_chJ, r_chT, r_chF, r_clK, r_ntK, r_ngK, r_tpK, r_lsK, r_slK, r_slJ, r_slI, r_slL, r_slT, r_aPK, r_sqL, r_sqT, r_sqS, r_rtR, r_rtN, r_refO, r_refE, r_wdK, r_bAdd, r_bSub, r_bMul, r_bDiv, r_bMod, r_bPow, r_cLt, r_cLe, r_cGt, r_cGe, r_cEq, r_cNe, r_ixL, r_ixT, r_of, r_lenL, r_lenT, r_lenS, Pd.R.bind_ok, Pd.R.bind_err, Pd.R.bind_stuck, noE_ok', mul_r, div_i, mod_i, add_i, sub_i, lt_i, le_i, gt_i, ge_i, eq_i, ne_i, pow18, List.cons_append, List.nil_append, List.getElem?_cons_zero, List.getElem?_cons_succ, List.replicate_succ, List.replicate_zero, List.set_cons_zero, List.set_cons_succ, List.length_cons, List.length_nil, if_true, if_false, Bool.not_true, Bool.not_false, Bool.false_eq_true, ↓reduceIte, Nat.reduceAdd, Nat.reduceLeDiff, Nat.reduceLT, Nat.zero_add, Option.map_some, Int.cast_ofNat_Int, Int.natCast_one, Int.natCast_zero, Int.reduceBEq, Int.reduceLT, Int.reduceLE, Int.reduceAdd, Int.reduceSub, Int.reduceMul, Int.reduceNeg, Int.reduceDiv, Int.reduceMod, decide_true, decide_false, hb]
      have hm : (a : Int) % (b : Int) = ((a % b : Nat) : Int) := rfl
      have eb : gdB [.val (.int a), .val (.int b)] = .ok (.nx [.val (.int b), .val (.int ((a % b : Nat) : Int))]) := by
        unfold gdB
        simp (implicitDefEqProofs := false) (disch := omega) only [↓r_seq, ↓r_next, ↓r_if, ↓r_eif, ↓r_set, ↓r_ret, ↓r_retV, ↓r_expr, ↓r_asg, ↓r_par, ↓r_app, ↓r_ext, ↓r_sto, ↓r_or1, ↓r_or, ↓r_and1, ↓r_and, ↓r_vor1, ↓r_vor, ↓r_vand1, ↓r_vand, ↓r_not, ↓r_tru, ↓r_isB, ↓r_eC, ↓r_rd, ↓r_vl, ↓r_rV, ↓r_eV, ↓r_uV, ↓r_uVl, ↓r_sq0, ↓r_sq, ↓r_e2, ↓r_e3, ↓r_call, ↓r_user, ↓r_enot, ↓r_eneg, ↓r_tup, ↓r_lst, ↓r_sl, ↓r_noP, ↓r_aP, ↓r_iOf, ↓r_iF, ↓r_def, ↓r_ref, r_seqNx, r_seqRt, r_seqBk, r_seqCt, r_ifT, r_ifF, r_setV, r_setOt, r_setOl, r_setOd, r_setOs, r_retK, r_retVv, r_retVo, r_asgK, r_tgN, r_tgT, r_tgL, r_tgs0, r_tgs, r_parK, r_ownL, r_ownLo, r_ownD, r_ownDo, r_appK, r_appJ, r_extK, r_extJ, r_stoK, r_stoI, r_stoJ, r_stoL, r_orT, r_orF, r_andT, r_andF, r_vorK, r_vorT, r_vorF, r_vandK, r_vandT, r_vandF, r_notK, r_truK, r_truB, r_truI, r_truL, r_truT, r_truN, r_isBK, r_rdV, r_rdO, r_dV, r_dO, r_valV, r_valL, r_valD, r_rVv, r_rVo, r_rVb, r_eVv, r_uVv, r_uVo, r_uVb, r_uVlK, r_sqK, r_consK, r_opK, r_opJ, r_chK, r_chJ, r_chT, r_chF, r_clK, r_ntK, r_ngK, r_tpK, r_lsK, r_slK, r_slJ, r_slI, r_slL, r_slT, r_aPK, r_sqL, r_sqT, r_sqS, r_rtR, r_rtN, r_refO, r_refE, r_wdK, r_bAdd, r_bSub, r_bMul, r_bDiv, r_bMod, r_bPow, r_cLt, r_cLe, r_cGt, r_cGe, r_cEq, r_cNe, r_ixL, r_ixT, r_of, r_lenL, r_lenT, r_lenS, Pd.R.bind_ok, Pd.R.bind_err, Pd.R.bind_stuck, noE_ok', mul_r, div_i, mod_i, add_i, sub_i, lt_i, le_i, gt_i, ge_i, eq_i, ne_i, pow18, List.cons_append, List.nil_append, List.getElem?_cons_zero, List.getElem?_cons_succ, List.replicate_succ, List.replicate_zero, List.set_cons_zero, List.set_cons_succ, List.length_cons, List.length_nil, if_true, if_false, Bool.not_true, Bool.not_false, Bool.false_eq_true, ↓reduceIte, Nat.reduceAdd, Nat.reduceLeDiff, Nat.reduceLT, Nat.zero_add, Option.map_some, Int.cast_ofNat_Int, Int.natCast_one, Int.natCast_zero, Int.reduceBEq, Int.reduceLT, Int.reduceLE, Int.reduceAdd, Int.reduceSub, Int.reduceMul, Int.reduceNeg, Int.reduceDiv, Int.reduceMod, decide_true, decide_false, hm]
      have hl : a % b < b := Nat.mod_lt _ (by omega)
      rw [whR, e, Pd.R.bind_ok, if_pos rfl, eb, Pd.R.bind_ok]
      have ih := gd_while n b (a % b) (by omega)
      have hg : Nat.gcd b (a % b) = Nat.gcd a b := by rw [Nat.gcd_comm a b, Nat.gcd_rec b a, Nat.gcd_comm]
      rw [hg] at ih
      exact ih
theorem common_v (a b : Nat) (h : b < 1000000) : d_common [.val (.int a), .val (.int b)] = .ok (.v (.int (Nat.gcd a b))) := by
  have e := gd_while whN a b (by unfold whN; omega)
  unfold d_common
  refine def_rt ?_
  unfold f_common
  show sSeq _ _ [.val (.int a), .val (.int b)] = _
  refine seq_nx e ?_
  simp (implicitDefEqProofs := false) (disch := omega) only [↓r_seq, ↓r_next, ↓r_if, ↓r_eif, ↓r_set, ↓r_ret, ↓r_retV, ↓r_expr, ↓r_asg, ↓r_par, ↓r_app, ↓r_ext, ↓r_sto, ↓r_or1, ↓r_or, ↓r_and1, ↓r_and, ↓r_vor1, ↓r_vor, ↓r_vand1, ↓r_vand, ↓r_not, ↓r_tru, ↓r_isB, ↓r_eC, ↓r_rd, ↓r_vl, ↓r_rV, ↓r_eV, ↓r_uV, ↓r_uVl, ↓r_sq0, ↓r_sq, ↓r_e2, ↓r_e3, ↓r_call, ↓r_user, ↓r_enot, ↓r_eneg, ↓r_tup, ↓r_lst, ↓r_sl, ↓r_noP, ↓r_aP, ↓r_iOf, ↓r_iF, ↓r_def, ↓r_ref, r_seqNx, r_seqRt, r_seqBk, r_seqCt, r_ifT, r_ifF, r_setV, r_setOt, r_setOl, r_setOd, r_setOs, r_retK, r_retVv, r_retVo, r_asgK, r_tgN, r_tgT, r_tgL, r_tgs0, r_tgs, r_parK, r_ownL, r_ownLo, r_ownD, r_ownDo, r_appK, r_appJ, r_extK, r_extJ, r_stoK, r_stoI, r_stoJ, r_stoL, r_orT, r_orF, r_andT, r_andF, r_vorK, r_vorT, r_vorF, r_vandK, r_vandT, r_vandF, r_notK, r_truK, r_truB, r_truI, r_truL, r_truT, r_truN, r_isBK, r_rdV, r_rdO, r_dV, r_dO, r_valV, r_valL, r_valD, r_rVv, r_rVo, r_rVb, r_eVv, r_uVv, r_uVo, r_uVb, r_uVlK, r_sqK, r_consK, r_opK, r_opJ, r_chK, r_chJ, r_chT, r_chF, r_clK, r_ntK, r_ngK, r_tpK, r_lsK, r_slK, r_slJ, r_slI, r_slL, r_slT, r_aPK, r_sqL, r_sqT, r_sqS, r_rtR, r_rtN, r_refO, r_refE, r_wdK, r_bAdd, r_bSub, r_bMul, r_bDiv, r_bMod, r_bPow, r_cLt, r_cLe, r_cGt, r_cGe, r_cEq, r_cNe, r_ixL, r_ixT, r_of, r_lenL, r_lenT, r_lenS, Pd.R.bind_ok, Pd.R.bind_err, Pd.R.bind_stuck, noE_ok', mul_r, div_i, mod_i, add_i, sub_i, lt_i, le_i, gt_i, ge_i, eq_i, ne_i, pow18, List.cons_append, List.nil_append, List.getElem?_cons_zero, List.getElem?_cons_succ, List.replicate_succ, List.replicate_zero, List.set_cons_zero, List.set_cons_succ, List.length_cons, List.length_nil, if_true, if_false, Bool.not_true, Bool.not_false, Bool.false_eq_true, ↓reduceIte, Nat.reduceAdd, Nat.reduceLeDiff, Nat.reduceLT, Nat.zero_add, Option.map_some, Int.cast_ofNat_Int, Int.natCast_one, Int.natCast_zero, Int.reduceBEq, Int.reduceLT, Int.reduceLE, Int.reduceAdd, Int.reduceSub, Int.reduceMul, Int.reduceNeg, Int.reduceDiv, Int.reduceMod, decide_true, decide_false]
theorem need_number_v {d : D} (a b : Int) (hp : okD d = true) : d_need_number [.val d, .val (.int a), .val (.int b)] = if isNum d a b = true then .ok (.v .non) else .err "NoNumber" := need_v a b (ok_plain hp)
theorem need_number_ok {x a b : Int} (h1 : a ≤ x) (h2 : x ≤ b) : d_need_number [.val (.int x), .val (.int a), .val (.int b)] = .ok (.v .non) := (need_number_v a b rfl).trans (if_pos (by simp [isNum, h1, h2]))
def foldN (m by_ l : Nat) : Nat := if m - l * by_ % m < l * by_ % m then m - l * by_ % m else l * by_ % m
def timesN (m : Nat) (ls : List Nat) (by_ : Nat) : List Nat := (List.range m).filter fun q => ls.any fun l => foldN m by_ l == q
section
variable {m : Nat} {ls : List Nat}
theorem ring_ix (m : Nat) (ls : List Nat) : dIx (ringD m ls) (.int 0) = some (.v (.int m)) := rfl
def oneTo (m : Nat) : List Nat := (List.range (m - 1)).map (· + 1)
def isAlike (m : Nat) (ls : List Nat) (m' : Nat) (ls' : List Nat) (b : Nat) : Bool := decide (Nat.gcd m b = 1) && decide (m = m' ∧ timesN m ls b = ls')
def optD : Option Nat → D
  | some b => .int (b : Int)
  | none => .non
end
end Pd

set_option Elab.async false
set_option linter.all false
set_option maxRecDepth 100000
set_option maxHeartbeats 1000000
namespace Pd
open PySem PySem.Spec L2 Pr

section
variable {m : Nat} {ls : List Nat}
def tieD (t : Nat × Nat) : D := .tup [.int (t.1 : Int), .int (t.2 : Int)]
def upN (m : Nat) (ls : List Nat) (p : Nat) : List Nat := (nearN m ls p).filter fun q => decide (p < q)
def tiesOf (m : Nat) (ls : List Nat) (ps : List Nat) : List (Nat × Nat) := ps.flatMap fun p => (upN m ls p).map fun q => (p, q)
def tiesN (m : Nat) (ls : List Nat) : List (Nat × Nat) := tiesOf m ls (List.range m)
def gcdL (m : Nat) (ls : List Nat) : Nat := ls.foldl Nat.gcd m
theorem gcdL_le : ∀ (ls : List Nat) (m : Nat), 0 < m → 0 < gcdL m ls ∧ gcdL m ls ≤ m
  | [], m, h => ⟨h, Nat.le_refl _⟩
  | l :: ls, m, h => by
    have h1 : 0 < Nat.gcd m l := Nat.gcd_pos_of_pos_left _ h
    obtain ⟨a, b⟩ := gcdL_le ls (Nat.gcd m l) h1
    exact ⟨a, Nat.le_trans b (Nat.le_of_dvd h (Nat.gcd_dvd_left m l))⟩
theorem dvd_gcdL {d : Nat} : ∀ (ls : List Nat) (m : Nat), d ∣ gcdL m ls ↔ d ∣ m ∧ ∀ l ∈ ls, d ∣ l
  | [], m => ⟨fun h => ⟨h, fun l hl => absurd hl List.not_mem_nil⟩, fun h => h.1⟩
  | l :: ls, m => by
    show d ∣ gcdL (Nat.gcd m l) ls ↔ _
    rw [dvd_gcdL ls, Nat.dvd_gcd_iff]
    constructor
    · rintro ⟨⟨a, b⟩, c⟩
      exact ⟨a, fun x hx => (List.mem_cons.mp hx).elim (fun e => e ▸ b) (c x)⟩
    · rintro ⟨a, c⟩
      exact ⟨⟨a, c l (List.mem_cons_self ..)⟩, fun x hx => c x (List.mem_cons_of_mem _ hx)⟩
theorem pieces_of_v (R : Ring m ls) : d_pieces_of [.val (ringD m ls)] = .ok (.v (.int (gcdL m ls : Nat))) := by
  have h3 := R.m3
  have h100 := R.m100
  have ix := ring_ix m ls
  have ix1 : dIx (ringD m ls) (.int 1) = some (.v (.tup (nD ls))) := rfl
  unfold d_pieces_of
  refine def_rt ?_
  unfold f_pieces_of
  show sSeq _ _ [.val (ringD m ls), .un, .un] = _
  refine seq_nx (Γ1 := [.val (ringD m ls), .val (.int m), .un]) (by simp (implicitDefEqProofs := false) (disch := omega) only [↓r_seq, ↓r_next, ↓r_if, ↓r_eif, ↓r_set, ↓r_ret, ↓r_retV, ↓r_expr, ↓r_asg, ↓r_par, ↓r_app, ↓r_ext, ↓r_sto, ↓r_or1, ↓r_or, ↓r_and1, ↓r_and, ↓r_vor1, ↓r_vor, ↓r_vand1, ↓r_vand, ↓r_not, ↓r_tru, ↓r_isB, ↓r_eC, ↓r_rd, ↓r_vl, ↓r_rV, ↓r_eV, ↓r_uV, ↓r_uVl, ↓r_sq0, ↓r_sq, ↓r_e2, ↓r_e3, ↓r_call, ↓r_user, ↓r_enot, ↓r_eneg, ↓r_tup, ↓r_lst, ↓r_sl, ↓r_noP, ↓r_aP, ↓r_iOf, ↓r_iF, ↓r_def, ↓r_ref, r_seqNx, r_seqRt, r_seqBk, r_seqCt, r_ifT, r_ifF, r_setV, r_setOt, r_setOl, r_setOd, r_setOs, r_retK, r_retVv, r_retVo, r_asgK, r_tgN, r_tgT, r_tgL, r_tgs0, r_tgs, r_parK, r_ownL, r_ownLo, r_ownD, r_ownDo, r_appK, r_appJ, r_extK, r_extJ, r_stoK, r_stoI, r_stoJ, r_stoL, r_orT, r_orF, r_andT, r_andF, r_vorK, r_vorT, r_vorF, r_vandK, r_vandT, r_vandF, r_notK, r_truK, r_truB, r_truI, r_truL, r_truT, r_truN, r_isBK, r_rdV, r_rdO, r_dV, r_dO, r_valV, r_valL, r_valD, r_rVv, r_rVo, r_rVb, r_eVv, r_uVv, r_uVo, r_uVb, r_uVlK, r_sqK, r_consK, r_opK, r_opJ, r_chK, r_chJ, r_chT, r_chF, r_clK, r_ntK, r_ngK, r_tpK, r_lsK, r_slK, r_slJ, r_slI, r_slL, r_slT, r_aPK, r_sqL, r_sqT, r_sqS, r_rtR, r_rtN, r_refO, r_refE, r_wdK, r_bAdd, r_bSub, r_bMul, r_bDiv, r_bMod, r_bPow, r_cLt, r_cLe, r_cGt, r_cGe, r_cEq, r_cNe, r_ixL, r_ixT, r_of, r_lenL, r_lenT, r_lenS, Pd.R.bind_ok, Pd.R.bind_err, Pd.R.bind_stuck, noE_ok', mul_r, div_i, mod_i, add_i, sub_i, lt_i, le_i, gt_i, ge_i, eq_i, ne_i, pow18, List.cons_append, List.nil_append, List.getElem?_cons_zero, List.getElem?_cons_succ, List.replicate_succ, List.replicate_zero, List.set_cons_zero, List.set_cons_succ, List.length_cons, List.length_nil, if_true, if_false, Bool.not_true, Bool.not_false, Bool.false_eq_true, ↓reduceIte, Nat.reduceAdd, Nat.reduceLeDiff, Nat.reduceLT, Nat.zero_add, Option.map_some, Int.cast_ofNat_Int, Int.natCast_one, Int.natCast_zero, Int.reduceBEq, Int.reduceLT, Int.reduceLE, Int.reduceAdd, Int.reduceSub, Int.reduceMul, Int.reduceNeg, Int.reduceDiv, Int.reduceMod, decide_true, decide_false, ix]) ?_
  refine seq_go (fun Γ => ∃ s2, Γ = [.val (ringD m ls), .val (.int (gcdL m ls : Nat)), s2]) (go_of (φ := fun n : Nat => .int (n : Int)) (l := ls) (fun a Γ => ∃ s2, Γ = [.val (ringD m ls), .val (.int (gcdL m a : Nat)), s2]) ?_ ⟨_, rfl⟩ ?_) ?_
  · simp (implicitDefEqProofs := false) (disch := omega) only [↓r_seq, ↓r_next, ↓r_if, ↓r_eif, ↓r_set, ↓r_ret, ↓r_retV, ↓r_expr, ↓r_asg, ↓r_par, ↓r_app, ↓r_ext, ↓r_sto, ↓r_or1, ↓r_or, ↓r_and1, ↓r_and, ↓r_vor1, ↓r_vor, ↓r_vand1, ↓r_vand, ↓r_not, ↓r_tru, ↓r_isB, ↓r_eC, ↓r_rd, ↓r_vl, ↓r_rV, ↓r_eV, ↓r_uV, ↓r_uVl, ↓r_sq0, ↓r_sq, ↓r_e2, ↓r_e3, ↓r_call, ↓r_user, ↓r_enot, ↓r_eneg, ↓r_tup, ↓r_lst, ↓r_sl, ↓r_noP, ↓r_aP, ↓r_iOf, ↓r_iF, ↓r_def, ↓r_ref, r_seqNx, r_seqRt, r_seqBk, r_seqCt, r_ifT, r_ifF, r_setV, r_setOt, r_setOl, r_setOd, r_setOs, r_retK, r_retVv, r_retVo, r_asgK, r_tgN, r_tgT, r_tgL, r_tgs0, r_tgs, r_parK, r_ownL, r_ownLo, r_ownD, r_ownDo, r_appK, r_appJ, r_extK, r_extJ, r_stoK, r_stoI, r_stoJ, r_stoL, r_orT, r_orF, r_andT, r_andF, r_vorK, r_vorT, r_vorF, r_vandK, r_vandT, r_vandF, r_notK, r_truK, r_truB, r_truI, r_truL, r_truT, r_truN, r_isBK, r_rdV, r_rdO, r_dV, r_dO, r_valV, r_valL, r_valD, r_rVv, r_rVo, r_rVb, r_eVv, r_uVv, r_uVo, r_uVb, r_uVlK, r_sqK, r_consK, r_opK, r_opJ, r_chK, r_chJ, r_chT, r_chF, r_clK, r_ntK, r_ngK, r_tpK, r_lsK, r_slK, r_slJ, r_slI, r_slL, r_slT, r_aPK, r_sqL, r_sqT, r_sqS, r_rtR, r_rtN, r_refO, r_refE, r_wdK, r_bAdd, r_bSub, r_bMul, r_bDiv, r_bMod, r_bPow, r_cLt, r_cLe, r_cGt, r_cGe, r_cEq, r_cNe, r_ixL, r_ixT, r_of, r_lenL, r_lenT, r_lenS, Pd.R.bind_ok, Pd.R.bind_err, Pd.R.bind_stuck, noE_ok', mul_r, div_i, mod_i, add_i, sub_i, lt_i, le_i, gt_i, ge_i, eq_i, ne_i, pow18, List.cons_append, List.nil_append, List.getElem?_cons_zero, List.getElem?_cons_succ, List.replicate_succ, List.replicate_zero, List.set_cons_zero, List.set_cons_succ, List.length_cons, List.length_nil, if_true, if_false, Bool.not_true, Bool.not_false, Bool.false_eq_true, ↓reduceIte, Nat.reduceAdd, Nat.reduceLeDiff, Nat.reduceLT, Nat.zero_add, Option.map_some, Int.cast_ofNat_Int, Int.natCast_one, Int.natCast_zero, Int.reduceBEq, Int.reduceLT, Int.reduceLE, Int.reduceAdd, Int.reduceSub, Int.reduceMul, Int.reduceNeg, Int.reduceDiv, Int.reduceMod, decide_true, decide_false, ix1]
    rfl
  · rintro a c l Γ e ⟨s2, rfl⟩
    have hl : l ∈ ls := by rw [e]; exact List.mem_append_right _ (List.mem_cons_self ..)
    have ec := common_v (gcdL m a) l (by have := R.half l hl; omega)
    have hg : Nat.gcd (gcdL m a) l = gcdL m (a ++ [l]) := by unfold gcdL; rw [List.foldl_append]; rfl
    rw [hg] at ec
    exact go_eq (Γ' := [.val (ringD m ls), .val (.int (gcdL m (a ++ [l]) : Nat)), .val (.int l)]) (by simp (implicitDefEqProofs := false) (disch := omega) only [↓r_seq, ↓r_next, ↓r_if, ↓r_eif, ↓r_set, ↓r_ret, ↓r_retV, ↓r_expr, ↓r_asg, ↓r_par, ↓r_app, ↓r_ext, ↓r_sto, ↓r_or1, ↓r_or, ↓r_and1, ↓r_and, ↓r_vor1, ↓r_vor, ↓r_vand1, ↓r_vand, ↓r_not, ↓r_tru, ↓r_isB, ↓r_eC, ↓r_rd, ↓r_vl, ↓r_rV, ↓r_eV, ↓r_uV, ↓r_uVl, ↓r_sq0, ↓r_sq, ↓r_e2, ↓r_e3, ↓r_call, ↓r_user, ↓r_enot, ↓r_eneg, ↓r_tup, ↓r_lst, ↓r_sl, ↓r_noP, ↓r_aP, ↓r_iOf, ↓r_iF, ↓r_def, ↓r_ref, r_seqNx, r_seqRt, r_seqBk, r_seqCt, r_ifT, r_ifF, r_setV, r_setOt, r_setOl, r_setOd, r_setOs, r_retK, r_retVv, r_retVo, r_asgK, r_tgN, r_tgT, r_tgL, r_tgs0, r_tgs, r_parK, r_ownL, r_ownLo, r_ownD, r_ownDo, r_appK, r_appJ, r_extK, r_extJ, r_stoK, r_stoI, r_stoJ, r_stoL, r_orT, r_orF, r_andT, r_andF, r_vorK, r_vorT, r_vorF, r_vandK, r_vandT, r_vandF, r_notK, r_truK, r_truB, r_truI, r_truL, r_truT, r_truN, r_isBK, r_rdV, r_rdO, r_dV, r_dO, r_valV, r_valL, r_valD, r_rVv, r_rVo, r_rVb, r_eVv, r_uVv, r_uVo, r_uVb, r_uVlK, r_sqK, r_consK, r_opK, r_opJ, r_chK, r_chJ, r_chT, r_chF, r_clK, r_ntK, r_ngK, r_tpK, r_lsK, r_slK, r_slJ, r_slI, r_slL, r_slT, r_aPK, r_sqL, r_sqT, r_sqS, r_rtR, r_rtN, r_refO, r_refE, r_wdK, r_bAdd, r_bSub, r_bMul, r_bDiv, r_bMod, r_bPow, r_cLt, r_cLe, r_cGt, r_cGe, r_cEq, r_cNe, r_ixL, r_ixT, r_of, r_lenL, r_lenT, r_lenS, Pd.R.bind_ok, Pd.R.bind_err, Pd.R.bind_stuck, noE_ok', mul_r, div_i, mod_i, add_i, sub_i, lt_i, le_i, gt_i, ge_i, eq_i, ne_i, pow18, List.cons_append, List.nil_append, List.getElem?_cons_zero, List.getElem?_cons_succ, List.replicate_succ, List.replicate_zero, List.set_cons_zero, List.set_cons_succ, List.length_cons, List.length_nil, if_true, if_false, Bool.not_true, Bool.not_false, Bool.false_eq_true, ↓reduceIte, Nat.reduceAdd, Nat.reduceLeDiff, Nat.reduceLT, Nat.zero_add, Option.map_some, Int.cast_ofNat_Int, Int.natCast_one, Int.natCast_zero, Int.reduceBEq, Int.reduceLT, Int.reduceLE, Int.reduceAdd, Int.reduceSub, Int.reduceMul, Int.reduceNeg, Int.reduceDiv, Int.reduceMod, decide_true, decide_false, ec]) ⟨_, rfl⟩
  rintro Γ ⟨s2, rfl⟩
  simp (implicitDefEqProofs := false) (disch := omega) only [↓r_seq, ↓r_next, ↓r_if, ↓r_eif, ↓r_set, ↓r_ret, ↓r_retV, ↓r_expr, ↓r_asg, ↓r_par, ↓r_app, ↓r_ext, ↓r_sto, ↓r_or1, ↓r_or, ↓r_and1, ↓r_and, ↓r_vor1, ↓r_vor, ↓r_vand1, ↓r_vand, ↓r_not, ↓r_tru, ↓r_isB, ↓r_eC, ↓r_rd, ↓r_vl, ↓r_rV, ↓r_eV, ↓r_uV, ↓r_uVl, ↓r_sq0, ↓r_sq, ↓r_e2, ↓r_e3, ↓r_call, ↓r_user, ↓r_enot, ↓r_eneg, ↓r_tup, ↓r_lst, ↓r_sl, ↓r_noP, ↓r_aP, ↓r_iOf, ↓r_iF, ↓r_def, ↓r_ref, r_seqNx, r_seqRt, r_seqBk, r_seqCt, r_ifT, r_ifF, r_setV, r_setOt, r_setOl, r_setOd, r_setOs, r_retK, r_retVv, r_retVo, r_asgK, r_tgN, r_tgT, r_tgL, r_tgs0, r_tgs, r_parK, r_ownL, r_ownLo, r_ownD, r_ownDo, r_appK, r_appJ, r_extK, r_extJ, r_stoK, r_stoI, r_stoJ, r_stoL, r_orT, r_orF, r_andT, r_andF, r_vorK, r_vorT, r_vorF, r_vandK, r_vandT, r_vandF, r_notK, r_truK, r_truB, r_truI, r_truL, r_truT, r_truN, r_isBK, r_rdV, r_rdO, r_dV, r_dO, r_valV, r_valL, r_valD, r_rVv, r_rVo, r_rVb, r_eVv, r_uVv, r_uVo, r_uVb, r_uVlK, r_sqK, r_consK, r_opK, r_opJ, r_chK, r_chJ, r_chT, r_chF, r_clK, r_ntK, r_ngK, r_tpK, r_lsK, r_slK, r_slJ, r_slI, r_slL, r_slT, r_aPK, r_sqL, r_sqT, r_sqS, r_rtR, r_rtN, r_refO, r_refE, r_wdK, r_bAdd, r_bSub, r_bMul, r_bDiv, r_bMod, r_bPow, r_cLt, r_cLe, r_cGt, r_cGe, r_cEq, r_cNe, r_ixL, r_ixT, r_of, r_lenL, r_lenT, r_lenS, Pd.R.bind_ok, Pd.R.bind_err, Pd.R.bind_stuck, noE_ok', mul_r, div_i, mod_i, add_i, sub_i, lt_i, le_i, gt_i, ge_i, eq_i, ne_i, pow18, List.cons_append, List.nil_append, List.getElem?_cons_zero, List.getElem?_cons_succ, List.replicate_succ, List.replicate_zero, List.set_cons_zero, List.set_cons_succ, List.length_cons, List.length_nil, if_true, if_false, Bool.not_true, Bool.not_false, Bool.false_eq_true, ↓reduceIte, Nat.reduceAdd, Nat.reduceLeDiff, Nat.reduceLT, Nat.zero_add, Option.map_some, Int.cast_ofNat_Int, Int.natCast_one, Int.natCast_zero, Int.reduceBEq, Int.reduceLT, Int.reduceLE, Int.reduceAdd, Int.reduceSub, Int.reduceMul, Int.reduceNeg, Int.reduceDiv, Int.reduceMod, decide_true, decide_false]
end
end Pd

set_option Elab.async false
set_option linter.all false
set_option maxRecDepth 100000
set_option maxHeartbeats 1000000
namespace Pd
open PySem PySem.Spec L2 Pr

section
variable {m : Nat} {ls : List Nat}
def sumN (f : Nat → Nat) (l : List Nat) : Nat := (l.map f).sum
def adj (m : Nat) (ls : List Nat) (p q : Nat) : Bool := ls.any fun l => decide ((p + l) % m = q) || decide ((p + (m - l)) % m = q)
end
end Pd

set_option Elab.async false
set_option linter.all false
set_option maxRecDepth 100000
set_option maxHeartbeats 1000000
namespace Pd
open PySem PySem.Spec L2 Pr

section
variable {m : Nat} {ls : List Nat}
end
end Pd

set_option Elab.async false
set_option linter.all false
set_option maxRecDepth 100000
set_option maxHeartbeats 1000000
namespace Pd
open PySem PySem.Spec L2 Pr

def goodN (m : Nat) : List Nat := (oneTo m).filter fun b => decide (Nat.gcd m b = 1)
end Pd

set_option Elab.async false
set_option linter.all false
set_option maxRecDepth 100000
set_option maxHeartbeats 1000000
namespace Pd
open PySem PySem.Spec L2 Pr

section
variable {m : Nat} {ls : List Nat}
theorem wk_trans : ∀ (k : Nat) {n p q r : Nat}, Wk m ls n p q → Wk m ls k q r → Wk m ls (n + k) p r
  | 0, n, p, q, r, h1, h2 => by
    have : q = r := h2
    rw [← this]
    exact h1
  | k + 1, n, p, q, r, h1, ⟨x, h2, h3⟩ => ⟨x, wk_trans k h1 h2, h3⟩
theorem wk_one {p q : Nat} (h : q ∈ nearN m ls p) : Wk m ls 1 p q := ⟨p, rfl, h⟩
theorem wk_sym (hl : ∀ l ∈ ls, l ≤ m) : ∀ (n : Nat) {p q : Nat}, p < m → Wk m ls n p q → Wk m ls n q p
  | 0, p, q, _, h => by
    have : p = q := h
    exact this.symm
  | n + 1, p, q, hp, ⟨r, h, hq⟩ => by
    have hr := wk_lt hp h
    have h1 := wk_sym hl n hp h
    have h2 := wk_one (near_sym hl hr hq)
    have := wk_trans n h2 h1
    rw [Nat.add_comm] at this
    exact this
def Rch (m : Nat) (ls : List Nat) (x : Nat) : Prop := ∃ n, Wk m ls n 0 (x % m)
theorem rch_add (hm : 0 < m) {x y : Nat} (hx : Rch m ls x) (hy : Rch m ls y) : Rch m ls (x + y) := by
  obtain ⟨n, h1⟩ := hx
  obtain ⟨k, h2⟩ := hy
  have h3 := wk_tr hm (x % m) h2
  rw [Nat.zero_add, Nat.mod_mod, ← Nat.add_mod, Nat.add_comm y x] at h3
  exact ⟨n + k, wk_trans k h1 h3⟩
theorem rch_mul (hm : 0 < m) {x : Nat} (hx : Rch m ls x) : ∀ k, Rch m ls (x * k)
  | 0 => ⟨0, by rw [Nat.mul_zero, Nat.zero_mod]; rfl⟩
  | k + 1 => by
    rw [Nat.mul_succ]
    exact rch_add hm (rch_mul hm hx k) hx
theorem rch_of {x y : Nat} (h : x % m = y % m) (hx : Rch m ls x) : Rch m ls y := by
  obtain ⟨n, h1⟩ := hx
  exact ⟨n, h ▸ h1⟩
theorem rch_mod (hm : 0 < m) {a b : Nat} (ha : Rch m ls a) (hb : Rch m ls b) : Rch m ls (b % a) := by
  have h := rch_add hm hb (rch_mul hm (rch_mul hm ha (b / a)) (m - 1))
  refine rch_of ?_ h
  have e : b + a * (b / a) * (m - 1) = b % a + a * (b / a) * m := by
    have h1 := Nat.div_add_mod b a
    obtain ⟨k, hk⟩ : ∃ k, m = k + 1 := ⟨m - 1, by omega⟩
    rw [hk, Nat.add_sub_cancel, Nat.mul_succ]
    omega
  rw [e, Nat.mul_comm, Nat.add_mul_mod_self_left]
theorem rch_gcd (hm : 0 < m) (a b : Nat) : Rch m ls a → Rch m ls b → Rch m ls (Nat.gcd a b) := by
  induction a, b using Nat.gcd.induction with
  | H0 b => intro _ h; rw [Nat.gcd_zero_left]; exact h
  | H1 a b ha ih =>
    intro h1 h2
    rw [Nat.gcd_rec]
    exact ih (rch_mod hm h1 h2) h1
theorem rch_gcdL (hm : 0 < m) : ∀ (l : List Nat) (a : Nat), Rch m ls a → (∀ x ∈ l, Rch m ls x) → Rch m ls (gcdL a l)
  | [], a, h, _ => h
  | x :: l, a, h, hl => rch_gcdL hm l (Nat.gcd a x) (rch_gcd hm a x h (hl x (List.mem_cons_self ..))) fun y hy => hl y (List.mem_cons_of_mem _ hy)
theorem whole_conn (R : Ring m ls) (h : gcdL m ls = 1) {q : Nat} (hq : q < m) : ∃ n, Wk m ls n 0 q := by
  have hm : 0 < m := by omega
  have h1 : Rch m ls (gcdL m ls) := rch_gcdL hm ls m ⟨0, by rw [Nat.mod_self]; rfl⟩ fun l hl => ⟨1, 0, rfl, mem_near.mpr ⟨Nat.mod_lt _ hm, l, hl, .inl (by rw [Nat.zero_add])⟩⟩
  rw [h] at h1
  have h2 := rch_mul hm h1 q
  rw [Nat.one_mul] at h2
  obtain ⟨n, h3⟩ := h2
  rw [Nat.mod_eq_of_lt hq] at h3
  exact ⟨n, h3⟩
theorem dvd_wk (R : Ring m ls) : ∀ (n : Nat) {q : Nat}, Wk m ls n 0 q → gcdL m ls ∣ q
  | 0, q, h => by
    have : 0 = q := h
    rw [← this]
    exact Nat.dvd_zero _
  | n + 1, q, ⟨r, h, hq⟩ => by
    obtain ⟨gm, gl⟩ := (dvd_gcdL ls m).mp (Nat.dvd_refl (gcdL m ls))
    have hr := dvd_wk R n h
    obtain ⟨_, l, hl, e⟩ := mem_near.mp hq
    rcases e with rfl | rfl
    · exact (Nat.dvd_mod_iff gm).mpr (Nat.dvd_add hr (gl l hl))
    · exact (Nat.dvd_mod_iff gm).mpr (Nat.dvd_add hr (Nat.dvd_sub gm (gl l hl)))
theorem whole_dist (R : Ring m ls) (h : gcdL m ls = 1) {p : Nat} (hp : p < m) {F : List (Option Nat)} (hF : Dist m ls p F) : ∃ G : List Nat, F = G.map some ∧ G.length = m ∧ ∀ q (hq : q < G.length), IsD m ls p q G[q] := by
  have all : ∀ q (hq : q < F.length), ∃ t, F[q] = some t ∧ IsD m ls p q t := fun q hq => by
    have hq' : q < m := by rw [← hF.len]; exact hq
    obtain ⟨n, hn⟩ := whole_conn R h hq'
    obtain ⟨k, hk⟩ := whole_conn R h hp
    have h1 := wk_trans n (wk_sym R.le k (by omega) hk) hn
    obtain ⟨t, _, ht⟩ := wk_min _ h1
    have := (hF.at_ q t).mpr ht
    rw [List.getElem?_eq_getElem hq] at this
    exact ⟨t, Option.some.inj this, ht⟩
  refine ⟨F.map fun o => o.getD 0, ?_, by rw [List.length_map, hF.len], fun q hq => ?_⟩
  · rw [List.map_map]
    refine (List.ext_getElem ?_ fun q h1 h2 => ?_)
    · rw [List.length_map]
    · rw [List.getElem_map]
      obtain ⟨t, e, _⟩ := all q h1
      rw [e]
      rfl
  · rw [List.length_map] at hq
    obtain ⟨t, e, ht⟩ := all q hq
    rw [List.getElem_map, e]
    exact ht
end
end Pd

set_option Elab.async false
set_option linter.all false
set_option maxRecDepth 100000
set_option maxHeartbeats 1000000
namespace Pd
open PySem PySem.Spec L2 Pr

theorem lc_tg {α : Type} {fi : Gm → R (List D)} {t : Tg} {tt : Gm → R Bool} {te : Gm → R D} {vs : List Nat} {Γ : Gm} {l : List α} {φ : α → D} (p : α → Bool) (g : α → D) (e : fi Γ = .ok (l.map φ))
    (h : ∀ a ∈ l, ∃ Γ1, t.fn (φ a) (wipeG Γ vs) = .ok Γ1 ∧ tt Γ1 = .ok (p a) ∧ (p a = true → te Γ1 = .ok (g a))) : eLc fi t tt te vs Γ = .ok (.o (.lst ((l.filter p).map g))) := by
  have : ∀ (r : List α), (∀ a ∈ r, ∃ Γ1, t.fn (φ a) (wipeG Γ vs) = .ok Γ1 ∧ tt Γ1 = .ok (p a) ∧ (p a = true → te Γ1 = .ok (g a))) → lcGo t tt te (wipeG Γ vs) (r.map φ) = .ok ((r.filter p).map g) := by
    intro r
    induction r with
    | nil => intro _; rfl
    | cons a r ih =>
      intro h
      obtain ⟨Γ1, e1, e2, e3⟩ := h a (List.mem_cons_self ..)
      have ih' := ih fun b hb => h b (List.mem_cons_of_mem _ hb)
      rw [List.map_cons, lcGo, e1, noE_ok', R.bind_ok, e2, noE_ok', R.bind_ok]
      by_cases hp : p a = true
      · rw [if_pos hp, e3 hp, noE_ok', R.bind_ok, ih', R.bind_ok, List.filter_cons_of_pos hp]
        rfl
      · rw [if_neg hp, ih', List.filter_cons_of_neg hp]
  unfold eLc
  rw [e, R.bind_ok, this l h, noE_ok', R.bind_ok]
theorem fD_some (G : List Nat) : fD (G.map some) = nD G := by
  unfold fD nD
  rw [List.map_map]
  rfl
theorem max_nD {G : List Nat} (h : 0 < G.length) : ∃ W : Nat, fMax [.lst (nD G)] = some (.v (.int W)) ∧ W ∈ G ∧ ∀ g ∈ G, g ≤ W := by
  have hne : G.map (fun n : Nat => (n : Int)) ≠ [] := fun e => by
    have := congrArg List.length e
    rw [List.length_map] at this
    exact absurd this (by rw [List.length_nil]; omega)
  obtain ⟨h1, h2⟩ := maxL_mem hne
  obtain ⟨W, hW, e⟩ := List.mem_map.mp h1
  refine ⟨W, ?_, hW, fun g hg => ?_⟩
  · rw [nD_iD]
    unfold fMax
    dsimp only
    rw [intsOf_iD, Option.bind_some, if_neg hne, e]
  · have := h2 g (List.mem_map_of_mem (f := fun n : Nat => (n : Int)) hg)
    omega
theorem nodup_len : ∀ (l G : List Nat), l.Nodup → (∀ a ∈ l, a ∈ G) → l.length ≤ G.length
  | [], _, _, _ => Nat.zero_le _
  | a :: l, G, hn, h => by
    rw [List.nodup_cons] at hn
    have ha := h a (List.mem_cons_self ..)
    have ih := nodup_len l (G.erase a) hn.2 fun b hb => (List.mem_erase_of_ne (fun e : b = a => hn.1 (by rw [← e]; exact hb))).mpr (h b (List.mem_cons_of_mem _ hb))
    rw [List.length_erase_of_mem ha] at ih
    have := List.length_pos_of_mem ha
    rw [List.length_cons]
    omega
section
variable {m : Nat} {ls : List Nat}
theorem whole_steps (R : Ring m ls) (h : gcdL m ls = 1) : ∃ G : List Nat, Dist m ls 0 (G.map some) ∧ G.length = m ∧ (∀ q (hq : q < G.length), IsD m ls 0 q G[q]) ∧ d_steps_of [.val (ringD m ls)] = .ok (.o (.lst (nD G))) := by
  obtain ⟨F, hF, e⟩ := steps_v R
  obtain ⟨G, rfl, h1, h2⟩ := whole_dist R h (by have := R.m3; omega) hF
  rw [fD_some] at e
  exact ⟨G, hF, h1, h2, e⟩
end
end Pd

set_option Elab.async false
set_option linter.all false
set_option maxRecDepth 100000
set_option maxHeartbeats 1000000
namespace Pd
open PySem PySem.Spec L2 Pr

section
variable {m : Nat} {ls : List Nat}
theorem rch_dvd (R : Ring m ls) {x : Nat} (h : gcdL m ls ∣ x) : Rch m ls x := by
  have hm : 0 < m := by have := R.m3; omega
  have h1 : Rch m ls (gcdL m ls) := rch_gcdL hm ls m ⟨0, by rw [Nat.mod_self]; rfl⟩ fun l hl => ⟨1, 0, rfl, mem_near.mpr ⟨Nat.mod_lt _ hm, l, hl, .inl (by rw [Nat.zero_add])⟩⟩
  obtain ⟨k, rfl⟩ := h
  exact rch_mul hm h1 k
theorem reach_iff (R : Ring m ls) {p q : Nat} (hp : p < m) (hq : q < m) : (∃ n, Wk m ls n p q) ↔ q % gcdL m ls = p % gcdL m ls := by
  have hm : 0 < m := by omega
  obtain ⟨g0, _⟩ := gcdL_le ls m hm
  have gm : gcdL m ls ∣ m := ((dvd_gcdL ls m).mp (Nat.dvd_refl _)).1
  have key : gcdL m ls ∣ (q + (m - p)) % m ↔ q % gcdL m ls = p % gcdL m ls := by
    rw [Nat.dvd_mod_iff gm]
    generalize gcdL m ls = g at g0 gm
    obtain ⟨k, rfl⟩ := gm
    constructor
    · intro h
      have h1 : (q + (g * k - p) + p) % g = p % g := by
        obtain ⟨t, ht⟩ := h
        rw [ht, Nat.mul_add_mod]
      rw [show q + (g * k - p) + p = q + g * k by omega, Nat.add_mul_mod_self_left] at h1
      exact h1
    · intro h
      have h1 := Nat.div_add_mod q g
      have h2 := Nat.div_add_mod p g
      refine Nat.dvd_of_mod_eq_zero ?_
      have hle : g * (p / g) ≤ g * k := by
        have : g * (p / g) ≤ p := Nat.mul_div_le p g
        omega
      have e : q + (g * k - p) = g * (q / g) + (g * k - g * (p / g)) := by omega
      rw [e, ← Nat.mul_sub, ← Nat.mul_add, Nat.mul_mod_right]
  rw [← key]
  constructor
  · rintro ⟨n, h⟩
    have h2 := wk_tr hm (m - p) h
    rw [show p + (m - p) = m by omega, Nat.mod_self] at h2
    exact dvd_wk R n h2
  · intro h
    obtain ⟨n, h2⟩ := rch_dvd R h
    rw [Nat.mod_mod] at h2
    have h3 := wk_tr hm p h2
    have e : ((q + (m - p)) % m + p) % m = q := by
      rw [Nat.mod_add_mod, show q + (m - p) + p = q + m by omega, Nat.add_mod_right, Nat.mod_eq_of_lt hq]
    rw [Nat.zero_add, Nat.mod_eq_of_lt hp, e] at h3
    exact ⟨n, h3⟩
theorem dist_some (R : Ring m ls) {p q : Nat} (hp : p < m) (hq : q < m) {F : List (Option Nat)} (hF : Dist m ls p F) : (F.getD q none).isSome = decide (q % gcdL m ls = p % gcdL m ls) := by
  have l1 : q < F.length := by rw [hF.len]; exact hq
  rw [Bool.eq_iff_iff, decide_eq_true_eq, ← reach_iff R hp hq, getD_get _ l1]
  constructor
  · intro h
    cases e : F[q] with
    | none => rw [e] at h; cases h
    | some t => exact ⟨t, ((hF.at_ q t).mp (by rw [List.getElem?_eq_getElem l1, e])).1⟩
  · rintro ⟨n, h⟩
    obtain ⟨t, _, hd⟩ := wk_min n h
    have := (hF.at_ q t).mpr hd
    rw [List.getElem?_eq_getElem l1] at this
    rw [Option.some.inj this]
    rfl
end
def restN (m g i : Nat) : List Nat := (List.range m).filter fun q => decide (q % g = i)
theorem call_v {S : List (Addr × (List Sl → R O))} {f : Addr} {φ : List Sl → R O} {fa : Gm → R (List Sl)} {Γ : Gm} (h : findV S f = some φ) : callV S fa Γ (some (.val (.ref f))) = (fa Γ).bind φ := by
  rw [callV, h]
end Pd

set_option Elab.async false
set_option linter.all false
set_option maxRecDepth 100000
set_option maxHeartbeats 1000000
namespace Pd
open PySem PySem.Spec L2 Pr

theorem r_cNi {a b : D} : dCmp .NotIn a b = dInO true a b := rfl
section
variable {m : Nat} {ls : List Nat}
def nxB (F : List (Option Nat)) (x q : Nat) : Bool := match F.getD x none, F.getD q none with
  | some t, some s => decide (s + 1 = t)
  | _, _ => false
def nxl (m : Nat) (ls : List Nat) (F : List (Option Nat)) (x : Nat) : List Nat := (nearN m ls x).filter (nxB F x)
def rtL (m : Nat) (ls : List Nat) (F : List (Option Nat)) : Nat → Nat → List Nat
  | 0, x => [x]
  | t + 1, x => x :: rtL m ls F t ((nxl m ls F x).headD 0)
end
end Pd

set_option Elab.async false
set_option linter.all false
set_option maxRecDepth 100000
set_option maxHeartbeats 1000000
namespace Pd
open PySem PySem.Spec L2
section
variable {X : Cx} {E : Ex T} {G : Gl5} {k : Nat} {N : List Str} {sc : Scope} {fnb : Str → Bool} {elt tg iter : PySem.Expr} {scope : Scope} {ifs : List PySem.Expr} {pos : Pos}
end
end Pd

set_option Elab.async false
set_option linter.all false
set_option maxRecDepth 100000
set_option maxHeartbeats 1000000
namespace Pd
open PySem PySem.Spec L2 Pr
section
variable {m : Nat} {ls : List Nat}
end
end Pd

set_option Elab.async false
set_option linter.all false
set_option maxRecDepth 100000
set_option maxHeartbeats 1000000
namespace Pd
open PySem PySem.Spec L2 Pr

def cntOk (m l : Nat) (d : D) : Bool := isNum d (if 2 * l = m then 0 else 0 - (m : Int)) (if 2 * l = m then 1 else (m : Int))
def isCounts (m : Nat) (ls : List Nat) : D → Bool
  | .tup ds => decide (ds.length = ls.length) && (ls.zip ds).all fun p => cntOk m p.1 p.2
  | _ => false
section
variable {m : Nat} {ls : List Nat}
def dot (ls : List Nat) (cs : List Int) : Int := ((ls.zip cs).map fun p => (p.1 : Int) * p.2).sum
end
end Pd

set_option Elab.async false
set_option linter.all false
set_option maxRecDepth 100000
set_option maxHeartbeats 1000000
namespace Pd
open PySem PySem.Spec L2
section
variable {X : Cx} {E : Ex T} {a b c d : PySem.Expr} {pos : Pos}
def tCh4 (r1 r2 r3 : R2) (ta tb tc td : TE) : TE := fun σ H Q => ta σ H fun x H1 => tb σ H1 fun y H2 => r1 x y H2 fun z H3 => ∃ k, z = .bl k ∧ (if k = true then tc σ H3 fun u H4 => r2 y u H4 fun z H5 => ∃ k, z = .bl k ∧ (if k = true then td σ H5 fun v H6 => r3 u v H6 Q else Q (.bl false) H5) else Q (.bl false) H3)
end
def c4M (o3 : D → D → Option O) (fd : Gm → R D) (Γ : Gm) (cc : D) : Option O → R O
  | some (.v (.bl true)) => (fd Γ).bind fun d => R.of (o3 cc d)
  | some (.v (.bl false)) => .ok (.v (.bl false))
  | _ => .stuck
def c4K (o2 o3 : D → D → Option O) (fc fd : Gm → R D) (Γ : Gm) (b : D) : Option O → R O
  | some (.v (.bl true)) => (fc Γ).bind fun c => c4M o3 fd Γ c (o2 b c)
  | some (.v (.bl false)) => .ok (.v (.bl false))
  | _ => .stuck
end Pd

set_option Elab.async false
set_option linter.all false
set_option maxRecDepth 100000
set_option maxHeartbeats 1000000
namespace Pd
open PySem PySem.Spec L2
section
variable {X : Cx} {E : Ex T} {a b : PySem.Expr} {pos : Pos}
def dict1 : D → D → R O
  | .int i, v => .ok (.o (.dct [(.int i, v)]))
  | _, _ => .stuck
def eDict1 (fk fv : Gm → R D) : Gm → R O := fun Γ => (fk Γ).bind fun k => (fv Γ).bind fun v => dict1 k v
end
def d1J (k v : D) : R O := dict1 k v
def d1K (fv : Gm → R D) (Γ : Gm) (k : D) : R O := (fv Γ).bind (d1J k)
end Pd

set_option Elab.async false
set_option linter.all false
set_option maxRecDepth 100000
set_option maxHeartbeats 1000000
namespace Pd
open PySem PySem.Spec L2 Pr

def intKeys (kvs : List (D × D)) : Prop := ∀ p ∈ kvs, ∃ i : Int, p.1 = .int i
section
variable {m : Nat} {ls : List Nat}
def pcN (m : Nat) (ls : List Nat) (F : List (Option Nat)) : Nat → Nat → Nat
  | 0, _ => 1
  | t + 1, x => ((nxl m ls F x).map (pcN m ls F t)).sum
def cntN (m : Nat) (ls : List Nat) (F : List (Option Nat)) (x : Nat) : Nat := match F.getD x none with
  | none => 0
  | some t => pcN m ls F t x
def mirN (m o x : Nat) : Nat := (o + (m - x)) % m
end
end Pd

set_option Elab.async false
set_option linter.all false
set_option maxRecDepth 100000
set_option maxHeartbeats 1000000
namespace Pd
open PySem PySem.Spec L2 Pr
section
variable {m : Nat} {ls : List Nat}
end
end Pd

set_option Elab.async false
set_option linter.all false
set_option maxRecDepth 100000
set_option maxHeartbeats 1000000
namespace Pr
open PySem PySem.Spec L2 Pd
def f__law_paths : Gm → R Out := sSeq (sSet false 3 (eUser d__law_steps (seqR [uVar 0, uVar 2])))
  (sSeq (sIf (isB (e2 (dCmp .Is) (rd (e2 dIx (rVar 3) (rVar 1))) (rd (eC .non)))) (sSeq (sRet (eLst (seqR [])))
  (sNext)) (sNext))
  (sSeq (sSet false 4 (eLst (seqR [vl (eTup (seqR [vl (eVar 1)]))])))
  (sSeq (sFor (iOf rngF1 (seqR [rd (e2 dIx (rVar 3) (rVar 1))])) (.nm 5) (sSeq (sSet true 6 (eLst (seqR [])))
  (sSeq (sFor (iF (vl (eVar 4))) (.nm 7) (sSeq (sSet false 8 (eLc (iF (rd (eUser d__law_near (seqR [uVar 0, uVal (vl (e2 dIx (rVar 7) (rd (eNeg (rd (eC (.int 1)))))))])))) (.nm 9) (isB (e2 (dCmp .Eq) (rd (e2 dIx (rVar 3) (rVar 9))) (rd (e2 (dBin .Sub) (rd (e2 dIx (rVar 3) (rd (e2 dIx (rVar 7) (rd (eNeg (rd (eC (.int 1))))))))) (rd (eC (.int 1))))))) (vl (eVar 9)) ([9])))
  (sSeq (sExt 6 (rd (eLc (iF (rVar 8)) (.nm 9) ((fun _ => .ok true)) (vl (e2 (dBin .Add) (rVar 7) (rd (eTup (seqR [vl (eVar 9)]))))) ([9]))))
  (sNext))))
  (sSeq ((fun Γ => (sSet false 4 (eVar 6)) (frz [6] Γ)))
  (sNext)))))
  (sSeq (sRetV 4)
  (sNext)))))
def d__law_paths : List Sl → R O := defF 7 f__law_paths
def f__law_count : Gm → R Out := sSeq (sSet false 3 (eUser d__law_steps (seqR [uVar 0, uVar 2])))
  (sSeq (sIf (isB (e2 (dCmp .Is) (rd (e2 dIx (rVar 3) (rVar 1))) (rd (eC .non)))) (sSeq (sRet (eC (.int 0)))
  (sNext)) (sNext))
  (sSeq (sSet true 4 (eDict1 (rVar 2) (vl (eC (.int 1)))))
  (sSeq (sFor (iOf rngF2 (seqR [rd (eC (.int 1)), rd (e2 (dBin .Add) (rd (e2 dIx (rVar 3) (rVar 1))) (rd (eC (.int 1))))])) (.nm 5) (sSeq (sFor (iOf rngF1 (seqR [rd (e2 dIx (rVar 0) (rd (eC (.int 0))))])) (.nm 6) (sSeq (sIf (isB (e2 (dCmp .Eq) (rd (e2 dIx (rVar 3) (rVar 6))) (rVar 5))) (sSeq (sSto 4 (vl (eCall fSum (seqR [rd (eLc (iF (rd (eUser d__law_near (seqR [uVar 0, uVar 6])))) (.nm 7) (isB (e2 (dCmp .Eq) (rd (e2 dIx (rVar 3) (rVar 7))) (rd (e2 (dBin .Sub) (rVar 5) (rd (eC (.int 1))))))) (vl (e2 dIx (rVar 4) (rVar 7))) ([7]))]))) (rVar 6))
  (sNext)) (sNext))
  (sNext)))
  (sNext)))
  (sSeq (sRet (e2 dIx (rVar 4) (rVar 1)))
  (sNext)))))
def d__law_count : List Sl → R O := defF 5 f__law_count
end Pr
namespace Pd
open PySem PySem.Spec L2 Pr
section
variable {m : Nat} {ls : List Nat} (R : Ring m ls)
include R
end
def stepW (m : Nat) (ls : List Nat) (F : List (Option Nat)) (W : List (List Nat × Nat)) : List (List Nat × Nat) := W.flatMap fun w => (nxl m ls F w.2).map fun q => (w.1 ++ [w.2], q)
def iterW (m : Nat) (ls : List Nat) (F : List (Option Nat)) : Nat → List (List Nat × Nat) → List (List Nat × Nat)
  | 0, W => W
  | n + 1, W => stepW m ls F (iterW m ls F n W)
def wyD (w : List Nat × Nat) : D := .tup (nD (w.1 ++ [w.2]))
def wysN (m : Nat) (ls : List Nat) (F : List (Option Nat)) : Nat → Nat → List (List Nat)
  | 0, x => [[x]]
  | t + 1, x => (nxl m ls F x).flatMap fun q => (wysN m ls F t q).map (x :: ·)
section
variable {m : Nat} {ls : List Nat} {F : List (Option Nat)}
def wpN (m : Nat) (ls : List Nat) (F : List (Option Nat)) (t : Nat) (W : List (List Nat × Nat)) : Nat := (W.map fun w => pcN m ls F t w.2).sum
variable (R : Ring m ls)
include R
end
end Pd

set_option Elab.async false
set_option linter.all false
set_option maxRecDepth 100000
set_option maxHeartbeats 1000000
namespace Pd
open PySem PySem.Spec L2 Pr
def natD : D → Nat
  | .int i => i.toNat
  | _ => 0
def wayB (m : Nat) (ls : List Nat) (ys : List Nat) : Bool := (List.range (ys.length - 1)).all fun k => decide (ys.getD (k + 1) 0 ∈ nearN m ls (ys.getD k 0))
def isWay (m : Nat) (ls : List Nat) : D → Bool
  | .tup ds => !ds.isEmpty && (ds.all (fun d => isNum d 0 ((m : Int) - 1)) && wayB m ls (ds.map natD))
  | _ => false
section
variable {m : Nat} {ls : List Nat}
end
end Pd

set_option Elab.async false
set_option linter.all false
set_option maxRecDepth 100000
set_option maxHeartbeats 1000000
namespace Pd
open PySem PySem.Spec L2 Pr
def gdT (d : D) : Prop := okD d = true ∧ ∀ ds, d = .tup ds → shp (.tup ds) = true ∧ ds.length ≤ 1000000
def flD (d : D) : Prop := okD d = true ∧ layD d = true ∧ depD d ≤ 2
section
variable {m : Nat} {ls : List Nat}
def oddWay (m : Nat) (ys : List Nat) (s : Nat) : List D := [D.int (((ys.getD s 0 : Nat) + 1 : Int) % (m : Int)), .int m, .int (-1), .bl true, .non, .str (toString ((ys.getD s 0 : Nat) : Int)), .tup [.int 0], .int 10000000000000000000000000000]
def bentWays (ys : List Nat) (s : Nat) (x : D) : List D := [.tup (cutG (nD ys) none (some (s : Int)) ++ [x] ++ cutG (nD ys) (some ((s : Int) + 1)) none), .tup (cutG (nD ys) none (some (s : Int)) ++ cutG (nD ys) (some ((s : Int) + 1)) none), .tup (cutG (nD ys) none (some ((s : Int) + 1)) ++ cutG (nD ys) (some (s : Int)) none), .tup (nD ys).reverse] ++ [.lst (nD ys), .tup [.tup (nD ys)], .non, .str "0 1", .dct [], .tup (nD ys ++ [.int (ys.getD 0 0 : Nat)]), .tup (nD ys ++ cutG (nD ys).reverse (some 1) none)]
end
end Pd

set_option Elab.async false
set_option linter.all false
set_option maxRecDepth 100000
set_option maxHeartbeats 1000000
namespace Pd
open PySem PySem.Spec L2 Pr
def gsN (m : Nat) (ys : List Nat) : List Nat := (List.range (ys.length - 1)).map fun k => (ys.getD (k + 1) 0 + (m - ys.getD k 0)) % m
def cOf1 (m : Nat) (ys : List Nat) (l : Nat) : Int := if 2 * l = m then ((gsN m ys).count l : Int) % 2 else ((gsN m ys).count l : Int) - ((gsN m ys).count (m - l) : Int)
def cOf (m : Nat) (ls ys : List Nat) : List Int := ls.map (cOf1 m ys)
section
variable {m : Nat} {ls : List Nat}
def dueF (m : Nat) (ps : List (Nat × Nat)) (l : Nat) : Int := (ps.map fun p => if (p.1 + l) % m = p.2 then (1 : Int) else if (p.2 + l) % m = p.1 then -1 else 0).sum
end
end Pd

set_option Elab.async false
set_option linter.all false
set_option maxRecDepth 100000
set_option maxHeartbeats 1000000
namespace Pd
open PySem PySem.Spec L2 Pr
section
variable {m : Nat} {ls : List Nat}
end
end Pd

set_option Elab.async false
set_option linter.all false
set_option maxRecDepth 100000
set_option maxHeartbeats 1000000
namespace Pd
open PySem PySem.Spec L2 Pr
section
variable {m : Nat} {ls : List Nat}
def rankN (m : Nat) (ls : List Nat) (F : List (Option Nat)) (t : Nat) (v : List Nat) (k : Nat) : Nat := (((nxl m ls F (v.getD k 0)).filter fun a => decide (a < v.getD (k + 1) 0)).map (pcN m ls F (t - k - 1))).sum
def endsB (F0 : List (Option Nat)) (m : Nat) (ys : List Nat) : Bool := decide (F0.getD ((ys.getD (ys.length - 1) 0 + (m - ys.getD 0 0)) % m) none = some (ys.length - 1))
def isShort (m : Nat) (ls : List Nat) (F0 : List (Option Nat)) : D → Bool
  | .tup ds => isWay m ls (.tup ds) && endsB F0 m (ds.map natD)
  | _ => false
end
end Pd

set_option Elab.async false
set_option linter.all false
set_option maxRecDepth 100000
set_option maxHeartbeats 1000000
namespace Pd
open PySem PySem.Spec L2 Pr
section
variable {m : Nat} {ls : List Nat}
def prsN (ys : List Nat) : List (Nat × Nat) := ys.zip (ys.drop 1)
def swP (p : Nat × Nat) : Nat × Nat := (p.2, p.1)
end
end Pd

set_option Elab.async false
set_option linter.all false
set_option maxRecDepth 100000
set_option maxHeartbeats 1000000
namespace Pd
open PySem PySem.Spec L2 Pr
section
variable {m : Nat} {ls : List Nat}
end
end Pd

set_option Elab.async false
set_option linter.all false
set_option maxRecDepth 100000
set_option maxHeartbeats 2000000
namespace Pd
open PySem PySem.Spec L2 PyProof.Rows

def RunC (P : Program) (w : World) (K : PySem.W.Frag) (mg : Str → Option Value) (base : Heap) (cx : CXT) (f : Addr) (fd : FuncData) (ps : List Str) (sp : Sp) : Prop :=
  ∀ (s : Shared) (H : Hp) (args : Args) (us : List Value) (vs : List V) (Q : VK) (E : XK), Env0 P w K mg base callerA [] s H → BindsTo s fd args (ps.zip us) → Vals vs us → sp vs H Q E →
    codeAny (model P w) callerA (.call (.ref f) args) (CR cx [] P w H s Q E) s
def LawC (l : PySem.W.OpenLaw) (w : World) (K : PySem.W.Frag) (cx : CXT) (n : Nat) (x : Str) (mg : Str → Option Value) (fa : Addr) (h : Heap) : Prop :=
  ∃ (fd : FuncData) (cs : List (Addr × Addr)) (sp : Sp),
    (∀ p ∈ cs, h.get? p.2 = some { cls := .none, data := .fields #[] } ∧ K.lookup p.2 = none ∧ PySem.W.CodeHd h p.1 p.2) ∧
    (∀ (s : Shared) (u : Value), BindsTo s fd ⟨[u], []⟩ [(x, u)]) ∧
    (∀ (H : Hp) (a : Addr) (ns : List Int), ns.length ≤ n → (∀ p ∈ cs, H p.2 = some (.tbl #[])) → SqL K H a (ns.map V.int) → sp [.ref a] H (fun v _ => v = .bl true) fun _ _ _ => False) ∧
    ∀ base : Heap, K.In base → base.Ns mainGlobals mg → (∀ p ∈ cs, LamX.TabB base mg p.1 p.2) → RunC l.prog w K mg base cx fa fd [x] sp
section
variable {K : PySem.W.Frag} {s : Shared} {a : Addr} {vs : List Value} {ns : List Int} {cs : List (Addr × Addr)}
def startHp (K : PySem.W.Frag) (a : Addr) (vs : List Value) (ns : List Int) (cs : List (Addr × Addr)) : Hp := fun b =>
  if b ∈ cs.map (·.2) then some (.tbl #[])
  else if b = a ∧ K.lookup a = none then some (.frz { cls := .type "list", data := .seq vs.toArray } (.lst (ns.map V.int)))
  else none
end
end Pd

set_option Elab.async false
set_option linter.all false
set_option maxRecDepth 100000
set_option maxHeartbeats 2000000
namespace Pd
open PySem PySem.Spec L2

def spTm (K : PySem.W.Frag) (mg : Str → Option Value) (T : List (Addr × Str)) (n : Nat) (φ : List Sl → R O) : Sp := fun vs H Q E => vs.length = n ∧ ∃ (F : Fz T) (ss : List Sl), Sub F H ∧ SlVs K F H vs ss ∧
  (φ ss).post (fun o => ∀ v F' H', Grow F H F' H' → ORep K H F' H' v o → Q v H') (Erp mg (⟨E⟩ : Ex T) F H)
structure DefGT (G : Gl5) (T : List (Addr × Str)) (k : Nat) (x : Str) (n : Nat) (φ : List Sl → R O) : Prop where
  ex : ∃ (f : Addr) (fd : FuncData) (ps : List Str), FnOk G.P G.w G.K G.mg G.base (L2.CX G.P G.w) k f fd ps (spTm G.K G.mg T n φ) ∧ G.mg x = some (.ref f) ∧ PySem.W.keepIn G.K (.ref f) = true ∧ Binds G.K fd ps []
section
variable {X : Cx} {E : Ex T} {G : Gl5} {k m n : Nat} {N : List Str} {sc : Scope} {fnb : Str → Bool} {φ : List Sl → R O} {x : Str} {es : List PySem.Expr} {p pos : Pos}
end
section
variable {P : Program} {w : World} {K : PySem.W.Frag} {mg : Str → Option Value} {base : Heap} {T : List (Addr × Str)}
end
end Pd

set_option Elab.async false
set_option linter.all false
set_option maxRecDepth 100000
set_option maxHeartbeats 2000000
namespace Pd
open PySem PySem.Spec L2

def sgOk (l : List Nat) : Prop := ∀ c ∈ l, c < 1114112
theorem strOk_iff {x : Str} : PyData.strOk x = true ↔ sgOk x.cps.toList := by
  unfold PyData.strOk sgOk
  rw [← Array.all_toList, List.all_eq_true]
  simp
theorem char_lt (c : Char) : c.toNat < 1114112 := by
  have h : c.val.toNat < 55296 ∨ (57343 < c.val.toNat ∧ c.val.toNat < 1114112) := c.valid
  show c.val.toNat < 1114112
  omega
theorem sg_chars (l : List Char) : sgOk (l.map Char.toNat) := fun c h => by
  obtain ⟨d, _, rfl⟩ := List.mem_map.mp h
  exact char_lt d
theorem sg_app {a b : List Nat} (ha : sgOk a) (hb : sgOk b) : sgOk (a ++ b) := fun c h => (List.mem_append.mp h).elim (ha c) (hb c)
theorem ok_ofString (s : String) : PyData.strOk (Str.ofString s) = true := by
  rw [strOk_iff, Str.ofString_eq_toList]
  exact sg_chars _
theorem ok_app {a b : Str} (ha : PyData.strOk a = true) (hb : PyData.strOk b = true) : PyData.strOk (a ++ b) = true := by
  rw [strOk_iff] at ha hb ⊢
  show sgOk (a.cps ++ b.cps).toList
  rw [Array.toList_append]
  exact sg_app ha hb
theorem ok_join {sep : Str} (hs : PyData.strOk sep = true) : ∀ {l : List Str}, (∀ x ∈ l, PyData.strOk x = true) → PyData.strOk (Str.join sep l) = true
  | [], _ => by rw [Str.join]; decide +kernel
  | [x], h => by rw [Str.join]; exact h x (List.mem_cons_self ..)
  | x :: y :: r, h => by
    rw [Str.join]
    · exact ok_app (ok_app (h x (List.mem_cons_self ..)) hs) (ok_join hs fun z hz => h z (List.mem_cons_of_mem _ hz))
    · simp
theorem sg_rep (n : Nat) : sgOk (List.replicate n 48) := fun c h => by
  rw [List.eq_of_mem_replicate h]
  omega
theorem sg_one {a : Nat} (h : a < 1114112) : sgOk [a] := fun c hc => by
  rw [List.mem_singleton.mp hc]
  exact h
theorem sg_two {a b : Nat} (h : a < 1114112) (h2 : b < 1114112) : sgOk [a, b] := fun c hc => by
  simp only [List.mem_cons, List.not_mem_nil, or_false] at hc
  rcases hc with rfl | rfl <;> assumption
theorem sg_reprChar (q : Nat) {c : Nat} (h : c < 1114112) : sgOk (Builtin.Str.reprChar q c) := by
  unfold Builtin.Str.reprChar
  dsimp only
  have hx : ∀ w, sgOk (List.replicate (w - ((Nat.toDigits 16 c).map Char.toNat).length) 48 ++ (Nat.toDigits 16 c).map Char.toNat) := fun w => sg_app (sg_rep _) (sg_chars _)
  split
  · exact sg_two (by omega) h
  split
  · exact sg_two (by omega) (by omega)
  split
  · exact sg_two (by omega) (by omega)
  split
  · exact sg_two (by omega) (by omega)
  split
  · exact sg_one h
  split
  · exact sg_app (sg_two (by omega) (by omega)) (hx 2)
  split
  · exact sg_app (sg_two (by omega) (by omega)) (hx 4)
  · exact sg_app (sg_two (by omega) (by omega)) (hx 8)
theorem sg_fold (q : Nat) : ∀ (l : List Nat) (acc : Array Nat), sgOk acc.toList → sgOk l → sgOk (l.foldl (fun out c => out ++ (Builtin.Str.reprChar q c).toArray) acc).toList
  | [], _, h, _ => h
  | c :: r, acc, h, hl => by
    rw [List.foldl_cons]
    refine sg_fold q r _ ?_ fun d hd => hl d (List.mem_cons_of_mem _ hd)
    rw [Array.toList_append]
    exact sg_app h (sg_reprChar q (hl c (List.mem_cons_self ..)))
theorem ok_reprText {x : Str} (h : PyData.strOk x = true) : PyData.strOk (reprText x) = true := by
  rw [strOk_iff] at h ⊢
  have hq : reprQuote x < 1114112 := by
    unfold reprQuote
    split <;> omega
  unfold reprText
  show sgOk (Array.push _ _).toList
  rw [Array.toList_push, ← Array.foldl_toList]
  exact sg_app (sg_fold _ _ _ (sg_one hq) h) (sg_one hq)
theorem ok_from : ∀ (l : List Str) (k : Nat) (acc : Str), PyData.strOk acc = true → (∀ x ∈ l, PyData.strOk x = true) → PyData.strOk (textFrom k acc l) = true
  | [], _, _, h, _ => h
  | t :: r, k, acc, h, hl => by
    rw [textFrom]
    exact ok_from r _ _ (ok_app (ok_app h (ok_ofString _)) (hl t (List.mem_cons_self ..))) fun x hx => hl x (List.mem_cons_of_mem _ hx)
mutual
/-- data whose text is told: whole numbers that are not too great, texts of signs -/
def shwD : D → Bool
  | .non => true
  | .bl _ => true
  | .int i => decide (i.natAbs.log2 < 1920)
  | .str x => PyData.strOk x
  | .tup ds => shwDs ds
  | .lst ds => shwDs ds
  | _ => false
def shwDs : List D → Bool
  | [] => true
  | d :: ds => shwD d && shwDs ds
end
mutual
theorem shw_lay : ∀ d : D, shwD d = true → layD d = true
  | .non, _ => by rw [layD]
  | .bl _, _ => by rw [layD]
  | .int _, _ => by rw [layD]
  | .str x, h => by rw [shwD] at h; rw [layD]; exact h
  | .tup ds, h => by rw [shwD] at h; rw [layD]; exact shw_lays ds h
  | .lst ds, h => by rw [shwD] at h; rw [layD]; exact shw_lays ds h
theorem shw_lays : ∀ ds : List D, shwDs ds = true → layDs ds = true
  | [], _ => by rw [layDs]
  | d :: ds, h => by
    rw [shwDs, Bool.and_eq_true] at h
    rw [layDs, shw_lay d h.1, shw_lays ds h.2]
    rfl
end
mutual
theorem shw_ok : ∀ d : D, shwD d = true → (pyD d).showable = true
  | .non, _ => by rw [pyD, PyData.showable]
  | .bl _, _ => by rw [pyD, PyData.showable]
  | .int _, h => by rw [shwD] at h; rw [pyD, PyData.showable]; exact h
  | .str x, h => by rw [pyD, PyData.showable]
  | .tup ds, h => by rw [shwD] at h; rw [pyD, PyData.showable]; exact shw_oks ds h
  | .lst ds, h => by rw [shwD] at h; rw [pyD, PyData.showable]; exact shw_oks ds h
theorem shw_oks : ∀ ds : List D, shwDs ds = true → PyData.showableAll (pyDs ds) = true
  | [], _ => by rw [pyDs, PyData.showableAll]
  | d :: ds, h => by
    rw [shwDs, Bool.and_eq_true] at h
    rw [pyDs, PyData.showableAll, shw_ok d h.1, shw_oks ds h.2]
    rfl
end
mutual
theorem shown_ok : ∀ d : D, shwD d = true → PyData.strOk (pyD d).shown = true
  | .non, _ => by rw [pyD, PyData.shown]; exact ok_ofString _
  | .bl b, _ => by rw [pyD, PyData.shown]; cases b <;> exact ok_ofString _
  | .int _, _ => by rw [pyD, PyData.shown]; exact ok_ofString _
  | .str x, h => by rw [shwD] at h; rw [pyD, PyData.shown]; exact ok_reprText h
  | .tup ds, h => by
    rw [shwD] at h
    rw [pyD, PyData.shown]
    unfold tupleText
    exact ok_app (ok_app (ok_ofString _) (ok_join (ok_ofString _) (shown_oks ds h))) (ok_ofString _)
  | .lst ds, h => by
    rw [shwD] at h
    rw [pyD, PyData.shown]
    unfold listText
    exact ok_app (ok_from _ _ _ (ok_ofString _) (shown_oks ds h)) (ok_ofString _)
theorem shown_oks : ∀ ds : List D, shwDs ds = true → ∀ x ∈ PyData.shownAll (pyDs ds), PyData.strOk x = true
  | [], _ => fun x hx => by rw [pyDs, PyData.shownAll] at hx; cases hx
  | d :: ds, h => fun x hx => by
    rw [shwDs, Bool.and_eq_true] at h
    rw [pyDs, PyData.shownAll] at hx
    rcases List.mem_cons.mp hx with rfl | hx
    · exact shown_ok d h.1
    · exact shown_oks ds h.2 x hx
end
mutual
def lenD : D → Nat
  | .non => 4
  | .bl _ => 5
  | .int _ => 1921
  | .str x => 10 * x.length + 2
  | .tup ds => lenDs ds + 3
  | .lst ds => lenDs ds + 3
  | _ => 0
def lenDs : List D → Nat
  | [] => 0
  | d :: ds => lenD d + 2 + lenDs ds
end
theorem sl_app (a b : Str) : (a ++ b).length = a.length + b.length := by
  show (a.cps ++ b.cps).size = a.cps.size + b.cps.size
  rw [Array.size_append]
theorem sl_join : ∀ l : List Str, (Str.join ", " l).length ≤ (l.map fun x => x.length + 2).sum
  | [] => by rw [Str.join]; exact Nat.zero_le _
  | [x] => by rw [Str.join]; simp
  | x :: y :: r => by
    rw [Str.join]
    · have ih := sl_join (y :: r)
      have e : ((", " : String) : Str).length = 2 := by decide +kernel
      rw [sl_app, sl_app, e, List.map_cons, List.sum_cons]
      omega
    · simp
theorem sl_from : ∀ (l : List Str) (k : Nat) (acc : Str), (textFrom k acc l).length ≤ acc.length + (l.map fun x => x.length + 2).sum
  | [], _, acc => by rw [textFrom]; exact Nat.le_add_right _ _
  | t :: r, k, acc => by
    rw [textFrom]
    have ih := sl_from r (k + 1) (acc ++ ((if k > 0 then ", " else "" : String) : Str) ++ t)
    have e : (((if k > 0 then ", " else "" : String)) : Str).length ≤ 2 := by
      split
      · decide +kernel
      · decide +kernel
    rw [sl_app, sl_app] at ih
    rw [List.map_cons, List.sum_cons]
    omega
mutual
theorem shown_len : ∀ d : D, shwD d = true → (pyD d).shown.length ≤ lenD d
  | .non, _ => by rw [pyD, PyData.shown, lenD]; decide +kernel
  | .bl b, _ => by rw [pyD, PyData.shown, lenD]; cases b <;> decide +kernel
  | .int i, h => by
    rw [shwD, decide_eq_true_eq] at h
    rw [pyD, PyData.shown, lenD]
    exact PyProof.Rows.int_text_len_1921 h
  | .str x, h => by
    rw [shwD, strOk_iff] at h
    rw [pyD, PyData.shown, lenD]
    exact StrLaws.reprText_len x fun c hc => Nat.lt_of_lt_of_le (h c hc) (by decide)
  | .tup ds, h => by
    rw [shwD] at h
    rw [pyD, PyData.shown, lenD]
    unfold tupleText
    have e1 := shown_lens ds h
    have e2 := sl_join (PyData.shownAll (pyDs ds))
    have e3 : (("(" : String) : Str).length = 1 := by decide +kernel
    have e4 : ∀ b : Bool, (((if b = true then ",)" else ")" : String)) : Str).length ≤ 2 := by
      intro b
      cases b <;> decide +kernel
    rw [sl_app, sl_app, e3]
    have e5 := e4 ((PyData.shownAll (pyDs ds)).length == 1)
    omega
  | .lst ds, h => by
    rw [shwD] at h
    rw [pyD, PyData.shown, lenD]
    unfold listText
    have e1 := shown_lens ds h
    have e2 := sl_from (PyData.shownAll (pyDs ds)) 0 "["
    have e3 : (("[" : String) : Str).length = 1 := by decide +kernel
    have e4 : (("]" : String) : Str).length = 1 := by decide +kernel
    rw [sl_app, e4]
    omega
theorem shown_lens : ∀ ds : List D, shwDs ds = true → ((PyData.shownAll (pyDs ds)).map fun x => x.length + 2).sum ≤ lenDs ds
  | [], _ => by rw [pyDs, PyData.shownAll, lenDs]; exact Nat.le_refl _
  | d :: ds, h => by
    rw [shwDs, Bool.and_eq_true] at h
    rw [pyDs, PyData.shownAll, lenDs, List.map_cons, List.sum_cons]
    have e1 := shown_len d h.1
    have e2 := shown_lens ds h.2
    omega
end
def rReprD (K : PySem.W.Frag) : List V → Hp → VK → Prop := fun xs H Q => ∃ x d, xs = [x] ∧ Dp K H x d ∧ d.showable = true ∧ d.canLay0 = true ∧ d.depth ≤ 64 ∧ d.shown.length ≤ sizeLine ∧ Q (.str d.shown) H
def rRepr0 : List V → Hp → VK → Prop := fun xs H Q => ∃ p, xs = [.ref p] ∧ (Rd H p (.dK []) ∨ Rd H p (.dT [])) ∧ Q (.str "{}") H
def fRepr : List D → Option O
  | [.dct []] => some (.v (.str "{}"))
  | [d] => if shwD d = true ∧ depD d ≤ 60 ∧ lenD d ≤ 10000000 then some (.v (.str (pyD d).shown)) else none
  | _ => none
section
variable {X : Cx} {E : Ex T} {G : Gl5} {k : Nat} {N : List Str} {sc : Scope} {fnb : Str → Bool} {e : PySem.Expr} {es : List PySem.Expr} {p pos : Pos}
end
end Pd

set_option Elab.async false
set_option linter.all false
set_option maxRecDepth 100000
set_option maxHeartbeats 1000000
set_option exponentiation.threshold 4000
namespace Pd
open PySem PySem.Spec L2 Pr
def rpD (d : D) : Prop := ∃ s, fRepr [d] = some (.v (.str s)) ∧ PyData.strOk s = true
def flR (d : D) : Prop := shwD d = true ∧ depD d ≤ 1 ∧ lenD d ≤ 2000
def midR (d : D) : Prop := shwD d = true ∧ depD d ≤ 2 ∧ lenD d ≤ 900000
section
variable {m : Nat} {ls : List Nat}
def rgD (d : D) : Prop := rpD d ∧ ∀ a xs, d = .tup [a, .tup xs] → xs.length ≤ 1000
end
end Pd

set_option Elab.async false
set_option linter.all false
set_option maxRecDepth 100000
set_option maxHeartbeats 1000000
namespace Pd
open PySem PySem.Spec L2
section
variable {X : Cx} {E : Ex T} {G : Gl5} {k : Nat} {N : List Str} {sc : Scope} {fnb : Str → Bool} {x y : Str} {a b : PySem.Expr} {px py pt pt2 pos : Pos} {kt k2 : Nat}
def celB (sc : Scope) (x y : Str) : Bool := !(sc.names.lookup x == some .local && sc.names.lookup y == some .local)
end
end Pd

set_option Elab.async false
set_option linter.all false
set_option maxRecDepth 100000
set_option maxHeartbeats 1000000
namespace Pr
open PySem PySem.Spec L2 Pd
def f_good_heights : Gm → R Out := sSeq (sIf (tOrF [tNotF (tTru (rd (eCall fIsi (seqR [rVar 1, rd (eC (.ty "tuple"))])))), isB (e2 (dCmp .NotEq) (rd (eCall fLen (seqR [rVar 1]))) (rd (e2 dIx (rVar 0) (rd (eC (.int 0))))))]) (sSeq (sRet (eC (.bl false)))
  (sNext)) (sNext))
  (sSeq (sIf (tOrF [tNotF (tTru (rd (eCall fAll (seqR [rd (eLc (iF (rVar 1)) (.nm 4) ((fun _ => .ok true)) (vl (eUser d_is_number (seqR [uVar 4, uVal (vl (eC (.int 0))), uVal (vl (eC (.int 10000000000000000000000000000000000000000)))]))) ([4]))])))), isB (e2 (dCmp .NotEq) (rd (e2 dIx (rVar 1) (rd (eC (.int 0))))) (rd (eC (.int 0))))]) (sSeq (sRet (eC (.bl false)))
  (sNext)) (sNext))
  (sSeq (sFor (iOf enumF (seqR [vl (eVar 1)])) (.tp [.nm 2, .nm 3]) (sSeq (sIf (tNotF (tTru (rd (eCall fAll (seqR [rd (eLc (iF (rd (eUser d_beside (seqR [uVar 0, uVar 2])))) (.nm 5) ((fun _ => .ok true)) (vl (e2 (dCmp .Lt) (rd (eCall fAbs (seqR [rd (e2 (dBin .Sub) (rVar 3) (rd (e2 dIx (rVar 1) (rVar 5))))]))) (rd (eC (.int 2))))) ([5]))]))))) (sSeq (sRet (eC (.bl false)))
  (sNext)) (sNext))
  (sNext)))
  (sSeq (sRet (eC (.bl true)))
  (sNext))))
def d_good_heights : List Sl → R O := defF 4 f_good_heights
def f_is_height_paper : Gm → R Out := sSeq (sExpr (rd (eUser d_need_ring (seqR [uVar 0]))))
  (sSeq (sRet (eUser d_good_heights (seqR [uVar 0, uVar 1])))
  (sNext))
def d_is_height_paper : List Sl → R O := defF 0 f_is_height_paper
def f_bound_by : Gm → R Out := sSeq (sExpr (rd (eUser d_need_two (seqR [uVar 0, uVar 1, uVar 2]))))
  (sSeq (sIf (tNotF (tTru (rd (eUser d_good_heights (seqR [uVar 0, uVar 3]))))) (sSeq ((fun _ => .err "NoPaper"))
  (sNext)) (sNext))
  (sSeq (sRet (e2 dIx (rVar 3) (rd (e2 (dBin .Mod) (rd (e2 (dBin .Sub) (rVar 2) (rVar 1))) (rd (e2 dIx (rVar 0) (rd (eC (.int 0)))))))))
  (sNext)))
def d_bound_by : List Sl → R O := defF 0 f_bound_by
end Pr
namespace Pd
open PySem PySem.Spec L2 Pr
def intV : D → Int
  | .int i => i
  | _ => 0
def tieB (m : Nat) (ls : List Nat) (l : List Int) (p : Nat) : Bool := (nearN m ls p).all fun q => decide ((l.getD p 0 - l.getD q 0).natAbs < 2)
def paperB (m : Nat) (ls : List Nat) (l : List Int) : Bool := decide (l.getD 0 0 = 0) && (List.range m).all (tieB m ls l)
def isPaper (m : Nat) (ls : List Nat) : D → Bool
  | .tup ds => decide (ds.length = m) && (ds.all (fun d => isNum d 0 10000000000000000000000000000000000000000) && paperB m ls (ds.map intV))
  | _ => false
section
variable {m : Nat} {ls : List Nat}
end
end Pd

set_option Elab.async false
set_option linter.all false
set_option maxRecDepth 100000
set_option maxHeartbeats 1000000
namespace Pr
open PySem PySem.Spec L2 Pd
def f_need_two_leaps : Gm → R Out := sSeq (sExpr (rd (eUser d_need_ring (seqR [uVar 0]))))
  (sSeq (sIf (isB (e2 (dCmp .NotEq) (rd (eCall fLen (seqR [rd (e2 dIx (rVar 0) (rd (eC (.int 1))))]))) (rd (eC (.int 2))))) (sSeq ((fun _ => .err "NotTwo"))
  (sNext)) (sNext))
  (sNext))
def d_need_two_leaps : List Sl → R O := defF 0 f_need_two_leaps
def f_is_cell : Gm → R Out := sSeq (sIf (tOrF [tNotF (tTru (rd (eCall fIsi (seqR [rVar 0, rd (eC (.ty "tuple"))])))), isB (e2 (dCmp .NotEq) (rd (eCall fLen (seqR [rVar 0]))) (rd (eC (.int 2))))]) (sSeq (sRet (eC (.bl false)))
  (sNext)) (sNext))
  (sSeq (sRet (eCall fAll (seqR [rd (eLc (iF (rVar 0)) (.nm 2) ((fun _ => .ok true)) (vl (eUser d_is_number (seqR [uVar 2, uVal (vl (e2 (dBin .Sub) (rd (eC (.int 0))) (rVar 1))), uVar 1]))) ([2]))])))
  (sNext))
def d_is_cell : List Sl → R O := defF 1 f_is_cell
def f_need_cell : Gm → R Out := sSeq (sIf (tNotF (tTru (rd (eUser d_is_cell (seqR [uVar 0, uVal (vl (eC (.int 999999999999)))]))))) (sSeq ((fun _ => .err "NoCell"))
  (sNext)) (sNext))
  (sNext)
def d_need_cell : List Sl → R O := defF 0 f_need_cell
def f_place_of : Gm → R Out := sSeq (sRet (e2 (dBin .Mod) (rd (e2 (dBin .Add) (rd (e2 (dBin .Mult) (rd (e2 dIx (rVar 1) (rd (eC (.int 0))))) (rd (e2 dIx (rd (e2 dIx (rVar 0) (rd (eC (.int 1))))) (rd (eC (.int 0))))))) (rd (e2 (dBin .Mult) (rd (e2 dIx (rVar 1) (rd (eC (.int 1))))) (rd (e2 dIx (rd (e2 dIx (rVar 0) (rd (eC (.int 1))))) (rd (eC (.int 1))))))))) (rd (e2 dIx (rVar 0) (rd (eC (.int 0)))))))
  (sNext)
def d_place_of : List Sl → R O := defF 0 f_place_of
def f_lies_on : Gm → R Out := sSeq (sExpr (rd (eUser d_need_two_leaps (seqR [uVar 0]))))
  (sSeq (sExpr (rd (eUser d_need_cell (seqR [uVar 1]))))
  (sSeq (sRet (eUser d_place_of (seqR [uVar 0, uVar 1])))
  (sNext)))
def d_lies_on : List Sl → R O := defF 0 f_lies_on
def f_net_of : Gm → R Out := sSeq (sSet false 1 (e2 dIx (rVar 0) (rd (eC (.int 0)))))
  (sSeq (sSet false 2 (e2 dIx (rd (eLc (iOf rngF2 (seqR [rd (eC (.int 1)), rd (e2 (dBin .Add) (rVar 1) (rd (eC (.int 1))))])) (.nm 5) (isB (e2 (dCmp .Eq) (rd (eUser d_place_of (seqR [uVar 0, uVal (vl (eTup (seqR [vl (eVar 5), vl (eC (.int 0))])))]))) (rd (eC (.int 0))))) (vl (eVar 5)) ([5]))) (rd (eC (.int 0)))))
  (sSeq (sSet false 3 (eC (.int 1)))
  (sSeq (whR (tTru (rd (eCall fAll (seqR [rd (eLc (iOf rngF1 (seqR [rVar 2])) (.nm 5) ((fun _ => .ok true)) (vl (e2 (dCmp .NotEq) (rd (eUser d_place_of (seqR [uVar 0, uVal (vl (eTup (seqR [vl (eVar 5), vl (eVar 3)])))]))) (rd (eC (.int 0))))) ([5]))])))) (sSeq (sSet false 3 (e2 (dBin .Add) (rVar 3) (rd (eC (.int 1)))))
  (sNext)) whN)
  (sSeq (sSet false 4 (e2 dIx (rd (eLc (iOf rngF1 (seqR [rVar 2])) (.nm 5) (isB (e2 (dCmp .Eq) (rd (eUser d_place_of (seqR [uVar 0, uVal (vl (eTup (seqR [vl (eVar 5), vl (eVar 3)])))]))) (rd (eC (.int 0))))) (vl (eVar 5)) ([5]))) (rd (eC (.int 0)))))
  (sSeq (sRet (eTup (seqR [vl (eTup (seqR [vl (eVar 2), vl (eC (.int 0))])), vl (eTup (seqR [vl (eVar 4), vl (eVar 3)]))])))
  (sNext))))))
def d_net_of : List Sl → R O := defF 5 f_net_of
def f_net : Gm → R Out := sSeq (sExpr (rd (eUser d_need_two_leaps (seqR [uVar 0]))))
  (sSeq (sRet (eUser d_net_of (seqR [uVar 0])))
  (sNext))
def d_net : List Sl → R O := defF 0 f_net
def f_cells_of : Gm → R Out := sSeq (sSet true 1 (eLst (seqR [])))
  (sSeq (sFor (iOf rngF2 (seqR [rd (e2 (dBin .Sub) (rd (eC (.int 0))) (rVar 0)), rd (e2 (dBin .Add) (rVar 0) (rd (eC (.int 1))))])) (.nm 2) (sSeq (sSet false 3 (e2 (dBin .Sub) (rVar 0) (rd (eCall fAbs (seqR [rVar 2])))))
  (sSeq (sExt 1 (rd (eIf (isB (e2 (dCmp .Gt) (rVar 3) (rd (eC (.int 0))))) (eLst (seqR [vl (eTup (seqR [vl (eVar 2), vl (e2 (dBin .Sub) (rd (eC (.int 0))) (rVar 3))])), vl (eTup (seqR [vl (eVar 2), vl (eVar 3)]))])) (eLst (seqR [vl (eTup (seqR [vl (eVar 2), vl (eC (.int 0))]))])))))
  (sNext))))
  (sSeq (sRetV 1)
  (sNext)))
def d_cells_of : List Sl → R O := defF 3 f_cells_of
def f_least_steps : Gm → R Out := sSeq (sExpr (rd (eUser d_need_two_leaps (seqR [uVar 0]))))
  (sSeq (sSet false 1 (eC (.int 1)))
  (sSeq (sSet true 2 (eLst (seqR [])))
  (sSeq (whR (isB (e2 (dCmp .Eq) (rVar 2) (rd (eLst (seqR []))))) (sSeq (sSet true 2 (eLc (iF (rd (eUser d_cells_of (seqR [uVar 1])))) (.nm 3) (isB (e2 (dCmp .Eq) (rd (eUser d_place_of (seqR [uVar 0, uVar 3]))) (rd (eC (.int 0))))) (vl (eVar 3)) ([3])))
  (sSeq (sSet false 1 (e2 (dBin .Add) (rVar 1) (rd (eC (.int 1)))))
  (sNext))) whN)
  (sSeq (sRetV 2)
  (sNext)))))
def d_least_steps : List Sl → R O := defF 3 f_least_steps
def f__law_two_leaps : Gm → R Out := sSeq (sSet false 2 (e2 (dBin .Add) (rd (eC (.int 4))) (rd (eUser d__law_draw (seqR [uVar 0, uVal (vl (eC (.int 0))), uVal (vl (e2 (dBin .Sub) (rVar 1) (rd (eC (.int 3)))))])))))
  (sSeq (sSet false 3 (e2 (dBin .Add) (rd (eC (.int 1))) (rd (eUser d__law_draw (seqR [uVar 0, uVal (vl (eC (.int 1))), uVal (vl (e2 (dBin .FloorDiv) (rVar 2) (rd (eC (.int 2)))))])))))
  (sSeq (sSet false 4 (e2 (dBin .Add) (rd (eC (.int 1))) (rd (e2 (dBin .Mod) (rd (e2 (dBin .Add) (rVar 3) (rd (eUser d__law_draw (seqR [uVar 0, uVal (vl (eC (.int 2))), uVal (vl (e2 (dBin .Sub) (rd (e2 (dBin .FloorDiv) (rVar 2) (rd (eC (.int 2))))) (rd (eC (.int 1)))))]))))) (rd (e2 (dBin .FloorDiv) (rVar 2) (rd (eC (.int 2)))))))))
  (sSeq (sIf (isB (e2 (dCmp .Eq) (rd (eUser d__law_draw (seqR [uVar 0, uVal (vl (eC (.int 6))), uVal (vl (eC (.int 5)))]))) (rd (eC (.int 0))))) (sSeq (sPar 3 4 (seqR [vl (e2 dIx (rd (eLst (seqR [vl (eC (.int 1)), vl (e2 (dBin .Sub) (rd (e2 (dBin .FloorDiv) (rVar 2) (rd (eC (.int 2))))) (rd (eC (.int 1))))]))) (rd (eCall fInt (seqR [rd (e2 (dCmp .Eq) (rVar 4) (rd (eC (.int 1))))])))), vl (e2 (dBin .FloorDiv) (rVar 2) (rd (eC (.int 2))))]))
  (sNext)) (sNext))
  (sSeq (sRet (eTup (seqR [vl (eVar 2), vl (eTup (seqR [vl (eCall fMin (seqR [rVar 3, rVar 4])), vl (eCall fMax (seqR [rVar 3, rVar 4]))]))])))
  (sNext)))))
def d__law_two_leaps : List Sl → R O := defF 3 f__law_two_leaps
def f__law_lies : Gm → R Out := sSeq (sRet (e2 (dBin .Mod) (rd (e2 (dBin .Add) (rd (e2 (dBin .Mult) (rVar 1) (rd (e2 dIx (rd (e2 dIx (rVar 0) (rd (eC (.int 1))))) (rd (eC (.int 0))))))) (rd (e2 (dBin .Mult) (rVar 2) (rd (e2 dIx (rd (e2 dIx (rVar 0) (rd (eC (.int 1))))) (rd (eC (.int 1))))))))) (rd (e2 dIx (rVar 0) (rd (eC (.int 0)))))))
  (sNext)
def d__law_lies : List Sl → R O := defF 0 f__law_lies
def f__law_sized : Gm → R Out := sSeq (sSet true 1 (eLst (seqR [])))
  (sSeq (sFor (iOf rngF2 (seqR [rd (eNeg (rVar 0)), rd (e2 (dBin .Add) (rVar 0) (rd (eC (.int 1))))])) (.nm 2) (sSeq (sSet false 3 (e2 (dBin .Sub) (rVar 0) (rd (eCall fAbs (seqR [rVar 2])))))
  (sSeq (sApp 1 (vl (eTup (seqR [vl (eVar 2), vl (eNeg (rVar 3))]))))
  (sSeq (sIf (isB (e2 (dCmp .Gt) (rVar 3) (rd (eC (.int 0))))) (sSeq (sApp 1 (vl (eTup (seqR [vl (eVar 2), vl (eVar 3)]))))
  (sNext)) (sNext))
  (sNext)))))
  (sSeq (sRetV 1)
  (sNext)))
def d__law_sized : List Sl → R O := defF 3 f__law_sized
end Pr
namespace Pd
open PySem PySem.Spec L2 Pr
abbrev Cel := Int × Int
def cD (c : Cel) : D := .tup [.int c.1, .int c.2]
def plZ (m a b : Nat) (c : Cel) : Int := (c.1 * (a : Int) + c.2 * (b : Int)) % (m : Int)
def rowC (n : Nat) (x : Int) : List Cel := if 0 < (n : Int) - (x.natAbs : Int) then [(x, -((n : Int) - (x.natAbs : Int))), (x, (n : Int) - (x.natAbs : Int))] else [(x, 0)]
def rgZ (lo : Int) (n : Nat) : List Int := (List.range n).map fun k : Nat => lo + (k : Int)
def szC (n : Nat) : List Cel := (rgZ (-(n : Int)) (2 * n + 1)).flatMap (rowC n)
section
variable {m a b : Nat}
end
section
def lsF (g : Nat → List Cel) : Nat → Nat → List Cel
  | 0, _ => []
  | f + 1, n => match g n with
    | [] => lsF g f (n + 1)
    | c :: l => c :: l
end
section
variable {m a b : Nat}
def noC (m a b : Nat) (n : Nat) : List Cel := (szC n).filter fun c => plZ m a b c == 0
def leastC (m a b : Nat) : List Cel := lsF (noC m a b) 101 1
end
end Pd

set_option Elab.async false
set_option linter.all false
set_option maxRecDepth 100000
set_option maxHeartbeats 1000000
namespace Pr
open PySem PySem.Spec L2 Pd
def f__law_whole : Gm → R Out := sSeq (sRet (vAndF [eCall fIsi (seqR [rVar 0, rd (eC (.ty "int"))]), eNot (rd (eCall fIsi (seqR [rVar 0, rd (eC (.ty "bool"))])))]))
  (sNext)
def d__law_whole : List Sl → R O := defF 0 f__law_whole
def f__law_beside : Gm → R Out := sSeq (sSet false 2 (e2 dIx (rVar 0) (rd (eC (.int 0)))))
  (sSeq (sRet (eSortSet (rd (e2 (dBin .Add) (rd (eLc (iF (rd (e2 dIx (rVar 0) (rd (eC (.int 1)))))) (.nm 3) ((fun _ => .ok true)) (vl (e2 (dBin .Mod) (rd (e2 (dBin .Add) (rVar 1) (rVar 3))) (rVar 2))) ([3]))) (rd (eLc (iF (rd (e2 dIx (rVar 0) (rd (eC (.int 1)))))) (.nm 3) ((fun _ => .ok true)) (vl (e2 (dBin .Mod) (rd (e2 (dBin .Sub) (rVar 1) (rVar 3))) (rVar 2))) ([3])))))))
  (sNext))
def d__law_beside : List Sl → R O := defF 2 f__law_beside
def f__law_off : Gm → R Out := sSeq (sSet true 2 (eDict1 (rVar 1) (vl (eC (.int 0)))))
  (sSeq (sSet false 3 (eLst (seqR [vl (eVar 1)])))
  (sSeq (whR (isB (e2 (dCmp .NotEq) (rVar 3) (rd (eLst (seqR []))))) (sSeq (sSet true 4 (eLst (seqR [])))
  (sSeq (sFor (iF (vl (eVar 3))) (.nm 5) (sSeq (sFor (iF (vl (e2 dIx (rVar 0) (rVar 5)))) (.nm 6) (sSeq (sIf (isB (e2 (dCmp .NotIn) (rVar 6) (rVar 2))) (sSeq (sSto 2 (vl (e2 (dBin .Add) (rd (e2 dIx (rVar 2) (rVar 5))) (rd (eC (.int 1))))) (rVar 6))
  (sSeq (sApp 4 (vl (eVar 6)))
  (sNext))) (sNext))
  (sNext)))
  (sNext)))
  (sSeq ((fun Γ => (sSet false 3 (eVar 4)) (frz [4] Γ)))
  (sNext)))) whN)
  (sSeq (sRetV 2)
  (sNext))))
def d__law_off : List Sl → R O := defF 5 f__law_off
def f__law_come : Gm → R Out := sSeq (sRet (eCall fLen (seqR [rd (eUser d__law_off (seqR [uVal (vl (eLc (iOf rngF1 (seqR [rd (e2 dIx (rVar 0) (rd (eC (.int 0))))])) (.nm 1) ((fun _ => .ok true)) (vl (eUser d__law_beside (seqR [uVar 0, uVar 1]))) ([1]))), uVal (vl (eC (.int 0)))]))])))
  (sNext)
def d__law_come : List Sl → R O := defF 1 f__law_come
end Pr
namespace Pd
open PySem PySem.Spec L2 Pr
def kvD (p : Nat × Nat) : D × D := (.int (p.1 : Int), .int (p.2 : Int))
def newN : List Nat → List Nat → List Nat
  | [], _ => []
  | o :: os, K => if o ∈ K then newN os K else o :: newN os (K ++ [o])
def adjN (N : List (List Nat)) (p : Nat) : List Nat := N.getD p []
def WkN (N : List (List Nat)) : Nat → Nat → Nat → Prop
  | 0, p, q => p = q
  | n + 1, p, q => ∃ r, WkN N n p r ∧ q ∈ adjN N r
def IsN (N : List (List Nat)) (p q n : Nat) : Prop := WkN N n p q ∧ ∀ k, k < n → ¬ WkN N k p q
structure Lvl (N : List (List Nat)) (p s : Nat) (here : List Nat) (L : List (Nat × Nat)) : Prop where
  nd : (L.map Prod.fst).Nodup
  found : ∀ q t, (q, t) ∈ L ↔ IsN N p q t ∧ t ≤ s
  now : ∀ q, q ∈ here ↔ IsN N p q s
theorem Lvl.keys {N : List (List Nat)} {p s : Nat} {here : List Nat} {L : List (Nat × Nat)} (I : Lvl N p s here L) {q : Nat} : q ∈ L.map Prod.fst ↔ ∃ t, t ≤ s ∧ IsN N p q t := by
  rw [List.mem_map]
  constructor
  · rintro ⟨⟨q, t⟩, h, rfl⟩
    have := (I.found q t).mp h
    exact ⟨t, this.2, this.1⟩
  · rintro ⟨t, h1, h2⟩
    exact ⟨(q, t), (I.found q t).mpr ⟨h2, h1⟩, rfl⟩
section
variable {N : List (List Nat)}
theorem wkN_lt (hN : ∀ l ∈ N, ∀ q ∈ l, q < N.length) {p : Nat} (hp : p < N.length) : ∀ {n q : Nat}, WkN N n p q → q < N.length
  | 0, q, h => by
    have : p = q := h
    omega
  | n + 1, q, h => by
    obtain ⟨r, hr, hq⟩ := h
    have hrl := wkN_lt hN hp hr
    unfold adjN at hq
    rw [List.getD_eq_getElem?_getD, List.getElem?_eq_getElem hrl] at hq
    exact hN _ (List.getElem_mem hrl) q hq
theorem Lvl.len (hN : ∀ l ∈ N, ∀ q ∈ l, q < N.length) {p : Nat} (hp : p < N.length) {s : Nat} {here : List Nat} {L : List (Nat × Nat)} (I : Lvl N p s here L) : L.length ≤ N.length := by
  have h := nodup_len (L.map Prod.fst) (List.range N.length) I.nd fun q hq => by
    obtain ⟨t, _, h⟩ := I.keys.mp hq
    exact List.mem_range.mpr (wkN_lt hN hp h.1)
  rw [List.length_map, List.length_range] at h
  exact h
def nLD (N : List (List Nat)) : D := .lst (N.map fun l => .lst (nD l))
end
section
variable {m : Nat} {ls : List Nat}
def nearL (m : Nat) (ls : List Nat) : List (List Nat) := (List.range m).map (nearN m ls)
end
end Pd

set_option Elab.async false
set_option linter.all false
set_option maxRecDepth 100000
set_option maxHeartbeats 1000000
namespace Pd
open PySem PySem.Spec L2 Pr
def Sol (m a z : Nat) : Prop := ∃ x, (x * a) % m = z % m
section
variable {m a b : Nat}
def onN (m a b x y : Nat) : Bool := decide ((x * a + y * b) % m = 0)
def pN (m a : Nat) : Nat := m / Nat.gcd m a
def rN (m a b : Nat) : Nat := Nat.gcd m a / Nat.gcd (Nat.gcd m a) b
def qN (m a b : Nat) : Nat := ((List.range m).filter fun x => onN m a b x (rN m a b)).headD 0
def netD (m a b : Nat) : D := .tup [.tup [.int (pN m a : Nat), .int 0], .tup [.int (qN m a b : Nat), .int (rN m a b : Nat)]]
end
def isCel (k : Int) : D → Bool
  | .tup ds => decide (ds.length = 2) && ds.all fun d => isNum d (-k) k
  | _ => false
end Pd

set_option Elab.async false
set_option linter.all false
set_option maxRecDepth 100000
set_option maxHeartbeats 1000000
namespace Pr
open PySem PySem.Spec L2 Pd
def f__law_cell : Gm → R Out := sSeq (sSet false 2 (e2 dIx (rd (eLst (seqR [vl (eC (.int 3)), vl (eC (.int 30)), vl (e2 (dBin .Pow) (rd (eC (.int 10))) (rd (eC (.int 12))))]))) (rd (eUser d__law_draw (seqR [uVar 0, uVar 1, uVal (vl (eC (.int 3)))])))))
  (sSeq (sSet true 3 (eLst (seqR [])))
  (sSeq (sFor (iF (vl (eTup (seqR [vl (eC (.int 1)), vl (eC (.int 2))])))) (.nm 4) (sSeq (sSet false 5 (e2 (dBin .Add) (rd (e2 (dBin .Mult) (rd (eUser d__law_draw (seqR [uVar 0, uVal (vl (e2 (dBin .Add) (rVar 1) (rVar 4))), uVal (vl (e2 (dBin .Pow) (rd (eC (.int 2))) (rd (eC (.int 21)))))]))) (rd (e2 (dBin .Pow) (rd (eC (.int 2))) (rd (eC (.int 21))))))) (rd (eUser d__law_draw (seqR [uVar 0, uVal (vl (e2 (dBin .Add) (rd (e2 (dBin .Add) (rVar 1) (rd (eC (.int 200))))) (rVar 4))), uVal (vl (e2 (dBin .Pow) (rd (eC (.int 2))) (rd (eC (.int 21)))))])))))
  (sSeq (sApp 3 (vl (e2 (dBin .Add) (rd (e2 (dBin .Sub) (rd (e2 (dBin .Mod) (rVar 5) (rd (e2 (dBin .Sub) (rd (e2 (dBin .Mult) (rd (eC (.int 2))) (rVar 2))) (rd (eC (.int 1))))))) (rVar 2))) (rd (eC (.int 1))))))
  (sNext))))
  (sSeq (sRet (eTup (seqR [vl (e2 dIx (rVar 3) (rd (eC (.int 0)))), vl (e2 dIx (rVar 3) (rd (eC (.int 1))))])))
  (sNext))))
def d__law_cell : List Sl → R O := defF 4 f__law_cell
end Pr
namespace Pd
open PySem PySem.Spec L2 Pr
end Pd

set_option Elab.async false
set_option linter.all false
set_option maxRecDepth 100000
set_option maxHeartbeats 1000000
namespace Pd
open PySem PySem.Spec L2
def tLkO (t : TE) : TE := fun σ H Q => tLockE t σ H Q ∨ t σ H Q
def tLkS (t : TS) : TS := fun D σ H => tLock t D σ H ∨ t D σ H
def lkS : Sl → Sl
  | .bor _ => .un
  | s => s
def lkG (Γ : Gm) : Gm := Γ.map lkS
@[simp] theorem lkS_val (d : D) : lkS (.val d) = .val d := rfl
@[simp] theorem lkS_own (d : D) : lkS (.own d) = .own d := rfl
@[simp] theorem lkS_un : lkS .un = .un := rfl
@[simp] theorem lkG_nil : lkG [] = [] := rfl
@[simp] theorem lkG_cons (s : Sl) (Γ : Gm) : lkG (s :: Γ) = lkS s :: lkG Γ := rfl
def intKB (kvs : List (D × D)) : Bool := !kvs.isEmpty && kvs.all fun p => match p.1 with
  | .int _ => true
  | _ => false
def kyD : D → R (List D)
  | .dct kvs => if intKB kvs = true then .ok (kvs.map (·.1)) else .stuck
  | _ => .stuck
def vlD : D → R (List D)
  | .dct kvs => if intKB kvs = true then .ok (kvs.map (·.2)) else .stuck
  | _ => .stuck
def valAt (i : Nat) (Γ : Gm) : R D := match Γ[i]? with
  | some (.val d) => .ok d
  | _ => .stuck
abbrev iKy (i : Nat) : Gm → R (List D) := fun Γ => (valAt i Γ).bind kyD
abbrev iVl (i : Nat) : Gm → R (List D) := fun Γ => (valAt i Γ).bind vlD
def eLcD (fi : Gm → R (List D)) (t : Tg) (tt : Gm → R Bool) (te : Gm → R D) (vs : List Nat) : Gm → R O := fun Γ => (fi Γ).bind fun ds => (noE (lcGo t tt te (wipeG (lkG Γ) vs) ds)).bind fun out => .ok (.o (.lst out))
section
variable {T : List (Addr × Str)} {K : PySem.W.Frag} {F0 F F' : Fz T} {H0 H H' : Hp} {σ : L2.St} {Γ : Gm}
def unB (H0 : Hp) (a : Addr) : Hp := fun b => if b = a then none else H0 b
def WkD (K : PySem.W.Frag) (T : List (Addr × Str)) (wi : TI) (i : Nat) (src : D → R (List D)) : Prop :=
  ∀ (F : Fz T) (H : Hp) (σ : L2.St) (a : Addr) (od : Obj) (kvs : List (Key × V)) (ds : List (D × D)) (out : List D), Sub F H → σ.getD i none = some (.ref a) → F a = some (.dK kvs) → H a = some (.frz od (.dK kvs)) → RepK K F kvs ds → ds.length ≤ sizeLine → src (.dct ds) = .ok out →
    ∀ R' : It → Hp → Prop, (∀ J F' H', Grow F H F' H' → Items K (Grow F' H') J out → R' J H') → wi σ H R'
end
section
variable {T : List (Addr × Str)} {X : Cx} {E : Ex T} {G : Gl5} {k : Nat} {N : List Str} {sc : Scope} {fnb : Str → Bool}
variable {e a b c tg iter elt : PySem.Expr} {ifs : List PySem.Expr} {pos p p2 p3 apos cpos : Pos} {i j : Nat} {x y : Str} {scope : Scope}
def DSrc (X : Cx) (T : List (Addr × Str)) (tg e : PySem.Expr) (i : Nat) (src : D → R (List D)) : Prop := (src = kyD ∨ src = vlD) ∧ ∃ wi, PI X tg e wi ∧ WkD X.K T wi i src
end
end Pd
namespace Pd
open PySem PySem.Spec L2
end Pd

set_option Elab.async false
set_option linter.all false
set_option maxRecDepth 100000
set_option maxHeartbeats 1000000
namespace Pr
open PySem PySem.Spec L2 Pd
def f_places_many : Gm → R Out := sSeq (sRet (e2 (dBin .FloorDiv) (rd (e2 dIx (rVar 0) (rd (eC (.int 0))))) (rd (eUser d_pieces_of (seqR [uVar 0])))))
  (sNext)
def d_places_many : List Sl → R O := defF 0 f_places_many
def f__law_homes : Gm → R Out := sSeq (sSet true 1 ((fun _ => .ok (.o (.dct [])))))
  (sSeq (sSet false 2 (eC (.int 0)))
  (sSeq (whR (isB (e2 (dCmp .Lt) (rd (eCall fLen (seqR [rVar 1]))) (rd (eUser d__law_come (seqR [uVar 0]))))) (sSeq (sFor (iF (vl (eUser d__law_sized (seqR [uVar 2])))) (.tp [.nm 3, .nm 4]) (sSeq (sSet false 5 (eUser d__law_lies (seqR [uVar 0, uVar 3, uVar 4])))
  (sSeq (sIf (isB (e2 (dCmp .NotIn) (rVar 5) (rVar 1))) (sSeq (sSto 1 (vl (eTup (seqR [vl (eVar 3), vl (eVar 4)]))) (rVar 5))
  (sNext)) (sNext))
  (sNext))))
  (sSeq (sSet false 2 (e2 (dBin .Add) (rVar 2) (rd (eC (.int 1)))))
  (sNext))) whN)
  (sSeq (sRetV 1)
  (sNext))))
def d__law_homes : List Sl → R O := defF 5 f__law_homes
end Pr
namespace Pd
open PySem PySem.Spec L2 Pr
section
variable {β : Type}
def kvG (v : β → D) (L : List (Nat × β)) : List (D × D) := L.map fun p => (.int (p.1 : Int), v p.2)
def putC (pl : β → Nat) (L : List (Nat × β)) (c : β) : List (Nat × β) := if pl c ∈ L.map Prod.fst then L else L ++ [(pl c, c)]
def colC (pl : β → Nat) (cs : List β) (L : List (Nat × β)) : List (Nat × β) := cs.foldl (putC pl) L
def colS (pl : β → Nat) (cells : Nat → List β) : Nat → List (Nat × β)
  | 0 => []
  | n + 1 => colC pl (cells n) (colS pl cells n)
def colF (pl : β → Nat) (cells : Nat → List β) (many : Nat) : Nat → Nat → List (Nat × β) → List (Nat × β)
  | 0, _, L => L
  | f + 1, n, L => if L.length < many then colF pl cells many f (n + 1) (colC pl (cells n) L) else L
variable {pl : β → Nat} {cells : Nat → List β}
end
section
variable {m a b : Nat}
def plN (m a b x y : Nat) : Nat := (x * a + y * b) % m
def plC (m a b : Nat) (c : Cel) : Nat := (plZ m a b c).toNat
def homeL (m a b : Nat) : List (Nat × Cel) := colF (plC m a b) szC (m / gcdL m [a, b]) 202 0 []
end
end Pd

set_option Elab.async false
set_option linter.all false
set_option maxRecDepth 100000
set_option maxHeartbeats 1000000
namespace Pd
open PySem PySem.Spec L2
section
open PyProof.Rows Srt SrtO
variable {prog : Program} {w : World} {A : Around} {E : Value → Shared → Prop} {s : Shared}
end
def tSortVals (td : TE) : TE := fun σ H Q => td σ H fun x H1 => ∃ (a : Addr) (kvs : List (Key × V)) (k : V → Int × Int), x = V.ref a ∧ Rd H1 a (.dK kvs) ∧ (∀ x ∈ kvs.map (·.2), ∃ t, x = V.ref t ∧ H1 t = some (.tup [.int (k x).1, .int (k x).2])) ∧
  ∀ ys p, SrtO.Srtd (L2.ltP k) ys → SrtO.Stb (L2.ltP k) ys (kvs.map (·.2)) → H1 p = none → Q (.ref p) (upd H1 p (.lst ys))
section
variable {X : Cx} {o : PySem.Expr} {p pos apos mpos : Pos} {td : TE}
end
def fSortV : D → Option O
  | .dct kvs => if intKB kvs = true then (pairsOf (kvs.map (·.2))).map fun ps => .o (.lst ((sortP ps).map pairD)) else none
  | _ => none
def eSortV (f : Gm → R D) : Gm → R O := fun Γ => (f Γ).bind fun d => R.of (fSortV d)
section
variable {T : List (Addr × Str)} {X : Cx} {E : Ex T} {G : Gl5} {k : Nat} {N : List Str} {sc : Scope} {fnb : Str → Bool} {o : PySem.Expr} {p pos apos mpos : Pos}
end
end Pd

set_option Elab.async false
set_option linter.all false
set_option maxRecDepth 100000
set_option maxHeartbeats 1000000
namespace Pd
open PySem PySem.Spec L2
section
open PyProof.Rows
variable {prog : Program} {w : World} {A : Around} {E : Value → Shared → Prop} {s : Shared} {l : Addr} {xs : Array (Int × Tok)}
end
section
open PyProof.Rows
variable {prog : Program} {w : World} {A : Around} {E : Value → Shared → Prop} {s : Shared} {l : Addr} {its : List Value} {ns : List Int} {Q : Value → Shared → Prop}
end
def rMaxT (K : PySem.W.Frag) : List V → Hp → VK → Prop := fun vs H Q => ∃ (a : Addr) (ns : List Int), vs = [V.ref a] ∧ SqT K H a (ns.map V.int) ∧ 0 < ns.length ∧ ∀ m, m ∈ ns → (∀ y, y ∈ ns → y ≤ m) → Q (.int m) H
def rMinT (K : PySem.W.Frag) : List V → Hp → VK → Prop := fun vs H Q => ∃ (a : Addr) (ns : List Int), vs = [V.ref a] ∧ SqT K H a (ns.map V.int) ∧ 0 < ns.length ∧ ∀ m, m ∈ ns → (∀ y, y ∈ ns → m ≤ y) → Q (.int m) H
def fMaxT : List D → Option O
  | [.tup ds] => (intsOf ds).bind fun ns => if ns = [] then none else some (.v (.int (maxL ns)))
  | _ => none
def fMinT : List D → Option O
  | [.tup ds] => (intsOf ds).bind fun ns => if ns = [] then none else some (.v (.int (minL ns)))
  | _ => none
section
variable {T : List (Addr × Str)} {X : Cx} {E : Ex T} {G : Gl5} {k : Nat} {N : List Str} {sc : Scope} {fnb : Str → Bool} {e : PySem.Expr} {es : List PySem.Expr} {p pos : Pos}
end
end Pd

set_option Elab.async false
set_option linter.all false
set_option maxRecDepth 100000
set_option maxHeartbeats 1000000
namespace Pd
open PySem PySem.Spec L2
section
open PyProof.Rows
variable {prog : Program} {w : World} {A : Around} {E : Value → Shared → Prop}
def mergedH (acc rest : List (List Key × Addr × Value)) : List (List Key × Addr × Value) := rest.foldl (fun acc q => storedH acc q.1 q.2.1 q.2.2) acc
end
def mergeT (kvs : List (List Key × V)) (qs : List (List Key × Addr × V)) : List (List Key × V) := qs.foldl (fun acc q => putK acc q.1 q.2.2) kvs
def PrT (H : Hp) : List (List Key × Addr × V) → List (List Key × Addr × Value) → Prop := Paired fun q r => q.1 = r.1 ∧ q.2.1 = r.2.1 ∧ H q.2.1 = some (.tup (q.1.map kV)) ∧ RelV q.2.2 r.2.2
def rDictT (K : PySem.W.Frag) : List V → Hp → VK → Prop := fun xs H Q => ∃ (a : Addr) (ps : List Addr) (qs : List (List Key × Addr × V)), xs = [.ref a] ∧ SqL K H a (ps.map V.ref) ∧ Paired (fun p q => SqT K H p [.ref q.2.1, q.2.2] ∧ H q.2.1 = some (.tup (q.1.map kV))) ps qs ∧
  ∀ p, H p = none → Q (.ref p) (upd H p (.dT (mergeT [] qs)))
section
open PyProof.Rows
variable {X : Cx}
end
def keyOf : D → Option Key
  | .int i => some (.inl i)
  | .str x => some (.inr x)
  | _ => none
def keysOf : List D → Option (List Key)
  | [] => some []
  | d :: r => (keyOf d).bind fun k => (keysOf r).map fun l => k :: l
def prsOf : List D → Option (List (List Key × D))
  | [] => some []
  | .tup [.tup ks, v] :: r => (keysOf ks).bind fun k => (prsOf r).map fun l => (k, v) :: l
  | _ => none
def putsT (acc : List (D × D)) (ps : List (List Key × D)) : List (D × D) := ps.foldl (fun acc q => putD acc (keyT q.1) q.2) acc
def fDictT : List D → Option O
  | [.lst ds] => (prsOf ds).map fun ps => .o (.dct (putsT [] ps))
  | _ => none
section
variable {K : PySem.W.Frag} {F : Hp}
inductive RepQ (K : PySem.W.Frag) (F : Hp) : List (List Key × Addr × V) → List (List Key × D) → Prop where
  | nil : RepQ K F [] []
  | cons {k : List Key} {a : Addr} {v : V} {d : D} {qs : List (List Key × Addr × V)} {ps : List (List Key × D)} : Rep K F v d → RepQ K F qs ps → RepQ K F ((k, a, v) :: qs) ((k, d) :: ps)
end
section
variable {T : List (Addr × Str)} {X : Cx} {E : Ex T} {G : Gl5} {k : Nat} {N : List Str} {sc : Scope} {fnb : Str → Bool} {e : PySem.Expr} {es : List PySem.Expr} {p pos : Pos}
end
end Pd

set_option Elab.async false
set_option linter.all false
set_option maxRecDepth 100000
set_option maxHeartbeats 1000000
namespace Pd
open PySem PySem.Spec L2
def fGet2 (d k x : D) : Option O := match d, k with
  | .dct kvs, .int i => if intKB kvs = true then some (.v ((getK kvs (.int i)).getD x)) else none
  | _, _ => none
def gt2K (fk fx : Gm → R D) (Γ : Gm) : D → R O
  | .dct kvs => (fk Γ).bind fun k => (fx Γ).bind fun x => R.of (fGet2 (.dct kvs) k x)
  | _ => .stuck
def eGet2 (fo fk fx : Gm → R D) : Gm → R O := fun Γ => (fo Γ).bind (gt2K fk fx Γ)
section
variable {T : List (Addr × Str)} {X : Cx} {E : Ex T} {G : Gl5} {k : Nat} {N : List Str} {sc : Scope} {fnb : Str → Bool} {o e f : PySem.Expr} {apos cpos : Pos}
end
end Pd

set_option Elab.async false
set_option linter.all false
set_option maxRecDepth 100000
set_option maxHeartbeats 1000000
namespace Pr
open PySem PySem.Spec L2 Pd
def f_tie_of : Gm → R Out := sSeq (sRet (eTup (seqR [vl (eCall fMin (seqR [rVar 0, rVar 1])), vl (eCall fMax (seqR [rVar 0, rVar 1]))])))
  (sNext)
def d_tie_of : List Sl → R O := defF 0 f_tie_of
def f_left_beside : Gm → R Out := sSeq (sSet false 2 (eCall fDictT (seqR [rd (eLc (iF (rVar 1)) (.nm 4) ((fun _ => .ok true)) (vl (eTup (seqR [vl (eVar 4), vl (eC (.bl true))]))) ([4]))])))
  (sSeq (sRet (eLc (iOf rngF1 (seqR [rd (e2 dIx (rVar 0) (rd (eC (.int 0))))])) (.nm 3) ((fun _ => .ok true)) (vl (eLc (iF (rd (eUser d_beside (seqR [uVar 0, uVar 3])))) (.nm 5) (isB (e2 (dCmp .NotIn) (rd (eUser d_tie_of (seqR [uVar 3, uVar 5]))) (rVar 2))) (vl (eVar 5)) ([5]))) ([3])))
  (sNext))
def d_left_beside : List Sl → R O := defF 4 f_left_beside
def f_steps_by : Gm → R Out := sSeq (sSet true 2 (e2 (dBin .Mult) (rd (eLst (seqR [vl (eC .non)]))) (rd (eCall fLen (seqR [rVar 0])))))
  (sSeq (sSto 2 (vl (eC (.int 0))) (rVar 1))
  (sSeq (sSet true 3 (eLst (seqR [vl (eVar 1)])))
  (sSeq (sSet false 4 (eC (.int 0)))
  (sSeq (whR (isB (e2 (dCmp .Lt) (rVar 4) (rd (eCall fLen (seqR [rVar 3]))))) (sSeq (sFor (iF (vl (e2 dIx (rVar 0) (rd (e2 dIx (rVar 3) (rVar 4)))))) (.nm 5) (sSeq (sIf (isB (e2 (dCmp .Is) (rd (e2 dIx (rVar 2) (rVar 5))) (rd (eC .non)))) (sSeq (sSto 2 (vl (e2 (dBin .Add) (rd (e2 dIx (rVar 2) (rd (e2 dIx (rVar 3) (rVar 4))))) (rd (eC (.int 1))))) (rVar 5))
  (sSeq (sApp 3 (vl (eVar 5)))
  (sNext))) (sNext))
  (sNext)))
  (sSeq (sSet false 4 (e2 (dBin .Add) (rVar 4) (rd (eC (.int 1)))))
  (sNext))) whN)
  (sSeq (sRetV 2)
  (sNext))))))
def d_steps_by : List Sl → R O := defF 4 f_steps_by
def f__law_tie : Gm → R Out := sSeq (sRet (eTup (seqR [vl (eCall fMin (seqR [rVar 0, rVar 1])), vl (eCall fMax (seqR [rVar 0, rVar 1]))])))
  (sNext)
def d__law_tie : List Sl → R O := defF 0 f__law_tie
def f__law_lists : Gm → R Out := sSeq (sSet true 2 (eLst (seqR [])))
  (sSeq (sFor (iOf rngF1 (seqR [rd (e2 dIx (rVar 0) (rd (eC (.int 0))))])) (.nm 3) (sSeq (sApp 2 (vl (eLc (iF (rd (eUser d__law_beside (seqR [uVar 0, uVar 3])))) (.nm 4) (isB (e2 (dCmp .NotIn) (rd (eUser d__law_tie (seqR [uVar 3, uVar 4]))) (rVar 1))) (vl (eVar 4)) ([4]))))
  (sNext)))
  (sSeq (sRetV 2)
  (sNext)))
def d__law_lists : List Sl → R O := defF 3 f__law_lists
end Pr
namespace Pd
open PySem PySem.Spec L2 Pr
def lkN (L : List (Nat × Nat)) (q : Nat) : Option Nat := (L.find? fun p => decide (p.1 = q)).map (·.2)
def flN (n : Nat) (L : List (Nat × Nat)) : List (Option Nat) := (List.range n).map (lkN L)
section
variable {N : List (List Nat)}
end
end Pd

set_option Elab.async false
set_option linter.all false
set_option maxRecDepth 100000
set_option maxHeartbeats 1000000
namespace Pr
open PySem PySem.Spec L2 Pd
def f_is_tie : Gm → R Out := sSeq (sIf (tOrF [tNotF (tTru (rd (eCall fIsi (seqR [rVar 1, rd (eC (.ty "tuple"))])))), isB (e2 (dCmp .NotEq) (rd (eCall fLen (seqR [rVar 1]))) (rd (eC (.int 2)))), tNotF (tTru (rd (eCall fAll (seqR [rd (eLc (iF (rVar 1)) (.nm 2) ((fun _ => .ok true)) (vl (eUser d_is_number (seqR [uVar 2, uVal (vl (eC (.int 0))), uVal (vl (e2 (dBin .Sub) (rd (e2 dIx (rVar 0) (rd (eC (.int 0))))) (rd (eC (.int 1)))))]))) ([2]))]))))]) (sSeq (sRet (eC (.bl false)))
  (sNext)) (sNext))
  (sSeq (sRet (vAndF [e2 (dCmp .Lt) (rd (e2 dIx (rVar 1) (rd (eC (.int 0))))) (rd (e2 dIx (rVar 1) (rd (eC (.int 1))))), e2 (dCmp .In) (rd (e2 dIx (rVar 1) (rd (eC (.int 1))))) (rd (eUser d_beside (seqR [uVar 0, uVal (vl (e2 dIx (rVar 1) (rd (eC (.int 0)))))])))]))
  (sNext))
def d_is_tie : List Sl → R O := defF 1 f_is_tie
def f_good_failed : Gm → R Out := sSeq (sRet (vAndF [eCall fIsi (seqR [rVar 1, rd (eC (.ty "tuple"))]), eCall fAll (seqR [rd (eLc (iF (rVar 1)) (.nm 2) ((fun _ => .ok true)) (vl (eUser d_is_tie (seqR [uVar 0, uVar 2]))) ([2]))]), eUser d_rises (seqR [uVar 1])]))
  (sNext)
def d_good_failed : List Sl → R O := defF 1 f_good_failed
def f_need_failed : Gm → R Out := sSeq (sExpr (rd (eUser d_need_ring (seqR [uVar 0]))))
  (sSeq (sIf (tNotF (tTru (rd (eUser d_good_failed (seqR [uVar 0, uVar 1]))))) (sSeq ((fun _ => .err "NoTies"))
  (sNext)) (sNext))
  (sNext))
def d_need_failed : List Sl → R O := defF 0 f_need_failed
def f_need_pair : Gm → R Out := sSeq (sExpr (rd (eUser d_need_failed (seqR [uVar 0, uVar 1]))))
  (sSeq (sExpr (rd (eUser d_need_place (seqR [uVar 0, uVar 2]))))
  (sSeq (sExpr (rd (eUser d_need_place (seqR [uVar 0, uVar 3]))))
  (sSeq (sIf (isB (e2 (dCmp .Eq) (rVar 2) (rVar 3))) (sSeq ((fun _ => .err "NoPlace"))
  (sNext)) (sNext))
  (sNext))))
def d_need_pair : List Sl → R O := defF 0 f_need_pair
def f__law_rising : Gm → R Out := sSeq (sRet (eCall fAll (seqR [rd (eLc (iOf rngF2 (seqR [rd (eC (.int 1)), rd (eCall fLen (seqR [rVar 0]))])) (.nm 1) ((fun _ => .ok true)) (vl (e2 (dCmp .Lt) (rd (e2 dIx (rVar 0) (rd (e2 (dBin .Sub) (rVar 1) (rd (eC (.int 1))))))) (rd (e2 dIx (rVar 0) (rVar 1))))) ([1]))])))
  (sNext)
def d__law_rising : List Sl → R O := defF 1 f__law_rising
def f__law_ties : Gm → R Out := sSeq (sSet true 1 (eLst (seqR [])))
  (sSeq (sFor (iOf rngF1 (seqR [rd (e2 dIx (rVar 0) (rd (eC (.int 0))))])) (.nm 2) (sSeq (sExt 1 (rd (eLc (iF (rd (eUser d__law_beside (seqR [uVar 0, uVar 2])))) (.nm 3) (isB (e2 (dCmp .Gt) (rVar 3) (rVar 2))) (vl (eTup (seqR [vl (eVar 2), vl (eVar 3)]))) ([3]))))
  (sNext)))
  (sSeq (sRetV 1)
  (sNext)))
def d__law_ties : List Sl → R O := defF 3 f__law_ties
def f__law_failed : Gm → R Out := sSeq (sSet false 2 (eUser d__law_ties (seqR [uVar 1])))
  (sSeq (sSet false 3 (eUser d__law_draw (seqR [uVar 0, uVal (vl (eC (.int 10))), uVal (vl (eC (.int 5)))])))
  (sSeq (sSet false 4 (eUser d__law_draw (seqR [uVar 0, uVal (vl (eC (.int 11))), uVal (vl (e2 dIx (rVar 1) (rd (eC (.int 0)))))])))
  (sSeq (sIf (isB (e2 (dCmp .Eq) (rVar 3) (rd (eC (.int 1))))) (sSeq (sRet (eCall fTuple (seqR [rd (eLc (iF (rVar 2)) (.nm 7) (isB (e2 (dCmp .In) (rVar 4) (rVar 7))) (vl (eVar 7)) ([7]))])))
  (sNext)) (sNext))
  (sSeq (sIf (isB (e2 (dCmp .Eq) (rVar 3) (rd (eC (.int 2))))) (sSeq (sRet (eCall fTuple (seqR [rd (eLc (iF (rVar 2)) (.nm 7) (tOrF [isB (e2 (dCmp .NotIn) (rVar 4) (rVar 7)), isB (e2 (dCmp .In) (rd (eC (.int 0))) (rVar 7))]) (vl (eVar 7)) ([7]))])))
  (sNext)) (sNext))
  (sSeq (sSet true 5 (eLst (seqR [])))
  (sSeq (sFor (iOf rngF1 (seqR [rd (e2 dIx (rd (eLst (seqR [vl (eC (.int 0)), vl (eC (.int 0)), vl (eC (.int 0)), vl (eC (.int 3)), vl (eC (.int 12))]))) (rVar 3))])) (.nm 6) (sSeq (sSet false 7 (e2 dIx (rVar 2) (rd (eUser d__law_draw (seqR [uVar 0, uVal (vl (e2 (dBin .Add) (rd (eC (.int 12))) (rVar 6))), uVal (vl (eCall fLen (seqR [rVar 2])))])))))
  (sSeq (sIf (isB (e2 (dCmp .NotIn) (rVar 7) (rVar 5))) (sSeq (sApp 5 (vl (eVar 7)))
  (sNext)) (sNext))
  (sNext))))
  (sSeq (sRet (eCall fTuple (seqR [rd (eCall fSorted (seqR [rVar 5]))])))
  (sNext))))))))
def d__law_failed : List Sl → R O := defF 6 f__law_failed
def f__law_odd : Gm → R Out := sSeq (sSet false 1 (eLst (seqR [vl (eC .non), vl (eC (.bl true)), vl (eC (.int 0)), vl (eNeg (rd (eC (.int 1)))), vl (eC (.str "")), vl (eC (.str "0")), vl (eTup (seqR [])), vl (eLst (seqR [])), vl ((fun _ => .ok (.o (.dct [])))), vl (eTup (seqR [vl (eTup (seqR []))])), vl (eTup (seqR [vl (eC (.int 0))])), vl (eTup (seqR [vl (eTup (seqR [vl (eC (.int 0)), vl (eC (.int 1))]))])), vl (eLst (seqR [vl (eC (.int 0))])), vl (eTup (seqR [vl (eC .non)])), vl (eTup (seqR [vl (eC (.str "0")), vl (eC (.int 1))])), vl (e2 (dBin .Pow) (rd (eC (.int 10))) (rd (eC (.int 20))))])))
  (sSeq (sRet (e2 dIx (rVar 1) (rd (eUser d__law_draw (seqR [uVar 0, uVal (vl (eC (.int 40))), uVal (vl (eC (.int 16)))])))))
  (sNext))
def d__law_odd : List Sl → R O := defF 1 f__law_odd
def f__law_are_failed : Gm → R Out := sSeq (sIf (tNotF (tTru (rd (eCall fIsi (seqR [rVar 1, rd (eC (.ty "tuple"))]))))) (sSeq (sRet (eC (.bl false)))
  (sNext)) (sNext))
  (sSeq (sFor (iF (vl (eVar 1))) (.nm 2) (sSeq (sIf (tOrF [tNotF (tTru (rd (eCall fIsi (seqR [rVar 2, rd (eC (.ty "tuple"))])))), isB (e2 (dCmp .NotEq) (rd (eCall fLen (seqR [rVar 2]))) (rd (eC (.int 2)))), tNotF (tTru (rd (eCall fAll (seqR [rd (eLc (iF (rVar 2)) (.nm 3) ((fun _ => .ok true)) (vl (eUser d__law_whole (seqR [uVar 3]))) ([3]))]))))]) (sSeq (sRet (eC (.bl false)))
  (sNext)) (sNext))
  (sSeq (sIf (tOrF [tNotF (isB (e4 (dCmp .LtE) (dCmp .Lt) (dCmp .Lt) (rd (eC (.int 0))) (rd (e2 dIx (rVar 2) (rd (eC (.int 0))))) (rd (e2 dIx (rVar 2) (rd (eC (.int 1))))) (rd (e2 dIx (rVar 0) (rd (eC (.int 0))))))), isB (e2 (dCmp .NotIn) (rd (e2 dIx (rVar 2) (rd (eC (.int 1))))) (rd (eUser d__law_beside (seqR [uVar 0, uVal (vl (e2 dIx (rVar 2) (rd (eC (.int 0)))))]))))]) (sSeq (sRet (eC (.bl false)))
  (sNext)) (sNext))
  (sNext))))
  (sSeq (sRet (eUser d__law_rising (seqR [uVar 1])))
  (sNext)))
def d__law_are_failed : List Sl → R O := defF 2 f__law_are_failed
def f__law_odd_ties : Gm → R Out := sSeq (sSet false 2 (eUser d__law_ties (seqR [uVar 1])))
  (sSeq (sSet false 3 (e2 dIx (rVar 2) (rd (eUser d__law_draw (seqR [uVar 0, uVal (vl (eC (.int 45))), uVal (vl (eCall fLen (seqR [rVar 2])))])))))
  (sSeq (sPar 5 6 (seqR [vl (eUser d__law_draw (seqR [uVar 0, uVal (vl (eC (.int 46))), uVal (vl (e2 dIx (rVar 1) (rd (eC (.int 0)))))])), vl (eUser d__law_draw (seqR [uVar 0, uVal (vl (eC (.int 47))), uVal (vl (e2 dIx (rVar 1) (rd (eC (.int 0)))))]))]))
  (sSeq (sSet false 4 (eLst (seqR [vl (eVar 3), vl (eVar 3), vl (eTup (seqR [vl (eVar 5), vl (eVar 6)])), vl (eTup (seqR [vl (e2 dIx (rVar 3) (rd (eC (.int 1)))), vl (e2 dIx (rVar 3) (rd (eC (.int 0))))])), vl (eTup (seqR [vl (e2 dIx (rVar 3) (rd (eC (.int 0)))), vl (e2 dIx (rVar 3) (rd (eC (.int 0))))])), vl (eTup (seqR [vl (e2 dIx (rVar 3) (rd (eC (.int 0)))), vl (e2 dIx (rVar 1) (rd (eC (.int 0))))])), vl (eCall fList (seqR [rVar 3])), vl (eSl (rVar 3) (noPart) (aPart (rd (eC (.int 1)))))])))
  (sSeq (sRet (e2 (dBin .Add) (rVar 4) (rd (eLst (seqR [vl (e2 (dBin .Add) (rVar 3) (rd (eTup (seqR [vl (eC (.int 0))])))), vl (eTup (seqR [vl (e2 dIx (rVar 3) (rd (eC (.int 0)))), vl (eC .non)])), vl (eTup (seqR [vl (eC (.bl false)), vl (e2 dIx (rVar 3) (rd (eC (.int 1))))])), vl (eC .non), vl (eC (.int 0))])))))
  (sNext)))))
def d__law_odd_ties : List Sl → R O := defF 5 f__law_odd_ties
def f__law_two : Gm → R Out := sSeq (sSet false 3 (eUser d__law_draw (seqR [uVar 0, uVar 1, uVar 2])))
  (sSeq (sRet (eTup (seqR [vl (eVar 3), vl (e2 (dBin .Mod) (rd (e2 (dBin .Add) (rd (e2 (dBin .Add) (rVar 3) (rd (eC (.int 1))))) (rd (eUser d__law_draw (seqR [uVar 0, uVal (vl (e2 (dBin .Add) (rVar 1) (rd (eC (.int 1))))), uVal (vl (e2 (dBin .Sub) (rVar 2) (rd (eC (.int 1)))))]))))) (rVar 2))])))
  (sNext))
def d__law_two : List Sl → R O := defF 1 f__law_two
end Pr
namespace Pd
open PySem PySem.Spec L2 Pr
def isTie (m : Nat) (ls : List Nat) : D → Bool
  | .tup [.int a, .int b] => decide (0 ≤ a) && (decide (a < b) && (decide (b < (m : Int)) && decide (b.toNat ∈ nearN m ls a.toNat)))
  | _ => false
def isI : D → Bool
  | .int _ => true
  | _ => false
def risP (ds : List D) : Bool := (List.range (ds.length - 1)).all fun k => ltP (pyD (ds.getD k .non)) (pyD (ds.getD (k + 1) .non))
def isFailed (m : Nat) (ls : List Nat) : D → Bool
  | .tup ds => ds.all (isTie m ls) && risP ds
  | _ => false
section
variable {m : Nat} {ls : List Nat}
end
section
variable {m : Nat} {ls : List Nat} (R : Ring m ls)
include R
end
def lenOk (d : D) : Prop := ∀ ds, d = .tup ds → ds.length ≤ 100000
end Pd

set_option Elab.async false
set_option linter.all false
set_option maxRecDepth 100000
set_option maxHeartbeats 1000000
namespace Pd
open PySem PySem.Spec L2 Pr
def lexN (a b : Nat × Nat) : Prop := a.1 < b.1 ∨ (a.1 = b.1 ∧ a.2 < b.2)
def toI (t : Nat × Nat) : Int × Int := ((t.1 : Int), (t.2 : Int))
section
variable {m : Nat} {ls : List Nat} (R : Ring m ls)
include R
end
section
variable {m : Nat} {ls : List Nat}
def kvT (ts : List (Nat × Nat)) : List (D × D) := ts.map fun t => (tieD t, .bl true)
def tieO (p q : Nat) : Nat × Nat := (min p q, max p q)
def lstsN (m : Nat) (ls : List Nat) (fs : List (Nat × Nat)) : List (List Nat) := (List.range m).map fun p => (nearN m ls p).filter fun q => !decide (tieO p q ∈ fs)
end
end Pd

set_option Elab.async false
set_option linter.all false
set_option maxRecDepth 100000
set_option maxHeartbeats 1000000
namespace Pd
open PySem PySem.Spec L2 Pr
section
variable {m : Nat} {ls : List Nat}
section
variable (R : Ring m ls)
include R
end
end
end Pd

set_option Elab.async false
set_option linter.all false
set_option maxRecDepth 100000
set_option maxHeartbeats 1000000
namespace Pd
open PySem PySem.Spec L2
section
open PyProof.Rows Srt SrtO
variable {prog : Program} {w : World} {A : Around} {E : Value → Shared → Prop} {s : Shared}
end
def rSortedPT (K : PySem.W.Frag) : List V → Hp → VK → Prop := fun vs H Q => ∃ (a : Addr) (xs : List V) (k : V → Int × Int), vs = [V.ref a] ∧ SqT K H a xs ∧ (∀ x ∈ xs, ∃ t, x = V.ref t ∧ H t = some (.tup [.int (k x).1, .int (k x).2])) ∧
  ∀ ys p, SrtO.Srtd (L2.ltP k) ys → SrtO.Stb (L2.ltP k) ys xs → H p = none → Q (.ref p) (upd H p (.lst ys))
section
variable {X : Cx}
end
def fSortedT : List D → Option O
  | [.tup ds] => (pairsOf ds).map fun ps => .o (.lst ((sortP ps).map pairD))
  | _ => none
section
variable {T : List (Addr × Str)} {X : Cx} {E : Ex T} {G : Gl5} {k : Nat} {N : List Str} {sc : Scope} {fnb : Str → Bool} {e : PySem.Expr} {es : List PySem.Expr} {p pos : Pos}
end
end Pd

set_option Elab.async false
set_option linter.all false
set_option maxRecDepth 100000
set_option maxHeartbeats 1000000
namespace Pr
open PySem PySem.Spec L2 Pd
def f_first_way : Gm → R Out := sSeq (sSet false 3 (eUser d_steps_by (seqR [uVar 0, uVar 2])))
  (sSeq (sIf (isB (e2 (dCmp .Is) (rd (e2 dIx (rVar 3) (rVar 1))) (rd (eC .non)))) (sSeq (sRet (eC .non))
  (sNext)) (sNext))
  (sSeq (sSet false 4 (eTup (seqR [vl (eVar 1)])))
  (sSeq (whR (isB (e2 (dCmp .NotEq) (rd (e2 dIx (rVar 4) (rd (eNeg (rd (eC (.int 1))))))) (rVar 2))) (sSeq (sSet false 4 (e2 (dBin .Add) (rVar 4) (rd (eSl (rd (eCall fTuple (seqR [rd (eLc (iF (rd (e2 dIx (rVar 0) (rd (e2 dIx (rVar 4) (rd (eNeg (rd (eC (.int 1)))))))))) (.nm 5) (isB (e2 (dCmp .Eq) (rd (e2 dIx (rVar 3) (rVar 5))) (rd (e2 (dBin .Sub) (rd (e2 dIx (rVar 3) (rd (e2 dIx (rVar 4) (rd (eNeg (rd (eC (.int 1))))))))) (rd (eC (.int 1))))))) (vl (eVar 5)) ([5]))]))) (noPart) (aPart (rd (eC (.int 1))))))))
  (sNext)) whN)
  (sSeq (sRetV 4)
  (sNext)))))
def d_first_way : List Sl → R O := defF 3 f_first_way
def f_far_without : Gm → R Out := sSeq (sExpr (rd (eUser d_need_failed (seqR [uVar 0, uVar 1]))))
  (sSeq (sExpr (rd (eUser d_need_place (seqR [uVar 0, uVar 2]))))
  (sSeq (sExpr (rd (eUser d_need_place (seqR [uVar 0, uVar 3]))))
  (sSeq (sRet (e2 dIx (rd (eUser d_steps_by (seqR [uVal (vl (eUser d_left_beside (seqR [uVar 0, uVar 1]))), uVar 2]))) (rVar 3)))
  (sNext))))
def d_far_without : List Sl → R O := defF 0 f_far_without
def f_way_without : Gm → R Out := sSeq (sExpr (rd (eUser d_need_failed (seqR [uVar 0, uVar 1]))))
  (sSeq (sExpr (rd (eUser d_need_place (seqR [uVar 0, uVar 2]))))
  (sSeq (sExpr (rd (eUser d_need_place (seqR [uVar 0, uVar 3]))))
  (sSeq (sRet (eUser d_first_way (seqR [uVal (vl (eUser d_left_beside (seqR [uVar 0, uVar 1]))), uVar 2, uVar 3])))
  (sNext))))
def d_way_without : List Sl → R O := defF 0 f_way_without
end Pr
namespace Pd
open PySem PySem.Spec L2 Pr
def symN (N : List (List Nat)) : Prop := ∀ p q, q ∈ adjN N p → p ∈ adjN N q
section
variable {m : Nat} {ls : List Nat}
end
def StpN (N : List (List Nat)) (p : Nat) (F : List (Option Nat)) : Prop := F.length = N.length ∧ ∀ q t, F[q]? = some (some t) ↔ IsN N p q t
def nxtF (N : List (List Nat)) (F : List (Option Nat)) (q s : Nat) : List Nat := (adjN N q).filter fun r => decide (F[r]? = some (some s))
def wayF (N : List (List Nat)) (F : List (Option Nat)) : Nat → Nat → List Nat
  | 0, q => [q]
  | t + 1, q => q :: wayF N F t ((nxtF N F q t).headD 0)
def oWay (N : List (List Nat)) (F : List (Option Nat)) (q : Nat) : D := match F.getD q none with
  | some t => .tup (nD (wayF N F t q))
  | none => .non
section
variable {N : List (List Nat)} {p : Nat} {F : List (Option Nat)}
def lvlN (N : List (List Nat)) (p : Nat) : Nat → List Nat
  | 0 => [p]
  | n + 1 => (lvlN N p n).flatMap (adjN N)
end
end Pd

set_option Elab.async false
set_option linter.all false
set_option maxRecDepth 100000
set_option maxHeartbeats 1000000
namespace Pd
open PySem PySem.Spec L2 Pr
def stepL {σ α : Type} (f : σ → α → Option σ) : σ → List α → Option σ
  | s, [] => some s
  | s, a :: l => match f s a with
    | none => none
    | some s' => stepL f s' l
def StR {σ : Type} (Q : σ → Gm → Prop) (o : O) (r : R Out) : Option σ → Prop
  | some s => Go r (Q s)
  | none => r = .ok (.rt o)
def adjP : List Nat → List (Nat × Nat)
  | a :: b :: l => (a, b) :: adjP (b :: l)
  | _ => []
def nsN (l : List Nat) : Nat := (setL (l.map fun n : Nat => (n : Int))).length
def tstep (G : List (Nat × Nat)) (t : Nat × Nat) : Option (List (Nat × Nat)) := if t ∈ G then none else some (G ++ [t])
def tiesW (ys : List Nat) : List (Nat × Nat) := (adjP ys).map fun t => tieO t.1 t.2
def natsD : D → List Nat
  | .tup ds => ds.map natD
  | _ => []
def endsQ (p q : Nat) (ys : List Nat) : Bool := decide (ys.getD 0 0 = p) && (decide (ys.getD (ys.length - 1) 0 = q) && decide (ys.length ≤ nsN ys))
def wstep (m : Nat) (ls : List Nat) (p q : Nat) (G : List (Nat × Nat)) (d : D) : Option (List (Nat × Nat)) := if (isWay m ls d && endsQ p q (natsD d)) = true then stepL tstep G (tiesW (natsD d)) else none
def waysB (m : Nat) (ls : List Nat) (p q : Nat) (G : List (Nat × Nat)) : D → Bool
  | .lst ws => (stepL (wstep m ls p q) G ws).isSome
  | _ => false
def tiesOk (m : Nat) (ls : List Nat) (G : List (Nat × Nat)) : Prop := G.Nodup ∧ ∀ t ∈ G, t ∈ tiesN m ls
end Pd

set_option Elab.async false
set_option linter.all false
set_option maxRecDepth 100000
set_option maxHeartbeats 1000000
namespace Pd
open PySem PySem.Spec L2 Pr
section
variable {m a b : Nat}
def Zc (m a b : Nat) (x y : Int) : Prop := (m : Int) ∣ x * (a : Int) + y * (b : Int)
def szz (c : Cel) : Nat := c.1.natAbs + c.2.natAbs
end
end Pd

set_option Elab.async false
set_option linter.all false
set_option maxRecDepth 100000
set_option maxHeartbeats 1000000
namespace Pd
open PySem PySem.Spec L2 Pr
def plP (m a b : Nat) (c : Nat × Nat) : Nat := plN m a b c.1 c.2
def cnN (n : Nat) : List (Nat × Nat) := (List.range (n + 1)).map fun x => (x, n - x)
def mxN (G : List Nat) : Nat := G.foldl max 0
def corL (m a b : Nat) : List (Nat × (Nat × Nat)) := colF (plP m a b) cnN (m / gcdL m [a, b]) 202 0 []
def corV (m a b : Nat) : List Nat := (List.range (mxN ((corL m a b).map fun p => p.2.2) + 1)).map fun y => ((corL m a b).map fun p => p.2.2).count y
def goR (m a b : Nat) : Nat → Nat → Nat → List Nat → Nat × List Nat
  | _, 0, M, L => (M, L)
  | x, k + 1, M, L => if Nat.testBit M ((x * a + k * b) % m) = true then goR m a b (x + 1) k M L else goR m a b (x + 1) k (M ||| 2 ^ ((x * a + k * b) % m)) (k :: L)
def goF (m a b many : Nat) : Nat → Nat → Nat → List Nat → List Nat
  | 0, _, _, L => L
  | f + 1, n, M, L => if Nat.blt L.length many = true then goF m a b many f (n + 1) (goR m a b 0 (n + 1) M L).1 (goR m a b 0 (n + 1) M L).2 else L
def cnL : Nat → Nat → List (Nat × Nat)
  | _, 0 => []
  | x, k + 1 => (x, k) :: cnL (x + 1) k
structure CInv (M : Nat) (L : List Nat) (C : List (Nat × (Nat × Nat))) : Prop where
  bit : ∀ q, Nat.testBit M q = decide (q ∈ C.map Prod.fst)
  lst : L = (C.map fun p => p.2.2).reverse
def ysF (m a b : Nat) : List Nat := (goF m a b (m / gcdL m [a, b]) 202 0 0 []).reverse
def cntF (y : Nat) : List Nat → Nat
  | [] => 0
  | z :: l => if Nat.beq z y = true then cntF y l + 1 else cntF y l
def corF (m a b : Nat) : List Nat := (List.range (mxN (ysF m a b) + 1)).map fun y => cntF y (ysF m a b)
def dscB : List Nat → Bool
  | x :: y :: l => Nat.ble y x && dscB (y :: l)
  | _ => true
def twoB (x y : Nat) : List Nat → Bool
  | [] => true
  | z :: l => (Nat.beq z x || Nat.beq z y) && twoB x y l
def chkV (many : Nat) (v : List Nat) : Bool := dscB v && (twoB (v.headD 0) (v.getLastD 0) v && (Nat.beq v.sum many && Nat.ble v.length 31))
def chkC (m a b : Nat) : Bool := chkV (m / gcdL m [a, b]) (corF m a b)
def rowR (m b : Nat) : Bool := (List.range b).all fun a => Nat.beq a 0 || chkC m a b
def rowM (m : Nat) : Bool := (List.range (m / 2 + 1)).all fun b => Nat.blt b 2 || rowR m b
end Pd

set_option Elab.async false
set_option linter.all false
set_option maxRecDepth 100000
set_option maxHeartbeats 1000000
namespace Pd
open PySem PySem.Spec L2
def lexZ : List Int → List Int → Bool
  | [], [] => false
  | [], _ :: _ => true
  | _ :: _, [] => false
  | p :: r, q :: t => if p = q then lexZ r t else decide (p < q)
theorem lexZ_asym : ∀ {a b : List Int}, lexZ a b = true → lexZ b a = false
  | [], [], h => by cases h
  | [], _ :: _, _ => rfl
  | _ :: _, [], h => by cases h
  | p :: r, q :: t, h => by
    rw [lexZ] at h ⊢
    by_cases e : p = q
    · rw [if_pos e] at h
      rw [if_pos e.symm]
      exact lexZ_asym h
    · rw [if_neg e, decide_eq_true_eq] at h
      rw [if_neg (fun g => e g.symm), decide_eq_false_iff_not]
      omega
theorem lexZ_tr : ∀ {x y z : List Int}, lexZ y x = false → lexZ z y = false → lexZ z x = false
  | [], _, [], _, _ => rfl
  | [], _, _ :: _, _, _ => rfl
  | _ :: _, [], _, h, _ => by cases h
  | _ :: _, _ :: _, [], _, h => by cases h
  | p :: r, q :: t, w :: u, h1, h2 => by
    rw [lexZ] at h1 h2 ⊢
    by_cases e1 : q = p
    · rw [if_pos e1] at h1
      by_cases e2 : w = q
      · rw [if_pos e2] at h2
        rw [if_pos (e2.trans e1)]
        exact lexZ_tr h1 h2
      · rw [if_neg e2] at h2
        rw [if_neg (fun g => e2 (g.trans e1.symm)), ← e1]
        exact h2
    · rw [if_neg e1, decide_eq_false_iff_not] at h1
      by_cases e2 : w = q
      · rw [e2, if_neg e1, decide_eq_false_iff_not]
        exact h1
      · rw [if_neg e2, decide_eq_false_iff_not] at h2
        rw [if_neg (by omega), decide_eq_false_iff_not]
        omega
section
open PyProof.Rows Srt SrtO
variable {prog : Program} {w : World} {A : Around} {E : Value → Shared → Prop} {s : Shared}
end
abbrev ltZ (k : V → List Int) (x y : V) : Bool := lexZ (k x) (k y)
def rSortedZ (K : PySem.W.Frag) : List V → Hp → VK → Prop := fun vs H Q => ∃ (a : Addr) (xs : List V) (k : V → List Int) (d : Nat), 1 ≤ d ∧ vs = [V.ref a] ∧ SqL K H a xs ∧ (∀ x ∈ xs, ∃ t, x = V.ref t ∧ H t = some (.tup ((k x).map V.int)) ∧ (k x).length = d) ∧
  ∀ ys p, SrtO.Srtd (ltZ k) ys → SrtO.Stb (ltZ k) ys xs → H p = none → Q (.ref p) (upd H p (.lst ys))
section
variable {X : Cx}
end
def tupZ (z : List Int) : D := .tup (z.map D.int)
def zsOf : List D → Option (List (List Int))
  | [] => some []
  | .tup ds :: r => (intsOf ds).bind fun z => (zsOf r).map fun l => z :: l
  | _ => none
def insZ (x : List Int) : List (List Int) → List (List Int)
  | [] => [x]
  | y :: r => if lexZ y x = true then y :: insZ x r else x :: y :: r
def sortZ : List (List Int) → List (List Int)
  | [] => []
  | x :: r => insZ x (sortZ r)
abbrev RisZ (l : List (List Int)) : Prop := l.Pairwise fun x y => lexZ y x = false
def oneLen : List (List Int) → Bool
  | [] => true
  | z :: r => decide (1 ≤ z.length) && r.all fun y => decide (y.length = z.length)
def fSortedZ : List D → Option O
  | [.lst ds] => (zsOf ds).bind fun zs => if oneLen zs = true then some (.o (.lst ((sortZ zs).map tupZ))) else none
  | _ => none
def ivZ : V → Int
  | .int i => i
  | _ => 0
def zV (H : Hp) : V → List Int
  | .ref t => match H t with
    | some (.tup xs) => xs.map ivZ
    | _ => []
  | _ => []
section
variable {K : PySem.W.Frag} {F F' : Fz T} {H H' : Hp} {v : V}
end
section
variable {T : List (Addr × Str)} {X : Cx} {E : Ex T} {G : Gl5} {k : Nat} {N : List Str} {sc : Scope} {fnb : Str → Bool} {e : PySem.Expr} {es : List PySem.Expr} {p pos : Pos}
end
end Pd

set_option Elab.async false
set_option linter.all false
set_option maxRecDepth 100000
set_option maxHeartbeats 1000000
namespace Pd
open PySem PySem.Spec L2 Pr
def absS (cs : List Int) : Nat := (cs.map Int.natAbs).sum
def okC (m l : Nat) (c : Int) : Prop := 2 * l = m → c = 0 ∨ c = 1
def GoodC (m : Nat) : List Nat → List Int → Prop
  | [], [] => True
  | l :: ls, c :: cs => okC m l c ∧ GoodC m ls cs
  | [], _ :: _ => False
  | _ :: _, [] => False
section
variable (m s : Nat)
def loC (l g : Nat) : Int := if 2 * l = m then 0 else -((s - g : Nat) : Int)
def cnC (l g : Nat) : Nat := if 2 * l = m then min 1 (s - g) + 1 else 2 * (s - g) + 1
def cwP (l : Nat) (p : List Int × Nat) : List (List Int × Nat) := (rgZ (loC m s l p.2) (cnC m s l p.2)).map fun c => (p.1 ++ [c], p.2 + c.natAbs)
def cwS (l : Nat) (f : List (List Int × Nat)) : List (List Int × Nat) := f.flatMap (cwP m s l)
def cwA (a : List Nat) : List (List Int × Nat) := a.foldl (fun f l => cwS m s l f) [([], 0)]
variable {m s}
def Bn : Nat → Nat → Nat
  | 0, _ => 1
  | j + 1, r => Bn j r + 2 * ((List.range r).map fun x => Bn j (r - (x + 1))).sum
def Wt (s j : Nat) (f : List (List Int × Nat)) : Nat := (f.map fun p => Bn j (s - p.2)).sum
def q2 : Nat → Nat
  | 0 => 1
  | r + 1 => (2 * (r + 1) + 1) + (2 * r + 1) + q2 r
def q3 : Nat → Nat
  | 0 => 1
  | r + 1 => q2 (r + 1) + q2 r + q3 r
def q4 : Nat → Nat
  | 0 => 1
  | r + 1 => q3 (r + 1) + q3 r + q4 r
end
section
variable {m : Nat} {ls : List Nat}
def posZ (m : Nat) (z : Int) : Nat := (z % (m : Int)).toNat
end
end Pd

set_option Elab.async false
set_option linter.all false
set_option maxRecDepth 100000
set_option maxHeartbeats 1000000
namespace Pr
open PySem PySem.Spec L2 Pd
def f_counts_with : Gm → R Out := sSeq (sSet false 2 (eLst (seqR [vl (eTup (seqR [vl (eTup (seqR [])), vl (eC (.int 0))]))])))
  (sSeq (sFor (iF (vl (e2 dIx (rVar 0) (rd (eC (.int 1)))))) (.nm 3) (sSeq (sSet true 4 (eLst (seqR [])))
  (sSeq (sFor (iF (vl (eVar 2))) (.tp [.nm 5, .nm 6]) (sSeq (sSet false 7 (eIf (isB (e2 (dCmp .Eq) (rd (e2 (dBin .Mult) (rd (eC (.int 2))) (rVar 3))) (rd (e2 dIx (rVar 0) (rd (eC (.int 0))))))) (eCall fMin (seqR [rd (eC (.int 1)), rd (e2 (dBin .Sub) (rVar 1) (rVar 6))])) (e2 (dBin .Sub) (rVar 1) (rVar 6))))
  (sSeq (sSet false 8 (eCall fMax (seqR [rd (e2 (dBin .Sub) (rd (eC (.int 0))) (rVar 7)), rd (eUser d_least_count (seqR [uVar 0, uVar 3]))])))
  (sSeq (sExt 4 (rd (eLc (iOf rngF2 (seqR [rVar 8, rd (e2 (dBin .Add) (rVar 7) (rd (eC (.int 1))))])) (.nm 9) ((fun _ => .ok true)) (vl (eTup (seqR [vl (e2 (dBin .Add) (rVar 5) (rd (eTup (seqR [vl (eVar 9)])))), vl (e2 (dBin .Add) (rVar 6) (rd (eCall fAbs (seqR [rVar 9]))))]))) ([9]))))
  (sNext)))))
  (sSeq ((fun Γ => (sSet false 2 (eVar 4)) (frz [4] Γ)))
  (sNext)))))
  (sSeq (sRet (eLc (iF (rVar 2)) (.tp [.nm 5, .nm 6]) (isB (e2 (dCmp .Eq) (rVar 6) (rVar 1))) (vl (eVar 5)) ([5, 6])))
  (sNext)))
def d_counts_with : List Sl → R O := defF 8 f_counts_with
def f_least_counts : Gm → R Out := sSeq (sSet false 3 (e2 (dBin .Mod) (rd (e2 (dBin .Sub) (rVar 2) (rVar 1))) (rd (e2 dIx (rVar 0) (rd (eC (.int 0)))))))
  (sSeq (sSet false 4 (e2 dIx (rd (eUser d_steps_of (seqR [uVar 0]))) (rVar 3)))
  (sSeq (sIf (isB (e2 (dCmp .Is) (rVar 4) (rd (eC .non)))) (sSeq (sRet (eLst (seqR [])))
  (sNext)) (sNext))
  (sSeq (sRet (eCall fSortedZ (seqR [rd (eLc (iF (rd (eUser d_counts_with (seqR [uVar 0, uVar 4])))) (.nm 5) (isB (e2 (dCmp .Eq) (rd (eUser d_led_by (seqR [uVar 0, uVar 5]))) (rVar 3))) (vl (eVar 5)) ([5]))])))
  (sNext))))
def d_least_counts : List Sl → R O := defF 3 f_least_counts
def f_all_counts : Gm → R Out := sSeq (sExpr (rd (eUser d_need_two (seqR [uVar 0, uVar 1, uVar 2]))))
  (sSeq (sRet (eUser d_least_counts (seqR [uVar 0, uVar 1, uVar 2])))
  (sNext))
def d_all_counts : List Sl → R O := defF 0 f_all_counts
def f_best_counts : Gm → R Out := sSeq (sExpr (rd (eUser d_need_two (seqR [uVar 0, uVar 1, uVar 2]))))
  (sSeq (sSet false 3 (eUser d_least_counts (seqR [uVar 0, uVar 1, uVar 2])))
  (sSeq (sRet (eIf (isB (e2 (dCmp .NotEq) (rVar 3) (rd (eLst (seqR []))))) (e2 dIx (rVar 3) (rd (eC (.int 0)))) (eC .non)))
  (sNext)))
def d_best_counts : List Sl → R O := defF 1 f_best_counts
end Pr
namespace Pd
open PySem PySem.Spec L2 Pr
def prD (p : List Int × Nat) : D := .tup [tupZ p.1, .int (p.2 : Nat)]
def zsW (m s : Nat) (ls : List Nat) : List (List Int) := ((cwA m s ls).filter fun p => decide (p.2 = s)).map (·.1)
section
variable {m : Nat} {ls : List Nat}
def zsP (m : Nat) (ls : List Nat) (s q : Nat) : List (List Int) := (zsW m s ls).filter fun cs => decide (dot ls cs % (m : Int) = (q : Int))
def leastZ (m : Nat) (ls : List Nat) (q : Nat) : Option Nat → List (List Int)
  | none => []
  | some t => sortZ (zsP m ls t q)
def hdZ : List (List Int) → D
  | [] => .non
  | z :: _ => tupZ z
theorem lay_Z (l : List (List Int)) : purD (.lst (l.map tupZ)) = true ∧ depD (.lst (l.map tupZ)) ≤ 64 := by
  have h1 : ∀ z : List Int, purDs (z.map D.int) = true ∧ depDs (z.map D.int) = 0 := fun z => ⟨pur_iD z, dep_iD z⟩
  have h2 : purDs (l.map tupZ) = true ∧ depDs (l.map tupZ) ≤ 1 := by
    induction l with
    | nil => exact ⟨rfl, by decide⟩
    | cons z l ih =>
      obtain ⟨k1, k2⟩ := h1 z
      constructor
      · show (purDs (z.map D.int) && purDs (l.map tupZ)) = true
        rw [k1, ih.1]
        rfl
      · show max (depDs (z.map D.int) + 1) (depDs (l.map tupZ)) ≤ 1
        have := ih.2
        omega
  exact ⟨by rw [purD]; exact h2.1, by rw [depD]; omega⟩
end
end Pd

set_option Elab.async false
set_option linter.all false
set_option maxRecDepth 100000
set_option maxHeartbeats 1000000
namespace Pd
open PySem PySem.Spec L2 Pr
def Bin : Nat → Nat → Nat
  | _, 0 => 1
  | 0, _ + 1 => 0
  | n + 1, k + 1 => Bin n k + Bin n (k + 1)
def ordA : Nat → List Int → Nat
  | _, [] => 1
  | S, c :: cs => Bin (S + c.natAbs) c.natAbs * ordA (S + c.natAbs) cs
def dec1 (c : Int) : Int := if 0 < c then c - 1 else c + 1
def decs : List Int → List (List Int)
  | [] => []
  | c :: cs => (if c = 0 then [] else [dec1 c :: cs]) ++ (decs cs).map (c :: ·)
section
variable {m : Nat} {ls : List Nat}
end
end Pd

set_option Elab.async false
set_option linter.all false
set_option maxRecDepth 100000
set_option maxHeartbeats 1000000
namespace Pd
open PySem PySem.Spec L2
def ltAt (ps : List PyData) (i j : Nat) : Bool := PySem.W.dataLt (ps.getD i .none) (ps.getD j .none)
section
open PySem.W PyProof.Rows
variable {prog : Program} {w : World} {A : Around} {E : Value → Shared → Prop} {s : Shared}
theorem min_rawD {l : Addr} {vs : Array Value} {x : PyData} {xs : List PyData} {as : List Addr} {Q : Value → Shared → Prop} (hh : A.handled = none) (hl : s.heap.IsList l vs) (hr : ReadsAll s.heap vs.toList (x :: xs) as) (ha : AlikeAll (x :: xs)) (hu : A.units + 1 + PyData.depthAll (x :: xs) < cLine)
    (h : ∀ v h' tk, vs[argBest (ltAt (x :: xs)) xs.length]? = some v → (∀ b o, s.heap.get? b = some o → h'.get? b = some o) → Q v { s with heap := h', toks := tk }) :
    wpAny (model prog w) A (call (.builtin "min") [.ref l]) Q E s := by
  have hn : vs.size = xs.length + 1 := readsAll_len hr
  refine call_min_walkH (iter_listW (A := A.in1) hh hl fun s₂ e W st hfp hw hk => ?_)
  refine ⟨_, _, _, _, _, _, _, s.heap, _, rfl, W, st, hfp, by omega, hw, hk, cmpIn_lt (A := A.in1) hr ha (by show A.units + 1 + _ < _; exact hu), fun v s' hP m => ?_⟩
  obtain ⟨h', tk, rfl, hk'⟩ := moved_old e rfl m
  have e1 : vs.size - 1 = xs.length := by omega
  rw [e1] at hP
  exact h v h' tk hP hk'
end
def rMinD2 (K : PySem.W.Frag) : List V → Hp → VK → Prop := fun vs H Q => ∃ (a : Addr) (xs : List V) (p : PyData) (ps : List PyData), vs = [V.ref a] ∧ SqL K H a xs ∧ DpAll K H xs (p :: ps) ∧ PySem.W.AlikeAll (p :: ps) ∧ PyData.depthAll (p :: ps) < 60 ∧
  ∀ x, xs[PySem.argBest (ltAt (p :: ps)) ps.length]? = some x → Q x H
theorem cr_minD2 {X : Cx} (hc : X.calm = true) (hu : X.A.units + 100 < cLine) : CallR X (.builtin "min") (rMinD2 X.K) := by
  intro pins s σ H vs us Q I r h
  obtain ⟨a, xs, p, ps, rfl, hs, hd, ha, hdep, q⟩ := h
  obtain ⟨its, rv, hl, _⟩ := I.list hs
  rw [Vals.ref1 r]
  obtain ⟨as, hr⟩ := Dp.readsAll I (p :: ps) xs its hd rv
  refine min_rawD (I.ok.hd hc) hl.isList (show ReadsAll s.heap its.toArray.toList (p :: ps) as from hr) ha (by omega) fun v h' tk hv hk => ?_
  have hv' : its[PySem.argBest (ltAt (p :: ps)) ps.length]? = some v := by simpa using hv
  cases hx : xs[PySem.argBest (ltAt (p :: ps)) ps.length]? with
  | none =>
    rw [Vals.none_of rv hx] at hv'
    cases hv'
  | some y =>
    obtain ⟨u, h1, h2⟩ := Vals.get rv hx
    rw [hv'] at h1
    cases h1
    exact ⟨y, H, I.kept hk, h2, q y hx⟩
def okMin (ds : List D) : Bool := ds.all (fun x => ds.all fun y => PySem.W.alike (pyD x) (pyD y)) && ds.all (fun x => match x with | .tup _ => true | _ => false) && PyData.canLayAll0 (pyDs ds) && decide (PyData.depthAll (pyDs ds) < 60)
theorem pyDs_map : ∀ ds : List D, pyDs ds = ds.map pyD
  | [] => rfl
  | d :: ds => by rw [pyDs, pyDs_map ds]; rfl
def fMinD : List D → Option O
  | [.lst ds] => if ds = [] then none else if okMin ds = true then (ds[PySem.argBest (ltAt (pyDs ds)) (ds.length - 1)]?).map .v else none
  | _ => none
theorem okMin_alike {ds : List D} (h : okMin ds = true) : PySem.W.AlikeAll (pyDs ds) ∧ PyData.canLayAll0 (pyDs ds) = true ∧ PyData.depthAll (pyDs ds) < 60 := by
  unfold okMin at h
  rw [Bool.and_eq_true, Bool.and_eq_true, Bool.and_eq_true, decide_eq_true_eq, List.all_eq_true, List.all_eq_true] at h
  obtain ⟨⟨⟨h1, h2⟩, h3⟩, h4⟩ := h
  refine ⟨⟨fun x hx y hy => ?_, fun x hx => ?_⟩, h3, h4⟩
  · rw [pyDs_map] at hx hy
    obtain ⟨a, ha, rfl⟩ := List.mem_map.mp hx
    obtain ⟨b, hb, rfl⟩ := List.mem_map.mp hy
    exact List.all_eq_true.mp (h1 a ha) b hb
  · rw [pyDs_map] at hx
    obtain ⟨a, ha, rfl⟩ := List.mem_map.mp hx
    have := h2 a ha
    cases a with
    | tup es => rw [pyD]; intro e; cases e
    | _ => cases this
theorem cd_minD2 {K : PySem.W.Frag} : CallD K (rMinD2 K) fMinD := fun xs ds o F H Q s cs eo q => by
  unfold fMinD at eo
  split at eo
  · rename_i ds
    obtain ⟨x, rfl, c⟩ := cs.one
    obtain ⟨a, ys, rfl, hH, r, l⟩ := c.lst s
    split at eo
    · cases eo
    · rename_i hne
      split at eo
      · rename_i hok
        obtain ⟨h1, h2, h3⟩ := okMin_alike hok
        obtain ⟨d, hd, rfl⟩ := Option.map_eq_some_iff.mp eo
        cases ds with
        | nil => exact absurd rfl hne
        | cons d0 dr =>
          have hl : (pyDs dr).length = (d0 :: dr).length - 1 := by rw [pyDs_map, List.length_map]; rfl
          refine ⟨a, ys, pyD d0, pyDs dr, rfl, .of hH, Reps.dp s r h2, h1, h3, fun y hy => ?_⟩
          rw [hl] at hy
          obtain ⟨v, hv, rr⟩ := Reps.get r hd
          have e : v = y := by
            have hv' : ys[PySem.argBest (ltAt (pyD d0 :: pyDs dr)) ((d0 :: dr).length - 1)]? = some v := hv
            rw [hv'] at hy
            exact Option.some.inj hy
          subst e
          exact q _ F H (.refl s) rr
      · cases eo
  · cases eo
section
variable {T : List (Addr × Str)} {X : Cx} {E : Ex T} {G : Gl5} {k : Nat} {N : List Str} {sc : Scope} {fnb : Str → Bool} {e : PySem.Expr} {es : List PySem.Expr} {p pos : Pos}
theorem c_minD (C : Cok X E G k N sc fnb) {fs : List (Gm → R D)} (h : gloB sc "min" = true) (hb : BltG G "min") (ha : SRs X E (e :: es) fs) : SE X E (.Call (.Name "min" p) (e :: es) [] pos) (eCall fMinD (seqR fs)) :=
  se_call (.inl ⟨_, _, by decide +kernel, cr_minD2 C.calm C.hu, cd_minD2⟩) (by decide) (by decide) (C.glo h).1 (C.no hb) ha
end
theorem sb_stuck {T : List (Addr × Str)} {X : Cx} {E : Ex T} {ss : List Stmt} : SB X E ss (fun _ => .stuck) := ⟨fun _ _ _ => False, ⟨fun _ _ _ _ _ _ h => h.elim⟩, fun _ _ _ _ _ _ _ _ h => h⟩
def wD (q : Int × List Int) : D := .tup [.int q.1, tupZ q.2]
def ltW (a b : Int × List Int) : Bool := if a.1 = b.1 then lexZ a.2 b.2 else decide (a.1 < b.1)
theorem alike_ints : ∀ a b : List Int, PySem.W.alikeAll (pyDs (a.map D.int)) (pyDs (b.map D.int)) = true
  | [], b => by rw [List.map_nil, pyDs]; unfold PySem.W.alikeAll; rfl
  | x :: a, [] => by rw [List.map_nil, pyDs, List.map_cons, pyDs, pyD]; unfold PySem.W.alikeAll; rfl
  | x :: a, y :: b => by
    rw [List.map_cons, pyDs, pyD, List.map_cons, pyDs, pyD]
    unfold PySem.W.alikeAll
    rw [alike_ints a b]
    unfold PySem.W.alike
    rfl
theorem alike_wD (a b : Int × List Int) : PySem.W.alike (pyD (wD a)) (pyD (wD b)) = true := by
  unfold wD tupZ
  simp only [pyD, pyDs, PySem.W.alike, PySem.W.alikeAll, alike_ints, Bool.and_self]
theorem lay_ints : ∀ a : List Int, PyData.canLayAll0 (pyDs (a.map D.int)) = true
  | [] => by simp [pyDs, PyData.canLayAll0]
  | x :: a => by
    rw [List.map_cons, pyDs, pyD]
    simp [PyData.canLayAll0, PyData.canLay0, lay_ints a]
theorem lay_wD (q : Int × List Int) : (pyD (wD q)).canLay0 = true := by
  unfold wD tupZ
  simp [pyD, pyDs, PyData.canLay0, PyData.canLayAll0, lay_ints]
theorem lay_wDs : ∀ ws : List (Int × List Int), PyData.canLayAll0 (pyDs (ws.map wD)) = true
  | [] => by simp [pyDs, PyData.canLayAll0]
  | q :: ws => by
    rw [List.map_cons, pyDs]
    simp [PyData.canLayAll0, lay_wDs ws, lay_wD q]
theorem dep_ints : ∀ a : List Int, PyData.depthAll (pyDs (a.map D.int)) = 0
  | [] => by simp [pyDs, PyData.depthAll]
  | x :: a => by
    rw [List.map_cons, pyDs, pyD]
    simp [PyData.depthAll, PyData.depth, dep_ints a]
theorem dep_wD (q : Int × List Int) : (pyD (wD q)).depth = 2 := by
  unfold wD tupZ
  simp [pyD, pyDs, PyData.depth, PyData.depthAll, dep_ints]
theorem dep_wDs : ∀ ws : List (Int × List Int), PyData.depthAll (pyDs (ws.map wD)) ≤ 2
  | [] => by simp [pyDs, PyData.depthAll]
  | q :: ws => by
    rw [List.map_cons, pyDs]
    have := dep_wDs ws
    simp only [PyData.depthAll, dep_wD q]
    omega
theorem okMin_wD (ws : List (Int × List Int)) : okMin (ws.map wD) = true := by
  unfold okMin
  rw [Bool.and_eq_true, Bool.and_eq_true, Bool.and_eq_true, decide_eq_true_eq]
  refine ⟨⟨⟨?_, ?_⟩, lay_wDs ws⟩, by have := dep_wDs ws; omega⟩
  · refine List.all_eq_true.mpr fun x hx => List.all_eq_true.mpr fun y hy => ?_
    obtain ⟨a, _, rfl⟩ := List.mem_map.mp hx
    obtain ⟨b, _, rfl⟩ := List.mem_map.mp hy
    exact alike_wD a b
  · refine List.all_eq_true.mpr fun x hx => ?_
    obtain ⟨a, _, rfl⟩ := List.mem_map.mp hx
    rfl
theorem lt_inl {x y : Int} : PySem.W.dataLt (.int x) (.int y) = decide (x < y) := by
  unfold PySem.W.dataLt
  simp only [PySem.W.keyToks]
  by_cases e : x = y
  · subst e
    rw [PyProof.Rows.lex_irrefl]
    simp
  · rw [PyProof.Rows.lex_diff (O := PyProof.Rows.itemOrd) (fun h => e (Sum.inl.inj h))]
    rfl
theorem eqv_int (x y : Int) : PyData.eqv (.int x) (.int y) = decide (x = y) := by
  by_cases e : x = y
  · subst e; simp [PyData.eqv]
  · simp [PyData.eqv, e]
theorem lexI : ∀ {a b : List Int}, a.length = b.length → PyProof.Rows.lexLt PyProof.Rows.itemOrd (PySem.W.keyToksAll (pyDs (a.map D.int))) (PySem.W.keyToksAll (pyDs (b.map D.int))) = lexZ a b
  | [], [], _ => PyProof.Rows.lex_irrefl (O := PyProof.Rows.itemOrd) _
  | [], _ :: _, h => by simp at h
  | _ :: _, [], h => by simp at h
  | x :: a, y :: b, h => by
    have h' : a.length = b.length := by simpa using h
    have al : PySem.W.alike (.int x) (.int y) = true := by unfold PySem.W.alike; rfl
    rw [List.map_cons, pyDs, pyD, List.map_cons, pyDs, pyD, lexZ]
    by_cases e : x = y
    · rw [if_pos e, PySem.W.dataLt_all_yes al (by rw [eqv_int]; exact decide_eq_true e), lexI h']
    · rw [if_neg e, PySem.W.dataLt_all_no al (by rw [eqv_int]; exact decide_eq_false e), lt_inl]
theorem lt_wD {a b : Int × List Int} (h : a.2.length = b.2.length) : PySem.W.dataLt (pyD (wD a)) (pyD (wD b)) = ltW a b := by
  have al : PySem.W.alike (.int a.1) (.int b.1) = true := by unfold PySem.W.alike; rfl
  have al2 : PySem.W.alike (.tuple (pyDs (a.2.map D.int))) (.tuple (pyDs (b.2.map D.int))) = true := by unfold PySem.W.alike; exact alike_ints a.2 b.2
  unfold wD tupZ ltW
  rw [pyD, pyD, PySem.W.dataLt_tuple, pyDs, pyDs, pyD, pyD, pyDs, pyDs, pyDs, pyD, pyDs, pyD]
  by_cases e : a.1 = b.1
  · rw [if_pos e, PySem.W.dataLt_all_yes al (by rw [eqv_int]; exact decide_eq_true e)]
    cases q : PyData.eqv (.tuple (pyDs (a.2.map D.int))) (.tuple (pyDs (b.2.map D.int))) with
    | true =>
      rw [PySem.W.dataLt_all_yes al2 q, PyProof.Rows.lex_irrefl]
      have q' := (PySem.W.toks_eqv _ _ al2).1 q
      simp only [PySem.W.keyToks] at q'
      rw [← lexI h, q', PyProof.Rows.lex_irrefl]
    | false =>
      rw [PySem.W.dataLt_all_no al2 q, PySem.W.dataLt_tuple, lexI h]
  · rw [if_neg e, PySem.W.dataLt_all_no al (by rw [eqv_int]; exact decide_eq_false e), lt_inl]
theorem best_least {bt : Nat → Nat → Bool} (asym : ∀ i j, bt i j = true → bt j i = false) (tr : ∀ i j l, bt j i = false → bt l j = false → bt l i = false) : ∀ n, PySem.argBest bt n ≤ n ∧ ∀ i, i ≤ n → bt i (PySem.argBest bt n) = false
  | 0 => ⟨Nat.le_refl _, fun i hi => by
    obtain rfl : i = 0 := by omega
    show bt 0 0 = false
    cases h : bt 0 0 with
    | false => rfl
    | true => have := asym 0 0 h; rw [h] at this; exact this⟩
  | n + 1 => by
    obtain ⟨h1, h2⟩ := best_least asym tr n
    have self : bt (n + 1) (n + 1) = false := by
      cases h : bt (n + 1) (n + 1) with
      | false => rfl
      | true => have := asym _ _ h; rw [h] at this; exact this
    rw [PySem.argBest]
    split
    · rename_i hb
      refine ⟨Nat.le_refl _, fun i hi => ?_⟩
      by_cases e : i = n + 1
      · rw [e]; exact self
      · exact tr _ (PySem.argBest bt n) i (asym _ _ hb) (h2 i (by omega))
    · rename_i hb
      refine ⟨by omega, fun i hi => ?_⟩
      by_cases e : i = n + 1
      · rw [e]; exact Bool.eq_false_iff.mpr hb
      · exact h2 i (by omega)
theorem ltW_asym {a b : Int × List Int} (h : ltW a b = true) : ltW b a = false := by
  unfold ltW at h ⊢
  by_cases e : a.1 = b.1
  · rw [if_pos e] at h
    rw [if_pos e.symm]
    exact lexZ_asym h
  · rw [if_neg e, decide_eq_true_eq] at h
    rw [if_neg (fun g => e g.symm), decide_eq_false_iff_not]
    omega
theorem ltW_tr {x y z : Int × List Int} (h1 : ltW y x = false) (h2 : ltW z y = false) : ltW z x = false := by
  unfold ltW at h1 h2 ⊢
  by_cases e1 : y.1 = x.1
  · rw [if_pos e1] at h1
    by_cases e2 : z.1 = y.1
    · rw [if_pos e2] at h2
      rw [if_pos (e2.trans e1)]
      exact lexZ_tr h1 h2
    · rw [if_neg e2] at h2
      rw [if_neg (fun g => e2 (g.trans e1.symm)), ← e1]
      exact h2
  · rw [if_neg e1, decide_eq_false_iff_not] at h1
    by_cases e2 : z.1 = y.1
    · rw [e2, if_neg e1, decide_eq_false_iff_not]
      exact h1
    · rw [if_neg e2, decide_eq_false_iff_not] at h2
      rw [if_neg (by omega), decide_eq_false_iff_not]
      omega
theorem min_w {ws : List (Int × List Int)} {k : Nat} (hne : ws ≠ []) (hk : ∀ q ∈ ws, q.2.length = k) : ∃ m, m ∈ ws ∧ (∀ q ∈ ws, ltW q m = false) ∧ fMinD [.lst (ws.map wD)] = some (.v (wD m)) := by
  have hpos : 0 < ws.length := List.length_pos_iff.mpr hne
  let bt : Nat → Nat → Bool := fun i j => ltW (ws.getD i (0, [])) (ws.getD j (0, []))
  have hb := best_least (bt := bt) (fun i j h => ltW_asym h) (fun i j l h1 h2 => ltW_tr h1 h2)
  have same : ∀ n, n < ws.length → PySem.argBest (ltAt (pyDs (ws.map wD))) n = PySem.argBest bt n := by
    intro n
    induction n with
    | zero => intro _; rfl
    | succ n ih =>
      intro hn
      have ih := ih (by omega)
      have hle := (hb n).1
      rw [PySem.argBest, PySem.argBest, ih]
      have e : ltAt (pyDs (ws.map wD)) (n + 1) (PySem.argBest bt n) = bt (n + 1) (PySem.argBest bt n) := by
        show PySem.W.dataLt _ _ = ltW _ _
        have g : ∀ i, i < ws.length → (pyDs (ws.map wD)).getD i .none = pyD (wD (ws.getD i (0, []))) ∧ ws.getD i (0, []) ∈ ws := by
          intro i hi
          rw [pyDs_map]
          simp [List.getD, hi]
        obtain ⟨g1, m1⟩ := g (n + 1) hn
        obtain ⟨g2, m2⟩ := g (PySem.argBest bt n) (by omega)
        rw [g1, g2]
        exact lt_wD (by rw [hk _ m1, hk _ m2])
      rw [e]
  have e0 := same (ws.length - 1) (by omega)
  obtain ⟨b1, b2⟩ := hb (ws.length - 1)
  have hlt : PySem.argBest bt (ws.length - 1) < ws.length := by omega
  have gd : ∀ i (hi : i < ws.length), ws.getD i (0, []) = ws[i] := fun i hi => by simp [List.getD, hi]
  refine ⟨ws[PySem.argBest bt (ws.length - 1)], List.getElem_mem _, fun q hq => ?_, ?_⟩
  · obtain ⟨i, hi, rfl⟩ := List.mem_iff_getElem.mp hq
    have h3 : ltW (ws.getD i (0, [])) (ws.getD (PySem.argBest bt (ws.length - 1)) (0, [])) = false := b2 i (by omega)
    rw [gd _ hi, gd _ hlt] at h3
    exact h3
  · unfold fMinD
    dsimp only
    rw [if_neg (by simpa using hne), if_pos (okMin_wD ws), List.length_map, e0]
    simp [hlt]
end Pd

set_option Elab.async false
set_option linter.all false
set_option maxRecDepth 100000
set_option maxHeartbeats 1000000
namespace Pd
open PySem PySem.Spec L2 Pr
def tN (s : List Nat) : D := .tup (nD s)
def rgN (lo M : Nat) : List Nat := (List.range (M + 1 - lo)).map fun i => lo + i
def allN (M : Nat) : Nat → Nat → List (List Nat)
  | 0, _ => [[]]
  | k + 1, lo => (rgN lo M).flatMap fun x => (allN M k (x + 1)).map fun s => x :: s
def nxN (lo : Nat) (s : List Nat) : Nat := match s.getLast? with
  | none => lo
  | some y => y + 1
def stepN (M lo : Nat) (L : List (List Nat)) : List (List Nat) := L.flatMap fun s => (rgN (nxN lo s) M).map fun x => s ++ [x]
theorem rgN_mem {lo M x : Nat} : x ∈ rgN lo M ↔ lo ≤ x ∧ x ≤ M := by
  unfold rgN
  rw [List.mem_map]
  constructor
  · rintro ⟨i, hi, rfl⟩
    have := List.mem_range.mp hi
    omega
  · intro h
    exact ⟨x - lo, List.mem_range.mpr (by omega), by omega⟩
theorem rgN_len (lo M : Nat) : (rgN lo M).length = M + 1 - lo := by unfold rgN; rw [List.length_map, List.length_range]
theorem nxN_cons (lo x : Nat) (s : List Nat) : nxN lo (x :: s) = nxN (x + 1) s := by
  unfold nxN
  cases s with
  | nil => rfl
  | cons y s => rw [List.getLast?_cons_cons]; cases h : (y :: s).getLast? with
    | none => simp at h
    | some z => rfl
theorem all_step (M : Nat) : ∀ k lo, allN M (k + 1) lo = stepN M lo (allN M k lo)
  | 0, lo => by
    unfold stepN
    rw [allN, allN, List.flatMap_singleton, show nxN lo [] = lo from rfl]
    simp only [allN, List.map_cons, List.map_nil, List.nil_append]
    induction rgN lo M with
    | nil => rfl
    | cons x r ih => rw [List.flatMap_cons, ih]; rfl
  | k + 1, lo => by
    rw [allN]
    have e : ∀ x, allN M (k + 1) (x + 1) = stepN M (x + 1) (allN M k (x + 1)) := fun x => all_step M k (x + 1)
    simp only [e]
    conv => rhs; rw [allN]
    unfold stepN
    rw [List.flatMap_assoc]
    congr 1
    funext x
    rw [List.map_flatMap, List.flatMap_map]
    congr 1
    funext s
    rw [nxN_cons, List.map_map]
    rfl
theorem all_mem {M : Nat} : ∀ {k lo : Nat} {s : List Nat}, s ∈ allN M k lo → s.length = k ∧ s.Pairwise (· < ·) ∧ ∀ x ∈ s, lo ≤ x ∧ x ≤ M
  | 0, lo, s, h => by
    rw [allN, List.mem_singleton] at h
    subst h
    exact ⟨rfl, .nil, fun x hx => absurd hx List.not_mem_nil⟩
  | k + 1, lo, s, h => by
    rw [allN, List.mem_flatMap] at h
    obtain ⟨x, hx, h⟩ := h
    obtain ⟨t, ht, rfl⟩ := List.mem_map.mp h
    obtain ⟨h1, h2, h3⟩ := all_mem ht
    have hx := rgN_mem.mp hx
    refine ⟨by rw [List.length_cons, h1], List.pairwise_cons.mpr ⟨fun y hy => by have := h3 y hy; omega, h2⟩, fun y hy => ?_⟩
    rcases List.mem_cons.mp hy with rfl | hy
    · exact hx
    · have := h3 y hy; omega
theorem mem_all {M : Nat} : ∀ {k lo : Nat} {s : List Nat}, s.length = k → s.Pairwise (· < ·) → (∀ x ∈ s, lo ≤ x ∧ x ≤ M) → s ∈ allN M k lo
  | 0, lo, s, h, _, _ => by
    rw [List.eq_nil_of_length_eq_zero h, allN]
    exact List.mem_singleton.mpr rfl
  | k + 1, lo, [], h, _, _ => by simp at h
  | k + 1, lo, x :: s, h, hp, hb => by
    have hp' := List.pairwise_cons.mp hp
    rw [allN, List.mem_flatMap]
    refine ⟨x, rgN_mem.mpr (hb x List.mem_cons_self), List.mem_map.mpr ⟨s, mem_all (by simpa using h) hp'.2 fun y hy => ⟨hp'.1 y hy, (hb y (List.mem_cons_of_mem _ hy)).2⟩, rfl⟩⟩
def zN (s : List Nat) : List Int := s.map fun n : Nat => (n : Int)
theorem tN_Z (s : List Nat) : tN s = tupZ (zN s) := by
  unfold tN tupZ zN
  rw [nD_iD]
  rfl
theorem all_ris {M : Nat} : ∀ k lo : Nat, (allN M k lo).Pairwise fun a b => lexZ (zN a) (zN b) = true
  | 0, lo => by rw [allN]; exact List.pairwise_singleton _ _
  | k + 1, lo => by
    rw [allN, List.pairwise_flatMap]
    refine ⟨fun x _ => ?_, ?_⟩
    · rw [List.pairwise_map]
      refine (all_ris k (x + 1)).imp fun {a b} h => ?_
      show lexZ ((x : Int) :: zN a) ((x : Int) :: zN b) = true
      rw [lexZ, if_pos rfl]
      exact h
    · unfold rgN
      rw [List.pairwise_map]
      refine List.pairwise_lt_range.imp fun {i j} h a ha b hb => ?_
      obtain ⟨a', _, rfl⟩ := List.mem_map.mp ha
      obtain ⟨b', _, rfl⟩ := List.mem_map.mp hb
      show lexZ (((lo + i : Nat) : Int) :: zN a') (((lo + j : Nat) : Int) :: zN b') = true
      rw [lexZ, if_neg (by omega), decide_eq_true_eq]
      omega
theorem sum_leA {α : Type} (f : α → Nat) (b : Nat) : ∀ l : List α, (∀ a ∈ l, f a ≤ b) → (l.map f).sum ≤ l.length * b
  | [], _ => by simp
  | a :: l, h => by
    have h1 := h a List.mem_cons_self
    have h2 := sum_leA f b l fun x hx => h x (List.mem_cons_of_mem _ hx)
    rw [List.map_cons, List.sum_cons, List.length_cons, Nat.succ_mul]
    omega
theorem all_len (M : Nat) : ∀ k lo, 1 ≤ lo → (allN M k lo).length ≤ M ^ k
  | 0, lo, _ => by rw [allN]; exact Nat.le_refl _
  | k + 1, lo, h => by
    rw [allN, List.length_flatMap]
    simp only [List.length_map]
    have h1 := sum_leA (fun x => (allN M k (x + 1)).length) (M ^ k) (rgN lo M) fun x _ => all_len M k (x + 1) (by omega)
    rw [rgN_len] at h1
    refine Nat.le_trans h1 ?_
    rw [Nat.pow_succ, Nat.mul_comm]
    exact Nat.mul_le_mul_left _ (by omega)
theorem all_small {M k lo : Nat} (hM : M ≤ 15) (hk : k ≤ 3) (h : 1 ≤ lo) : (allN M k lo).length ≤ 3375 := by
  refine Nat.le_trans (all_len M k lo h) (Nat.le_trans (Nat.pow_le_pow_left hM k) ?_)
  exact Nat.le_trans (Nat.pow_le_pow_right (by omega) hk) (by decide)
theorem rg_v {lo M : Nat} (h : M ≤ 100) (hl : lo ≤ 100) : rngF2 [.int (lo : Int), .int ((M : Int) + 1)] = .ok ((rgN lo M).map fun n : Nat => D.int (n : Int)) := by
  unfold rngF2
  dsimp only
  have h1 : smallI (lo : Int) = true := decide_eq_true ⟨by omega, by omega⟩
  have h2 : smallI ((M : Int) + 1) = true := decide_eq_true ⟨by omega, by omega⟩
  refine (if_pos ⟨h1, h2, by unfold line; omega⟩).trans ?_
  rw [show ((M : Int) + 1 - (lo : Int)).toNat = M + 1 - lo by omega, rngD_map]
  unfold rgN
  rw [List.map_map]
  rfl
theorem tN_inj {a b : List Nat} (h : tN a = tN b) : a = b := nD_inj (D.tup.inj h)
theorem add_tN {s t : List Nat} (h : s.length + t.length ≤ 1000) : dAdd (tN s) (tN t) = some (.v (tN (s ++ t))) := by
  unfold tN dAdd
  dsimp only
  rw [if_pos (by rw [len_nD, len_nD]; simp [line]; omega)]
  unfold nD
  rw [List.map_append]
theorem pur_tN (s : List Nat) : purD (tN s) = true := by unfold tN; rw [purD]; exact pur_nD s
theorem dep_tN (s : List Nat) : depD (tN s) ≤ 64 := by unfold tN; rw [depD, dep_nD]; omega
theorem some_last {s : List Nat} : (if s = [] then (0 : Int) else ((s.getLastD 0 : Nat) : Int)) + 1 = ((nxN 1 s : Nat) : Int) := by
  unfold nxN
  cases s with
  | nil => rfl
  | cons x s =>
    rw [if_neg (by simp)]
    cases h : (x :: s).getLast? with
    | none => simp at h
    | some y =>
      rw [List.getLastD_eq_getLast?, h]
      rfl
theorem last_tN {s : List Nat} (h : s ≠ []) : dIx (tN s) (.int (-1)) = some (.v (.int (s.getLastD 0 : Nat))) := by
  have hl : 0 < s.length := List.length_pos_iff.mpr h
  unfold dIx tN
  dsimp only
  have : atI (nD s) (-1) = some (.int (s.getLastD 0 : Nat)) := by
    have e : ixN (nD s).length (-1) = some (s.length - 1) := by
      unfold ixN
      rw [if_neg (by omega), if_pos (by rw [len_nD]; omega), len_nD]
      congr 1
      omega
    unfold atI
    rw [e]
    show (nD s)[s.length - 1]? = _
    unfold nD
    rw [List.getElem?_map, List.getElem?_eq_getElem (by omega)]
    show some (D.int ((s[s.length - 1] : Nat) : Int)) = _
    rw [List.getLastD_eq_getLast?, List.getLast?_eq_getElem?, List.getElem?_eq_getElem (by omega)]
    rfl
  rw [this]
  rfl
theorem picks_v {M k : Nat} (hM : M ≤ 15) (hk : k ≤ 3) : d_picks [.val (.int M), .val (.int k)] = .ok (.v (.lst ((allN M k 1).map tN))) := by
  unfold d_picks
  refine def_rt ?_
  unfold f_picks
  show sSeq _ _ [.val (.int M), .val (.int k), .un, .un, .un, .un, .un] = _
  have h0 : (allN M 0 1).map tN = [.tup []] := rfl
  refine seq_nx (Γ1 := [.val (.int M), .val (.int k), .val (.lst ((allN M 0 1).map tN)), .un, .un, .un, .un]) ?_ ?_
  · rw [h0]
    simp (implicitDefEqProofs := false) (disch := omega) only [↓r_seq, ↓r_next, ↓r_if, ↓r_eif, ↓r_set, ↓r_ret, ↓r_retV, ↓r_expr, ↓r_asg, ↓r_par, ↓r_app, ↓r_ext, ↓r_sto, ↓r_or1, ↓r_or, ↓r_and1, ↓r_and, ↓r_vor1, ↓r_vor, ↓r_vand1, ↓r_vand, ↓r_not, ↓r_tru, ↓r_isB, ↓r_eC, ↓r_rd, ↓r_vl, ↓r_rV, ↓r_eV, ↓r_uV, ↓r_uVl, ↓r_sq0, ↓r_sq, ↓r_e2, ↓r_e3, ↓r_call, ↓r_user, ↓r_enot, ↓r_eneg, ↓r_tup, ↓r_lst, ↓r_sl, ↓r_noP, ↓r_aP, ↓r_iOf, ↓r_iF, ↓r_def, ↓r_ref, r_seqNx, r_seqRt, r_seqBk, r_seqCt, r_ifT, r_ifF, r_setV, r_setOt, r_setOl, r_setOd, r_setOs, r_retK, r_retVv, r_retVo, r_asgK, r_tgN, r_tgT, r_tgL, r_tgs0, r_tgs, r_parK, r_ownL, r_ownLo, r_ownD, r_ownDo, r_appK, r_appJ, r_extK, r_extJ, r_stoK, r_stoI, r_stoJ, r_stoL, r_orT, r_orF, r_andT, r_andF, r_vorK, r_vorT, r_vorF, r_vandK, r_vandT, r_vandF, r_notK, r_truK, r_truB, r_truI, r_truL, r_truT, r_truN, r_isBK, r_rdV, r_rdO, r_dV, r_dO, r_valV, r_valL, r_valD, r_rVv, r_rVo, r_rVb, r_eVv, r_uVv, r_uVo, r_uVb, r_uVlK, r_sqK, r_consK, r_opK, r_opJ, r_chK, r_chJ, r_chT, r_chF, r_clK, r_ntK, r_ngK, r_tpK, r_lsK, r_slK, r_slJ, r_slI, r_slL, r_slT, r_aPK, r_sqL, r_sqT, r_sqS, r_rtR, r_rtN, r_refO, r_refE, r_wdK, r_bAdd, r_bSub, r_bMul, r_bDiv, r_bMod, r_bPow, r_cLt, r_cLe, r_cGt, r_cGe, r_cEq, r_cNe, r_ixL, r_ixT, r_of, r_lenL, r_lenT, r_lenS, Pd.R.bind_ok, Pd.R.bind_err, Pd.R.bind_stuck, noE_ok', mul_r, div_i, mod_i, add_i, sub_i, lt_i, le_i, gt_i, ge_i, eq_i, ne_i, pow18, List.cons_append, List.nil_append, List.getElem?_cons_zero, List.getElem?_cons_succ, List.replicate_succ, List.replicate_zero, List.set_cons_zero, List.set_cons_succ, List.length_cons, List.length_nil, if_true, if_false, Bool.not_true, Bool.not_false, Bool.false_eq_true, ↓reduceIte, Nat.reduceAdd, Nat.reduceLeDiff, Nat.reduceLT, Nat.zero_add, Option.map_some, Int.cast_ofNat_Int, Int.natCast_one, Int.natCast_zero, Int.reduceBEq, Int.reduceLT, Int.reduceLE, Int.reduceAdd, Int.reduceSub, Int.reduceMul, Int.reduceNeg, Int.reduceDiv, Int.reduceMod, decide_true, decide_false]
  refine seq_go (fun Γ => ∃ s3 s4 s5 s6, Γ = [.val (.int M), .val (.int k), .val (.lst ((allN M k 1).map tN)), s3, s4, s5, s6])
    (go_rng (fun i Γ => ∃ s3 s4 s5 s6, Γ = [.val (.int M), .val (.int k), .val (.lst ((allN M i 1).map tN)), s3, s4, s5, s6]) (n := k) ?_ ⟨_, _, _, _, rfl⟩ ?_) ?_
  · simp (implicitDefEqProofs := false) (disch := omega) only [↓r_seq, ↓r_next, ↓r_if, ↓r_eif, ↓r_set, ↓r_ret, ↓r_retV, ↓r_expr, ↓r_asg, ↓r_par, ↓r_app, ↓r_ext, ↓r_sto, ↓r_or1, ↓r_or, ↓r_and1, ↓r_and, ↓r_vor1, ↓r_vor, ↓r_vand1, ↓r_vand, ↓r_not, ↓r_tru, ↓r_isB, ↓r_eC, ↓r_rd, ↓r_vl, ↓r_rV, ↓r_eV, ↓r_uV, ↓r_uVl, ↓r_sq0, ↓r_sq, ↓r_e2, ↓r_e3, ↓r_call, ↓r_user, ↓r_enot, ↓r_eneg, ↓r_tup, ↓r_lst, ↓r_sl, ↓r_noP, ↓r_aP, ↓r_iOf, ↓r_iF, ↓r_def, ↓r_ref, r_seqNx, r_seqRt, r_seqBk, r_seqCt, r_ifT, r_ifF, r_setV, r_setOt, r_setOl, r_setOd, r_setOs, r_retK, r_retVv, r_retVo, r_asgK, r_tgN, r_tgT, r_tgL, r_tgs0, r_tgs, r_parK, r_ownL, r_ownLo, r_ownD, r_ownDo, r_appK, r_appJ, r_extK, r_extJ, r_stoK, r_stoI, r_stoJ, r_stoL, r_orT, r_orF, r_andT, r_andF, r_vorK, r_vorT, r_vorF, r_vandK, r_vandT, r_vandF, r_notK, r_truK, r_truB, r_truI, r_truL, r_truT, r_truN, r_isBK, r_rdV, r_rdO, r_dV, r_dO, r_valV, r_valL, r_valD, r_rVv, r_rVo, r_rVb, r_eVv, r_uVv, r_uVo, r_uVb, r_uVlK, r_sqK, r_consK, r_opK, r_opJ, r_chK, r_chJ, r_chT, r_chF, r_clK, r_ntK, r_ngK, r_tpK, r_lsK, r_slK, r_slJ, r_slI, r_slL, r_slT, r_aPK, r_sqL, r_sqT, r_sqS, r_rtR, r_rtN, r_refO, r_refE, r_wdK, r_bAdd, r_bSub, r_bMul, r_bDiv, r_bMod, r_bPow, r_cLt, r_cLe, r_cGt, r_cGe, r_cEq, r_cNe, r_ixL, r_ixT, r_of, r_lenL, r_lenT, r_lenS, Pd.R.bind_ok, Pd.R.bind_err, Pd.R.bind_stuck, noE_ok', mul_r, div_i, mod_i, add_i, sub_i, lt_i, le_i, gt_i, ge_i, eq_i, ne_i, pow18, List.cons_append, List.nil_append, List.getElem?_cons_zero, List.getElem?_cons_succ, List.replicate_succ, List.replicate_zero, List.set_cons_zero, List.set_cons_succ, List.length_cons, List.length_nil, if_true, if_false, Bool.not_true, Bool.not_false, Bool.false_eq_true, ↓reduceIte, Nat.reduceAdd, Nat.reduceLeDiff, Nat.reduceLT, Nat.zero_add, Option.map_some, Int.cast_ofNat_Int, Int.natCast_one, Int.natCast_zero, Int.reduceBEq, Int.reduceLT, Int.reduceLE, Int.reduceAdd, Int.reduceSub, Int.reduceMul, Int.reduceNeg, Int.reduceDiv, Int.reduceMod, decide_true, decide_false, rng1, rngD_0]
  · rintro i Γ hi ⟨s3, s4, s5, s6, rfl⟩
    refine go_seq (Γ1 := [.val (.int M), .val (.int k), .val (.lst ((allN M i 1).map tN)), .val (.int i), .own (.lst []), s5, s6]) ?_ ?_
    · simp (implicitDefEqProofs := false) (disch := omega) only [↓r_seq, ↓r_next, ↓r_if, ↓r_eif, ↓r_set, ↓r_ret, ↓r_retV, ↓r_expr, ↓r_asg, ↓r_par, ↓r_app, ↓r_ext, ↓r_sto, ↓r_or1, ↓r_or, ↓r_and1, ↓r_and, ↓r_vor1, ↓r_vor, ↓r_vand1, ↓r_vand, ↓r_not, ↓r_tru, ↓r_isB, ↓r_eC, ↓r_rd, ↓r_vl, ↓r_rV, ↓r_eV, ↓r_uV, ↓r_uVl, ↓r_sq0, ↓r_sq, ↓r_e2, ↓r_e3, ↓r_call, ↓r_user, ↓r_enot, ↓r_eneg, ↓r_tup, ↓r_lst, ↓r_sl, ↓r_noP, ↓r_aP, ↓r_iOf, ↓r_iF, ↓r_def, ↓r_ref, r_seqNx, r_seqRt, r_seqBk, r_seqCt, r_ifT, r_ifF, r_setV, r_setOt, r_setOl, r_setOd, r_setOs, r_retK, r_retVv, r_retVo, r_asgK, r_tgN, r_tgT, r_tgL, r_tgs0, r_tgs, r_parK, r_ownL, r_ownLo, r_ownD, r_ownDo, r_appK, r_appJ, r_extK, r_extJ, r_stoK, r_stoI, r_stoJ, r_stoL, r_orT, r_orF, r_andT, r_andF, r_vorK, r_vorT, r_vorF, r_vandK, r_vandT, r_vandF, r_notK, r_truK, r_truB, r_truI, r_truL, r_truT, r_truN, r_isBK, r_rdV, r_rdO, r_dV, r_dO, r_valV, r_valL, r_valD, r_rVv, r_rVo, r_rVb, r_eVv, r_uVv, r_uVo, r_uVb, r_uVlK, r_sqK, r_consK, r_opK, r_opJ, r_chK, r_chJ, r_chT, r_chF, r_clK, r_ntK, r_ngK, r_tpK, r_lsK, r_slK, r_slJ, r_slI, r_slL, r_slT, r_aPK, r_sqL, r_sqT, r_sqS, r_rtR, r_rtN, r_refO, r_refE, r_wdK, r_bAdd, r_bSub, r_bMul, r_bDiv, r_bMod, r_bPow, r_cLt, r_cLe, r_cGt, r_cGe, r_cEq, r_cNe, r_ixL, r_ixT, r_of, r_lenL, r_lenT, r_lenS, Pd.R.bind_ok, Pd.R.bind_err, Pd.R.bind_stuck, noE_ok', mul_r, div_i, mod_i, add_i, sub_i, lt_i, le_i, gt_i, ge_i, eq_i, ne_i, pow18, List.cons_append, List.nil_append, List.getElem?_cons_zero, List.getElem?_cons_succ, List.replicate_succ, List.replicate_zero, List.set_cons_zero, List.set_cons_succ, List.length_cons, List.length_nil, if_true, if_false, Bool.not_true, Bool.not_false, Bool.false_eq_true, ↓reduceIte, Nat.reduceAdd, Nat.reduceLeDiff, Nat.reduceLT, Nat.zero_add, Option.map_some, Int.cast_ofNat_Int, Int.natCast_one, Int.natCast_zero, Int.reduceBEq, Int.reduceLT, Int.reduceLE, Int.reduceAdd, Int.reduceSub, Int.reduceMul, Int.reduceNeg, Int.reduceDiv, Int.reduceMod, decide_true, decide_false]
    refine go_seq' (fun Γ => ∃ s5 s6, Γ = [.val (.int M), .val (.int k), .val (.lst ((allN M i 1).map tN)), .val (.int i), .own (.lst ((allN M (i + 1) 1).map tN)), s5, s6]) ?_ ?_
    · have key := go_st (fi := iF (vl (eVar 2))) (t := 5) (b := sSeq (sExt 4 (rd (eLc (iOf rngF2 (seqR [rd (e2 (dBin .Add) (rd (eIf (isB (e2 (dCmp .NotEq) (rVar 5) (rd (eTup (seqR []))))) (e2 dIx (rVar 5) (rd (eNeg (rd (eC (.int 1)))))) (eC (.int 0)))) (rd (eC (.int 1)))), rd (e2 (dBin .Add) (rVar 0) (rd (eC (.int 1))))])) (.nm 6) ((fun _ => .ok true)) (vl (e2 (dBin .Add) (rVar 5) (rd (eTup (seqR [vl (eVar 6)]))))) ([6])))) sNext)
        (fun pre Γ => ∃ (p : List (List Nat)) (s5 s6 : Sl), pre = p.map tN ∧ Γ = [.val (.int M), .val (.int k), .val (.lst ((allN M i 1).map tN)), .val (.int i), .own (.lst ((stepN M 1 p).map tN)), s5, s6])
        (Γ := [.val (.int M), .val (.int k), .val (.lst ((allN M i 1).map tN)), .val (.int i), .own (.lst []), s5, s6]) (ds := (allN M i 1).map tN) (by simp (implicitDefEqProofs := false) (disch := omega) only [↓r_seq, ↓r_next, ↓r_if, ↓r_eif, ↓r_set, ↓r_ret, ↓r_retV, ↓r_expr, ↓r_asg, ↓r_par, ↓r_app, ↓r_ext, ↓r_sto, ↓r_or1, ↓r_or, ↓r_and1, ↓r_and, ↓r_vor1, ↓r_vor, ↓r_vand1, ↓r_vand, ↓r_not, ↓r_tru, ↓r_isB, ↓r_eC, ↓r_rd, ↓r_vl, ↓r_rV, ↓r_eV, ↓r_uV, ↓r_uVl, ↓r_sq0, ↓r_sq, ↓r_e2, ↓r_e3, ↓r_call, ↓r_user, ↓r_enot, ↓r_eneg, ↓r_tup, ↓r_lst, ↓r_sl, ↓r_noP, ↓r_aP, ↓r_iOf, ↓r_iF, ↓r_def, ↓r_ref, r_seqNx, r_seqRt, r_seqBk, r_seqCt, r_ifT, r_ifF, r_setV, r_setOt, r_setOl, r_setOd, r_setOs, r_retK, r_retVv, r_retVo, r_asgK, r_tgN, r_tgT, r_tgL, r_tgs0, r_tgs, r_parK, r_ownL, r_ownLo, r_ownD, r_ownDo, r_appK, r_appJ, r_extK, r_extJ, r_stoK, r_stoI, r_stoJ, r_stoL, r_orT, r_orF, r_andT, r_andF, r_vorK, r_vorT, r_vorF, r_vandK, r_vandT, r_vandF, r_notK, r_truK, r_truB, r_truI, r_truL, r_truT, r_truN, r_isBK, r_rdV, r_rdO, r_dV, r_dO, r_valV, r_valL, r_valD, r_rVv, r_rVo, r_rVb, r_eVv, r_uVv, r_uVo, r_uVb, r_uVlK, r_sqK, r_consK, r_opK, r_opJ, r_chK, r_chJ, r_chT, r_chF, r_clK, r_ntK, r_ngK, r_tpK, r_lsK, r_slK, r_slJ, r_slI, r_slL, r_slT, r_aPK, r_sqL, r_sqT, r_sqS, r_rtR, r_rtN, r_refO, r_refE, r_wdK, r_bAdd, r_bSub, r_bMul, r_bDiv, r_bMod, r_bPow, r_cLt, r_cLe, r_cGt, r_cGe, r_cEq, r_cNe, r_ixL, r_ixT, r_of, r_lenL, r_lenT, r_lenS, Pd.R.bind_ok, Pd.R.bind_err, Pd.R.bind_stuck, noE_ok', mul_r, div_i, mod_i, add_i, sub_i, lt_i, le_i, gt_i, ge_i, eq_i, ne_i, pow18, List.cons_append, List.nil_append, List.getElem?_cons_zero, List.getElem?_cons_succ, List.replicate_succ, List.replicate_zero, List.set_cons_zero, List.set_cons_succ, List.length_cons, List.length_nil, if_true, if_false, Bool.not_true, Bool.not_false, Bool.false_eq_true, ↓reduceIte, Nat.reduceAdd, Nat.reduceLeDiff, Nat.reduceLT, Nat.zero_add, Option.map_some, Int.cast_ofNat_Int, Int.natCast_one, Int.natCast_zero, Int.reduceBEq, Int.reduceLT, Int.reduceLE, Int.reduceAdd, Int.reduceSub, Int.reduceMul, Int.reduceNeg, Int.reduceDiv, Int.reduceMod, decide_true, decide_false]) ⟨[], s5, s6, rfl, rfl⟩ (by
          rintro a c x Γ e ⟨p, s5, s6, rfl, rfl⟩
          obtain ⟨s, hs, rfl⟩ : ∃ s ∈ allN M i 1, tN s = x := List.mem_map.mp (by rw [e]; exact List.mem_append_right _ (List.mem_cons_self ..))
          obtain ⟨hsl, hsp, hsb⟩ := all_mem hs
          have hpl : p.length ≤ 3375 := by
            have hl := congrArg List.length e
            rw [List.length_map, List.length_append, List.length_map] at hl
            have := all_small (M := M) (k := i) (lo := 1) hM (by omega) (by omega)
            omega
          refine go_eq (Γ' := [.val (.int M), .val (.int k), .val (.lst ((allN M i 1).map tN)), .val (.int i), .own (.lst ((stepN M 1 (p ++ [s])).map tN)), .val (tN s), s6]) ?_ ⟨p ++ [s], .val (tN s), s6, by rw [List.map_append]; rfl, rfl⟩
          · have hnx : nxN 1 s ≤ 16 := by
              unfold nxN
              cases h : s.getLast? with
              | none => exact (by decide : (1 : Nat) ≤ 16)
              | some y =>
                have := hsb y (List.mem_of_getLast? h)
                show y + 1 ≤ 16
                omega
            have el := lc_of (fi := iOf rngF2 (seqR [rd (e2 (dBin .Add) (rd (eIf (isB (e2 (dCmp .NotEq) (rVar 5) (rd (eTup (seqR []))))) (e2 dIx (rVar 5) (rd (eNeg (rd (eC (.int 1)))))) (eC (.int 0)))) (rd (eC (.int 1)))), rd (e2 (dBin .Add) (rVar 0) (rd (eC (.int 1))))])) (i := 6) (te := vl (e2 (dBin .Add) (rVar 5) (rd (eTup (seqR [vl (eVar 6)]))))) (vs := [6])
              (Γ := [.val (.int M), .val (.int k), .val (.lst ((allN M i 1).map tN)), .val (.int i), .own (.lst ((stepN M 1 p).map tN)), .val (tN s), s6]) (l := rgN (nxN 1 s) M) (φ := fun n : Nat => D.int (n : Int)) (fun o => tN (s ++ [o])) (by
                have hr := rg_v (lo := nxN 1 s) (M := M) (by omega) (by omega)
                have hla := @some_last s
                by_cases hn : s = []
                · subst hn
                  have : dNe (tN []) (.tup []) = some (.v (.bl false)) := ne_same (pur_tN []) (dep_tN [])
                  simp (implicitDefEqProofs := false) (disch := omega) only [↓r_seq, ↓r_next, ↓r_if, ↓r_eif, ↓r_set, ↓r_ret, ↓r_retV, ↓r_expr, ↓r_asg, ↓r_par, ↓r_app, ↓r_ext, ↓r_sto, ↓r_or1, ↓r_or, ↓r_and1, ↓r_and, ↓r_vor1, ↓r_vor, ↓r_vand1, ↓r_vand, ↓r_not, ↓r_tru, ↓r_isB, ↓r_eC, ↓r_rd, ↓r_vl, ↓r_rV, ↓r_eV, ↓r_uV, ↓r_uVl, ↓r_sq0, ↓r_sq, ↓r_e2, ↓r_e3, ↓r_call, ↓r_user, ↓r_enot, ↓r_eneg, ↓r_tup, ↓r_lst, ↓r_sl, ↓r_noP, ↓r_aP, ↓r_iOf, ↓r_iF, ↓r_def, ↓r_ref, r_seqNx, r_seqRt, r_seqBk, r_seqCt, r_ifT, r_ifF, r_setV, r_setOt, r_setOl, r_setOd, r_setOs, r_retK, r_retVv, r_retVo, r_asgK, r_tgN, r_tgT, r_tgL, r_tgs0, r_tgs, r_parK, r_ownL, r_ownLo, r_ownD, r_ownDo, r_appK, r_appJ, r_extK, r_extJ, r_stoK, r_stoI, r_stoJ, r_stoL, r_orT, r_orF, r_andT, r_andF, r_vorK, r_vorT, r_vorF, r_vandK, r_vandT, r_vandF, r_notK, r_truK, r_truB, r_truI, r_truL, r_truT, r_truN, r_isBK, r_rdV, r_rdO, r_dV, r_dO, r_valV, r_valL, r_valD, r_rVv, r_rVo, r_rVb, r_eVv, r_uVv, r_uVo, r_uVb, r_uVlK, r_sqK, r_consK, r_opK, r_opJ, r_chK, r_chJ, r_chT, r_chF, r_clK, r_ntK, r_ngK, r_tpK, r_lsK, r_slK, r_slJ, r_slI, r_slL, r_slT, r_aPK, r_sqL, r_sqT, r_sqS, r_rtR, r_rtN, r_refO, r_refE, r_wdK, r_bAdd, r_bSub, r_bMul, r_bDiv, r_bMod, r_bPow, r_cLt, r_cLe, r_cGt, r_cGe, r_cEq, r_cNe, r_ixL, r_ixT, r_of, r_lenL, r_lenT, r_lenS, Pd.R.bind_ok, Pd.R.bind_err, Pd.R.bind_stuck, noE_ok', mul_r, div_i, mod_i, add_i, sub_i, lt_i, le_i, gt_i, ge_i, eq_i, ne_i, pow18, List.cons_append, List.nil_append, List.getElem?_cons_zero, List.getElem?_cons_succ, List.replicate_succ, List.replicate_zero, List.set_cons_zero, List.set_cons_succ, List.length_cons, List.length_nil, if_true, if_false, Bool.not_true, Bool.not_false, Bool.false_eq_true, ↓reduceIte, Nat.reduceAdd, Nat.reduceLeDiff, Nat.reduceLT, Nat.zero_add, Option.map_some, Int.cast_ofNat_Int, Int.natCast_one, Int.natCast_zero, Int.reduceBEq, Int.reduceLT, Int.reduceLE, Int.reduceAdd, Int.reduceSub, Int.reduceMul, Int.reduceNeg, Int.reduceDiv, Int.reduceMod, decide_true, decide_false, this]
                  exact hr
                · have hne : dNe (tN s) (.tup []) = some (.v (.bl true)) := ne_diff (b := tN []) (pur_tN s) (pur_tN []) (dep_tN s) (dep_tN []) (fun h => hn (tN_inj h))
                  rw [if_neg hn] at hla
                  simp (implicitDefEqProofs := false) (disch := omega) only [↓r_seq, ↓r_next, ↓r_if, ↓r_eif, ↓r_set, ↓r_ret, ↓r_retV, ↓r_expr, ↓r_asg, ↓r_par, ↓r_app, ↓r_ext, ↓r_sto, ↓r_or1, ↓r_or, ↓r_and1, ↓r_and, ↓r_vor1, ↓r_vor, ↓r_vand1, ↓r_vand, ↓r_not, ↓r_tru, ↓r_isB, ↓r_eC, ↓r_rd, ↓r_vl, ↓r_rV, ↓r_eV, ↓r_uV, ↓r_uVl, ↓r_sq0, ↓r_sq, ↓r_e2, ↓r_e3, ↓r_call, ↓r_user, ↓r_enot, ↓r_eneg, ↓r_tup, ↓r_lst, ↓r_sl, ↓r_noP, ↓r_aP, ↓r_iOf, ↓r_iF, ↓r_def, ↓r_ref, r_seqNx, r_seqRt, r_seqBk, r_seqCt, r_ifT, r_ifF, r_setV, r_setOt, r_setOl, r_setOd, r_setOs, r_retK, r_retVv, r_retVo, r_asgK, r_tgN, r_tgT, r_tgL, r_tgs0, r_tgs, r_parK, r_ownL, r_ownLo, r_ownD, r_ownDo, r_appK, r_appJ, r_extK, r_extJ, r_stoK, r_stoI, r_stoJ, r_stoL, r_orT, r_orF, r_andT, r_andF, r_vorK, r_vorT, r_vorF, r_vandK, r_vandT, r_vandF, r_notK, r_truK, r_truB, r_truI, r_truL, r_truT, r_truN, r_isBK, r_rdV, r_rdO, r_dV, r_dO, r_valV, r_valL, r_valD, r_rVv, r_rVo, r_rVb, r_eVv, r_uVv, r_uVo, r_uVb, r_uVlK, r_sqK, r_consK, r_opK, r_opJ, r_chK, r_chJ, r_chT, r_chF, r_clK, r_ntK, r_ngK, r_tpK, r_lsK, r_slK, r_slJ, r_slI, r_slL, r_slT, r_aPK, r_sqL, r_sqT, r_sqS, r_rtR, r_rtN, r_refO, r_refE, r_wdK, r_bAdd, r_bSub, r_bMul, r_bDiv, r_bMod, r_bPow, r_cLt, r_cLe, r_cGt, r_cGe, r_cEq, r_cNe, r_ixL, r_ixT, r_of, r_lenL, r_lenT, r_lenS, Pd.R.bind_ok, Pd.R.bind_err, Pd.R.bind_stuck, noE_ok', mul_r, div_i, mod_i, add_i, sub_i, lt_i, le_i, gt_i, ge_i, eq_i, ne_i, pow18, List.cons_append, List.nil_append, List.getElem?_cons_zero, List.getElem?_cons_succ, List.replicate_succ, List.replicate_zero, List.set_cons_zero, List.set_cons_succ, List.length_cons, List.length_nil, if_true, if_false, Bool.not_true, Bool.not_false, Bool.false_eq_true, ↓reduceIte, Nat.reduceAdd, Nat.reduceLeDiff, Nat.reduceLT, Nat.zero_add, Option.map_some, Int.cast_ofNat_Int, Int.natCast_one, Int.natCast_zero, Int.reduceBEq, Int.reduceLT, Int.reduceLE, Int.reduceAdd, Int.reduceSub, Int.reduceMul, Int.reduceNeg, Int.reduceDiv, Int.reduceMod, decide_true, decide_false, hne, last_tN hn, hla]
                  exact hr) (fun o _ => by
                have ha : dAdd (tN s) (.tup [.int (o : Int)]) = some (.v (tN (s ++ [o]))) := add_tN (t := [o]) (by rw [hsl, List.length_singleton]; omega)
                simp (implicitDefEqProofs := false) (disch := omega) only [↓r_seq, ↓r_next, ↓r_if, ↓r_eif, ↓r_set, ↓r_ret, ↓r_retV, ↓r_expr, ↓r_asg, ↓r_par, ↓r_app, ↓r_ext, ↓r_sto, ↓r_or1, ↓r_or, ↓r_and1, ↓r_and, ↓r_vor1, ↓r_vor, ↓r_vand1, ↓r_vand, ↓r_not, ↓r_tru, ↓r_isB, ↓r_eC, ↓r_rd, ↓r_vl, ↓r_rV, ↓r_eV, ↓r_uV, ↓r_uVl, ↓r_sq0, ↓r_sq, ↓r_e2, ↓r_e3, ↓r_call, ↓r_user, ↓r_enot, ↓r_eneg, ↓r_tup, ↓r_lst, ↓r_sl, ↓r_noP, ↓r_aP, ↓r_iOf, ↓r_iF, ↓r_def, ↓r_ref, r_seqNx, r_seqRt, r_seqBk, r_seqCt, r_ifT, r_ifF, r_setV, r_setOt, r_setOl, r_setOd, r_setOs, r_retK, r_retVv, r_retVo, r_asgK, r_tgN, r_tgT, r_tgL, r_tgs0, r_tgs, r_parK, r_ownL, r_ownLo, r_ownD, r_ownDo, r_appK, r_appJ, r_extK, r_extJ, r_stoK, r_stoI, r_stoJ, r_stoL, r_orT, r_orF, r_andT, r_andF, r_vorK, r_vorT, r_vorF, r_vandK, r_vandT, r_vandF, r_notK, r_truK, r_truB, r_truI, r_truL, r_truT, r_truN, r_isBK, r_rdV, r_rdO, r_dV, r_dO, r_valV, r_valL, r_valD, r_rVv, r_rVo, r_rVb, r_eVv, r_uVv, r_uVo, r_uVb, r_uVlK, r_sqK, r_consK, r_opK, r_opJ, r_chK, r_chJ, r_chT, r_chF, r_clK, r_ntK, r_ngK, r_tpK, r_lsK, r_slK, r_slJ, r_slI, r_slL, r_slT, r_aPK, r_sqL, r_sqT, r_sqS, r_rtR, r_rtN, r_refO, r_refE, r_wdK, r_bAdd, r_bSub, r_bMul, r_bDiv, r_bMod, r_bPow, r_cLt, r_cLe, r_cGt, r_cGe, r_cEq, r_cNe, r_ixL, r_ixT, r_of, r_lenL, r_lenT, r_lenS, Pd.R.bind_ok, Pd.R.bind_err, Pd.R.bind_stuck, noE_ok', mul_r, div_i, mod_i, add_i, sub_i, lt_i, le_i, gt_i, ge_i, eq_i, ne_i, pow18, List.cons_append, List.nil_append, List.getElem?_cons_zero, List.getElem?_cons_succ, List.replicate_succ, List.replicate_zero, List.set_cons_zero, List.set_cons_succ, List.length_cons, List.length_nil, if_true, if_false, Bool.not_true, Bool.not_false, Bool.false_eq_true, ↓reduceIte, Nat.reduceAdd, Nat.reduceLeDiff, Nat.reduceLT, Nat.zero_add, Option.map_some, Int.cast_ofNat_Int, Int.natCast_one, Int.natCast_zero, Int.reduceBEq, Int.reduceLT, Int.reduceLE, Int.reduceAdd, Int.reduceSub, Int.reduceMul, Int.reduceNeg, Int.reduceDiv, Int.reduceMod, decide_true, decide_false, wipeG, ha])
            have hb : ((stepN M 1 p).map tN).length + ((rgN (nxN 1 s) M).map fun o => tN (s ++ [o])).length ≤ 16777216 := by
              rw [List.length_map, List.length_map, rgN_len]
              unfold stepN
              rw [List.length_flatMap]
              have h1 := sum_leA (fun s => ((rgN (nxN 1 s) M).map fun x => s ++ [x]).length) 16 p fun s _ => by
                rw [List.length_map, rgN_len]; omega
              omega
            simp (implicitDefEqProofs := false) (disch := omega) only [↓r_seq, ↓r_next, ↓r_if, ↓r_eif, ↓r_set, ↓r_ret, ↓r_retV, ↓r_expr, ↓r_asg, ↓r_par, ↓r_app, ↓r_ext, ↓r_sto, ↓r_or1, ↓r_or, ↓r_and1, ↓r_and, ↓r_vor1, ↓r_vor, ↓r_vand1, ↓r_vand, ↓r_not, ↓r_tru, ↓r_isB, ↓r_eC, ↓r_rd, ↓r_vl, ↓r_rV, ↓r_eV, ↓r_uV, ↓r_uVl, ↓r_sq0, ↓r_sq, ↓r_e2, ↓r_e3, ↓r_call, ↓r_user, ↓r_enot, ↓r_eneg, ↓r_tup, ↓r_lst, ↓r_sl, ↓r_noP, ↓r_aP, ↓r_iOf, ↓r_iF, ↓r_def, ↓r_ref, r_seqNx, r_seqRt, r_seqBk, r_seqCt, r_ifT, r_ifF, r_setV, r_setOt, r_setOl, r_setOd, r_setOs, r_retK, r_retVv, r_retVo, r_asgK, r_tgN, r_tgT, r_tgL, r_tgs0, r_tgs, r_parK, r_ownL, r_ownLo, r_ownD, r_ownDo, r_appK, r_appJ, r_extK, r_extJ, r_stoK, r_stoI, r_stoJ, r_stoL, r_orT, r_orF, r_andT, r_andF, r_vorK, r_vorT, r_vorF, r_vandK, r_vandT, r_vandF, r_notK, r_truK, r_truB, r_truI, r_truL, r_truT, r_truN, r_isBK, r_rdV, r_rdO, r_dV, r_dO, r_valV, r_valL, r_valD, r_rVv, r_rVo, r_rVb, r_eVv, r_uVv, r_uVo, r_uVb, r_uVlK, r_sqK, r_consK, r_opK, r_opJ, r_chK, r_chJ, r_chT, r_chF, r_clK, r_ntK, r_ngK, r_tpK, r_lsK, r_slK, r_slJ, r_slI, r_slL, r_slT, r_aPK, r_sqL, r_sqT, r_sqS, r_rtR, r_rtN, r_refO, r_refE, r_wdK, r_bAdd, r_bSub, r_bMul, r_bDiv, r_bMod, r_bPow, r_cLt, r_cLe, r_cGt, r_cGe, r_cEq, r_cNe, r_ixL, r_ixT, r_of, r_lenL, r_lenT, r_lenS, Pd.R.bind_ok, Pd.R.bind_err, Pd.R.bind_stuck, noE_ok', mul_r, div_i, mod_i, add_i, sub_i, lt_i, le_i, gt_i, ge_i, eq_i, ne_i, pow18, List.cons_append, List.nil_append, List.getElem?_cons_zero, List.getElem?_cons_succ, List.replicate_succ, List.replicate_zero, List.set_cons_zero, List.set_cons_succ, List.length_cons, List.length_nil, if_true, if_false, Bool.not_true, Bool.not_false, Bool.false_eq_true, ↓reduceIte, Nat.reduceAdd, Nat.reduceLeDiff, Nat.reduceLT, Nat.zero_add, Option.map_some, Int.cast_ofNat_Int, Int.natCast_one, Int.natCast_zero, Int.reduceBEq, Int.reduceLT, Int.reduceLE, Int.reduceAdd, Int.reduceSub, Int.reduceMul, Int.reduceNeg, Int.reduceDiv, Int.reduceMod, decide_true, decide_false, el, r_extJ hb]
            unfold stepN
            rw [List.flatMap_append, List.map_append, List.flatMap_singleton, List.map_map]
            rfl)
      exact go_mono key fun Γ ⟨p, s5, s6, e, h⟩ => by
        obtain rfl : p = allN M i 1 := ((List.map_inj_right fun _ _ h => tN_inj h).mp e).symm
        rw [← all_step] at h
        exact ⟨s5, s6, h⟩
    rintro Γ ⟨s5, s6, rfl⟩
    refine go_seq (Γ1 := [.val (.int M), .val (.int k), .val (.lst ((allN M (i + 1) 1).map tN)), .val (.int i), .val (.lst ((allN M (i + 1) 1).map tN)), s5, s6]) ?_ (go_next ⟨_, _, _, _, rfl⟩)
    show sSet false 2 (eVar 4) [.val (.int M), .val (.int k), .val (.lst ((allN M i 1).map tN)), .val (.int i), .val (.lst ((allN M (i + 1) 1).map tN)), s5, s6] = _
    simp (implicitDefEqProofs := false) (disch := omega) only [↓r_seq, ↓r_next, ↓r_if, ↓r_eif, ↓r_set, ↓r_ret, ↓r_retV, ↓r_expr, ↓r_asg, ↓r_par, ↓r_app, ↓r_ext, ↓r_sto, ↓r_or1, ↓r_or, ↓r_and1, ↓r_and, ↓r_vor1, ↓r_vor, ↓r_vand1, ↓r_vand, ↓r_not, ↓r_tru, ↓r_isB, ↓r_eC, ↓r_rd, ↓r_vl, ↓r_rV, ↓r_eV, ↓r_uV, ↓r_uVl, ↓r_sq0, ↓r_sq, ↓r_e2, ↓r_e3, ↓r_call, ↓r_user, ↓r_enot, ↓r_eneg, ↓r_tup, ↓r_lst, ↓r_sl, ↓r_noP, ↓r_aP, ↓r_iOf, ↓r_iF, ↓r_def, ↓r_ref, r_seqNx, r_seqRt, r_seqBk, r_seqCt, r_ifT, r_ifF, r_setV, r_setOt, r_setOl, r_setOd, r_setOs, r_retK, r_retVv, r_retVo, r_asgK, r_tgN, r_tgT, r_tgL, r_tgs0, r_tgs, r_parK, r_ownL, r_ownLo, r_ownD, r_ownDo, r_appK, r_appJ, r_extK, r_extJ, r_stoK, r_stoI, r_stoJ, r_stoL, r_orT, r_orF, r_andT, r_andF, r_vorK, r_vorT, r_vorF, r_vandK, r_vandT, r_vandF, r_notK, r_truK, r_truB, r_truI, r_truL, r_truT, r_truN, r_isBK, r_rdV, r_rdO, r_dV, r_dO, r_valV, r_valL, r_valD, r_rVv, r_rVo, r_rVb, r_eVv, r_uVv, r_uVo, r_uVb, r_uVlK, r_sqK, r_consK, r_opK, r_opJ, r_chK, r_chJ, r_chT, r_chF, r_clK, r_ntK, r_ngK, r_tpK, r_lsK, r_slK, r_slJ, r_slI, r_slL, r_slT, r_aPK, r_sqL, r_sqT, r_sqS, r_rtR, r_rtN, r_refO, r_refE, r_wdK, r_bAdd, r_bSub, r_bMul, r_bDiv, r_bMod, r_bPow, r_cLt, r_cLe, r_cGt, r_cGe, r_cEq, r_cNe, r_ixL, r_ixT, r_of, r_lenL, r_lenT, r_lenS, Pd.R.bind_ok, Pd.R.bind_err, Pd.R.bind_stuck, noE_ok', mul_r, div_i, mod_i, add_i, sub_i, lt_i, le_i, gt_i, ge_i, eq_i, ne_i, pow18, List.cons_append, List.nil_append, List.getElem?_cons_zero, List.getElem?_cons_succ, List.replicate_succ, List.replicate_zero, List.set_cons_zero, List.set_cons_succ, List.length_cons, List.length_nil, if_true, if_false, Bool.not_true, Bool.not_false, Bool.false_eq_true, ↓reduceIte, Nat.reduceAdd, Nat.reduceLeDiff, Nat.reduceLT, Nat.zero_add, Option.map_some, Int.cast_ofNat_Int, Int.natCast_one, Int.natCast_zero, Int.reduceBEq, Int.reduceLT, Int.reduceLE, Int.reduceAdd, Int.reduceSub, Int.reduceMul, Int.reduceNeg, Int.reduceDiv, Int.reduceMod, decide_true, decide_false]
  rintro Γ ⟨s3, s4, s5, s6, rfl⟩
  simp (implicitDefEqProofs := false) (disch := omega) only [↓r_seq, ↓r_next, ↓r_if, ↓r_eif, ↓r_set, ↓r_ret, ↓r_retV, ↓r_expr, ↓r_asg, ↓r_par, ↓r_app, ↓r_ext, ↓r_sto, ↓r_or1, ↓r_or, ↓r_and1, ↓r_and, ↓r_vor1, ↓r_vor, ↓r_vand1, ↓r_vand, ↓r_not, ↓r_tru, ↓r_isB, ↓r_eC, ↓r_rd, ↓r_vl, ↓r_rV, ↓r_eV, ↓r_uV, ↓r_uVl, ↓r_sq0, ↓r_sq, ↓r_e2, ↓r_e3, ↓r_call, ↓r_user, ↓r_enot, ↓r_eneg, ↓r_tup, ↓r_lst, ↓r_sl, ↓r_noP, ↓r_aP, ↓r_iOf, ↓r_iF, ↓r_def, ↓r_ref, r_seqNx, r_seqRt, r_seqBk, r_seqCt, r_ifT, r_ifF, r_setV, r_setOt, r_setOl, r_setOd, r_setOs, r_retK, r_retVv, r_retVo, r_asgK, r_tgN, r_tgT, r_tgL, r_tgs0, r_tgs, r_parK, r_ownL, r_ownLo, r_ownD, r_ownDo, r_appK, r_appJ, r_extK, r_extJ, r_stoK, r_stoI, r_stoJ, r_stoL, r_orT, r_orF, r_andT, r_andF, r_vorK, r_vorT, r_vorF, r_vandK, r_vandT, r_vandF, r_notK, r_truK, r_truB, r_truI, r_truL, r_truT, r_truN, r_isBK, r_rdV, r_rdO, r_dV, r_dO, r_valV, r_valL, r_valD, r_rVv, r_rVo, r_rVb, r_eVv, r_uVv, r_uVo, r_uVb, r_uVlK, r_sqK, r_consK, r_opK, r_opJ, r_chK, r_chJ, r_chT, r_chF, r_clK, r_ntK, r_ngK, r_tpK, r_lsK, r_slK, r_slJ, r_slI, r_slL, r_slT, r_aPK, r_sqL, r_sqT, r_sqS, r_rtR, r_rtN, r_refO, r_refE, r_wdK, r_bAdd, r_bSub, r_bMul, r_bDiv, r_bMod, r_bPow, r_cLt, r_cLe, r_cGt, r_cGe, r_cEq, r_cNe, r_ixL, r_ixT, r_of, r_lenL, r_lenT, r_lenS, Pd.R.bind_ok, Pd.R.bind_err, Pd.R.bind_stuck, noE_ok', mul_r, div_i, mod_i, add_i, sub_i, lt_i, le_i, gt_i, ge_i, eq_i, ne_i, pow18, List.cons_append, List.nil_append, List.getElem?_cons_zero, List.getElem?_cons_succ, List.replicate_succ, List.replicate_zero, List.set_cons_zero, List.set_cons_succ, List.length_cons, List.length_nil, if_true, if_false, Bool.not_true, Bool.not_false, Bool.false_eq_true, ↓reduceIte, Nat.reduceAdd, Nat.reduceLeDiff, Nat.reduceLT, Nat.zero_add, Option.map_some, Int.cast_ofNat_Int, Int.natCast_one, Int.natCast_zero, Int.reduceBEq, Int.reduceLT, Int.reduceLE, Int.reduceAdd, Int.reduceSub, Int.reduceMul, Int.reduceNeg, Int.reduceDiv, Int.reduceMod, decide_true, decide_false]
end Pd

set_option Elab.async false
set_option linter.all false
set_option maxRecDepth 100000
set_option maxHeartbeats 1000000
namespace Pr
open PySem PySem.Spec L2 Pd
def f_best_wide2 : Gm → R Out := sSeq (sRet (e2 dIx (rd (eCall fMinD (seqR [rd (eUser d_widths (seqR [uVar 0, uVar 1]))]))) (rd (eC (.int 0)))))
  (sNext)
def d_best_wide2 : List Sl → R O := defF 0 f_best_wide2
def f_all_best2 : Gm → R Out := sSeq (sSet false 2 (eUser d_widths (seqR [uVar 0, uVar 1])))
  (sSeq (sSet false 3 (e2 dIx (rd (eCall fMinD (seqR [rVar 2]))) (rd (eC (.int 0)))))
  (sSeq (sRet (eLc (iF (rVar 2)) (.tp [.nm 4, .nm 5]) (isB (e2 (dCmp .Eq) (rVar 4) (rVar 3))) (vl (eVar 5)) ([4, 5])))
  (sNext)))
def d_all_best2 : List Sl → R O := defF 4 f_all_best2
def f_best_leaps2 : Gm → R Out := sSeq (sRet (e2 dIx (rd (eCall fMinD (seqR [rd (eUser d_widths (seqR [uVar 0, uVar 1]))]))) (rd (eC (.int 1)))))
  (sNext)
def d_best_leaps2 : List Sl → R O := defF 0 f_best_leaps2
def f_law_all2 (dr : List Sl → R O) : Gm → R Out := sSeq (sIf (isB (e2 (dCmp .Eq) (rVar 1) (rd (eC (.int 0))))) (sSeq (sRet (eLst (seqR [vl (eTup (seqR []))])))
  (sNext)) (sNext))
  (sSeq (sSet true 3 (eLst (seqR [])))
  (sSeq (sFor (iOf rngF2 (seqR [rVar 2, rd (e2 (dBin .Add) (rVar 0) (rd (eC (.int 1))))])) (.nm 4) (sSeq (sExt 3 (rd (eLc (iF (rd (eUser dr (seqR [uVar 0, uVal (vl (e2 (dBin .Sub) (rVar 1) (rd (eC (.int 1))))), uVal (vl (e2 (dBin .Add) (rVar 4) (rd (eC (.int 1)))))])))) (.nm 5) ((fun _ => .ok true)) (vl (e2 (dBin .Add) (rd (eTup (seqR [vl (eVar 4)]))) (rVar 5))) ([5]))))
  (sNext)))
  (sSeq (sRetV 3)
  (sNext))))
end Pr
namespace Pd
open PySem PySem.Spec L2 Pr
theorem lall_v {r : Nat → List Sl → R O} (hr : ∀ n, r (n + 1) = defF 3 (f_law_all2 (r n))) {M : Nat} (hM : M ≤ 15) : ∀ (n k lo : Nat), k < n → k ≤ 3 → 1 ≤ lo → lo ≤ 20 → r n [.val (.int M), .val (.int k), .val (.int lo)] = .ok (.o (.lst ((allN M k lo).map tN)))
  | 0, k, lo, h, _, _, _ => by omega
  | n + 1, 0, lo, _, _, _, _ => by
    rw [hr]
    refine def_rt ?_
    unfold f_law_all2
    show sSeq _ _ [.val (.int M), .val (.int 0), .val (.int lo), .un, .un, .un] = _
    simp (implicitDefEqProofs := false) (disch := omega) only [↓r_seq, ↓r_next, ↓r_if, ↓r_eif, ↓r_set, ↓r_ret, ↓r_retV, ↓r_expr, ↓r_asg, ↓r_par, ↓r_app, ↓r_ext, ↓r_sto, ↓r_or1, ↓r_or, ↓r_and1, ↓r_and, ↓r_vor1, ↓r_vor, ↓r_vand1, ↓r_vand, ↓r_not, ↓r_tru, ↓r_isB, ↓r_eC, ↓r_rd, ↓r_vl, ↓r_rV, ↓r_eV, ↓r_uV, ↓r_uVl, ↓r_sq0, ↓r_sq, ↓r_e2, ↓r_e3, ↓r_call, ↓r_user, ↓r_enot, ↓r_eneg, ↓r_tup, ↓r_lst, ↓r_sl, ↓r_noP, ↓r_aP, ↓r_iOf, ↓r_iF, ↓r_def, ↓r_ref, r_seqNx, r_seqRt, r_seqBk, r_seqCt, r_ifT, r_ifF, r_setV, r_setOt, r_setOl, r_setOd, r_setOs, r_retK, r_retVv, r_retVo, r_asgK, r_tgN, r_tgT, r_tgL, r_tgs0, r_tgs, r_parK, r_ownL, r_ownLo, r_ownD, r_ownDo, r_appK, r_appJ, r_extK, r_extJ, r_stoK, r_stoI, r_stoJ, r_stoL, r_orT, r_orF, r_andT, r_andF, r_vorK, r_vorT, r_vorF, r_vandK, r_vandT, r_vandF, r_notK, r_truK, r_truB, r_truI, r_truL, r_truT, r_truN, r_isBK, r_rdV, r_rdO, r_dV, r_dO, r_valV, r_valL, r_valD, r_rVv, r_rVo, r_rVb, r_eVv, r_uVv, r_uVo, r_uVb, r_uVlK, r_sqK, r_consK, r_opK, r_opJ, r_chK, r_chJ, r_chT, r_chF, r_clK, r_ntK, r_ngK, r_tpK, r_lsK, r_slK, r_slJ, r_slI, r_slL, r_slT, r_aPK, r_sqL, r_sqT, r_sqS, r_rtR, r_rtN, r_refO, r_refE, r_wdK, r_bAdd, r_bSub, r_bMul, r_bDiv, r_bMod, r_bPow, r_cLt, r_cLe, r_cGt, r_cGe, r_cEq, r_cNe, r_ixL, r_ixT, r_of, r_lenL, r_lenT, r_lenS, Pd.R.bind_ok, Pd.R.bind_err, Pd.R.bind_stuck, noE_ok', mul_r, div_i, mod_i, add_i, sub_i, lt_i, le_i, gt_i, ge_i, eq_i, ne_i, pow18, List.cons_append, List.nil_append, List.getElem?_cons_zero, List.getElem?_cons_succ, List.replicate_succ, List.replicate_zero, List.set_cons_zero, List.set_cons_succ, List.length_cons, List.length_nil, if_true, if_false, Bool.not_true, Bool.not_false, Bool.false_eq_true, ↓reduceIte, Nat.reduceAdd, Nat.reduceLeDiff, Nat.reduceLT, Nat.zero_add, Option.map_some, Int.cast_ofNat_Int, Int.natCast_one, Int.natCast_zero, Int.reduceBEq, Int.reduceLT, Int.reduceLE, Int.reduceAdd, Int.reduceSub, Int.reduceMul, Int.reduceNeg, Int.reduceDiv, Int.reduceMod, decide_true, decide_false]
    rfl
  | n + 1, k + 1, lo, hn, hk, h1, h2 => by
    rw [hr]
    refine def_rt ?_
    unfold f_law_all2
    show sSeq _ _ [.val (.int M), .val (.int (k + 1 : Nat)), .val (.int lo), .un, .un, .un] = _
    have hk0 : (((k + 1 : Nat) : Int) == 0) = false := beq_eq_false_iff_ne.mpr (by omega)
    have hk1 : ((k + 1 : Nat) : Int) - 1 = (k : Int) := by omega
    refine seq_nx (Γ1 := [.val (.int M), .val (.int (k + 1 : Nat)), .val (.int lo), .un, .un, .un]) ?_ ?_
    · simp (implicitDefEqProofs := false) (disch := omega) only [↓r_seq, ↓r_next, ↓r_if, ↓r_eif, ↓r_set, ↓r_ret, ↓r_retV, ↓r_expr, ↓r_asg, ↓r_par, ↓r_app, ↓r_ext, ↓r_sto, ↓r_or1, ↓r_or, ↓r_and1, ↓r_and, ↓r_vor1, ↓r_vor, ↓r_vand1, ↓r_vand, ↓r_not, ↓r_tru, ↓r_isB, ↓r_eC, ↓r_rd, ↓r_vl, ↓r_rV, ↓r_eV, ↓r_uV, ↓r_uVl, ↓r_sq0, ↓r_sq, ↓r_e2, ↓r_e3, ↓r_call, ↓r_user, ↓r_enot, ↓r_eneg, ↓r_tup, ↓r_lst, ↓r_sl, ↓r_noP, ↓r_aP, ↓r_iOf, ↓r_iF, ↓r_def, ↓r_ref, r_seqNx, r_seqRt, r_seqBk, r_seqCt, r_ifT, r_ifF, r_setV, r_setOt, r_setOl, r_setOd, r_setOs, r_retK, r_retVv, r_retVo, r_asgK, r_tgN, r_tgT, r_tgL, r_tgs0, r_tgs, r_parK, r_ownL, r_ownLo, r_ownD, r_ownDo, r_appK, r_appJ, r_extK, r_extJ, r_stoK, r_stoI, r_stoJ, r_stoL, r_orT, r_orF, r_andT, r_andF, r_vorK, r_vorT, r_vorF, r_vandK, r_vandT, r_vandF, r_notK, r_truK, r_truB, r_truI, r_truL, r_truT, r_truN, r_isBK, r_rdV, r_rdO, r_dV, r_dO, r_valV, r_valL, r_valD, r_rVv, r_rVo, r_rVb, r_eVv, r_uVv, r_uVo, r_uVb, r_uVlK, r_sqK, r_consK, r_opK, r_opJ, r_chK, r_chJ, r_chT, r_chF, r_clK, r_ntK, r_ngK, r_tpK, r_lsK, r_slK, r_slJ, r_slI, r_slL, r_slT, r_aPK, r_sqL, r_sqT, r_sqS, r_rtR, r_rtN, r_refO, r_refE, r_wdK, r_bAdd, r_bSub, r_bMul, r_bDiv, r_bMod, r_bPow, r_cLt, r_cLe, r_cGt, r_cGe, r_cEq, r_cNe, r_ixL, r_ixT, r_of, r_lenL, r_lenT, r_lenS, Pd.R.bind_ok, Pd.R.bind_err, Pd.R.bind_stuck, noE_ok', mul_r, div_i, mod_i, add_i, sub_i, lt_i, le_i, gt_i, ge_i, eq_i, ne_i, pow18, List.cons_append, List.nil_append, List.getElem?_cons_zero, List.getElem?_cons_succ, List.replicate_succ, List.replicate_zero, List.set_cons_zero, List.set_cons_succ, List.length_cons, List.length_nil, if_true, if_false, Bool.not_true, Bool.not_false, Bool.false_eq_true, ↓reduceIte, Nat.reduceAdd, Nat.reduceLeDiff, Nat.reduceLT, Nat.zero_add, Option.map_some, Int.cast_ofNat_Int, Int.natCast_one, Int.natCast_zero, Int.reduceBEq, Int.reduceLT, Int.reduceLE, Int.reduceAdd, Int.reduceSub, Int.reduceMul, Int.reduceNeg, Int.reduceDiv, Int.reduceMod, decide_true, decide_false, hk0]
    refine seq_nx (Γ1 := [.val (.int M), .val (.int (k + 1 : Nat)), .val (.int lo), .own (.lst []), .un, .un]) (by simp (implicitDefEqProofs := false) (disch := omega) only [↓r_seq, ↓r_next, ↓r_if, ↓r_eif, ↓r_set, ↓r_ret, ↓r_retV, ↓r_expr, ↓r_asg, ↓r_par, ↓r_app, ↓r_ext, ↓r_sto, ↓r_or1, ↓r_or, ↓r_and1, ↓r_and, ↓r_vor1, ↓r_vor, ↓r_vand1, ↓r_vand, ↓r_not, ↓r_tru, ↓r_isB, ↓r_eC, ↓r_rd, ↓r_vl, ↓r_rV, ↓r_eV, ↓r_uV, ↓r_uVl, ↓r_sq0, ↓r_sq, ↓r_e2, ↓r_e3, ↓r_call, ↓r_user, ↓r_enot, ↓r_eneg, ↓r_tup, ↓r_lst, ↓r_sl, ↓r_noP, ↓r_aP, ↓r_iOf, ↓r_iF, ↓r_def, ↓r_ref, r_seqNx, r_seqRt, r_seqBk, r_seqCt, r_ifT, r_ifF, r_setV, r_setOt, r_setOl, r_setOd, r_setOs, r_retK, r_retVv, r_retVo, r_asgK, r_tgN, r_tgT, r_tgL, r_tgs0, r_tgs, r_parK, r_ownL, r_ownLo, r_ownD, r_ownDo, r_appK, r_appJ, r_extK, r_extJ, r_stoK, r_stoI, r_stoJ, r_stoL, r_orT, r_orF, r_andT, r_andF, r_vorK, r_vorT, r_vorF, r_vandK, r_vandT, r_vandF, r_notK, r_truK, r_truB, r_truI, r_truL, r_truT, r_truN, r_isBK, r_rdV, r_rdO, r_dV, r_dO, r_valV, r_valL, r_valD, r_rVv, r_rVo, r_rVb, r_eVv, r_uVv, r_uVo, r_uVb, r_uVlK, r_sqK, r_consK, r_opK, r_opJ, r_chK, r_chJ, r_chT, r_chF, r_clK, r_ntK, r_ngK, r_tpK, r_lsK, r_slK, r_slJ, r_slI, r_slL, r_slT, r_aPK, r_sqL, r_sqT, r_sqS, r_rtR, r_rtN, r_refO, r_refE, r_wdK, r_bAdd, r_bSub, r_bMul, r_bDiv, r_bMod, r_bPow, r_cLt, r_cLe, r_cGt, r_cGe, r_cEq, r_cNe, r_ixL, r_ixT, r_of, r_lenL, r_lenT, r_lenS, Pd.R.bind_ok, Pd.R.bind_err, Pd.R.bind_stuck, noE_ok', mul_r, div_i, mod_i, add_i, sub_i, lt_i, le_i, gt_i, ge_i, eq_i, ne_i, pow18, List.cons_append, List.nil_append, List.getElem?_cons_zero, List.getElem?_cons_succ, List.replicate_succ, List.replicate_zero, List.set_cons_zero, List.set_cons_succ, List.length_cons, List.length_nil, if_true, if_false, Bool.not_true, Bool.not_false, Bool.false_eq_true, ↓reduceIte, Nat.reduceAdd, Nat.reduceLeDiff, Nat.reduceLT, Nat.zero_add, Option.map_some, Int.cast_ofNat_Int, Int.natCast_one, Int.natCast_zero, Int.reduceBEq, Int.reduceLT, Int.reduceLE, Int.reduceAdd, Int.reduceSub, Int.reduceMul, Int.reduceNeg, Int.reduceDiv, Int.reduceMod, decide_true, decide_false]) ?_
    refine seq_go (fun Γ => ∃ s4 s5, Γ = [.val (.int M), .val (.int (k + 1 : Nat)), .val (.int lo), .own (.lst ((allN M (k + 1) lo).map tN)), s4, s5]) ?_ ?_
    · have key := go_st (fi := iOf rngF2 (seqR [rVar 2, rd (e2 (dBin .Add) (rVar 0) (rd (eC (.int 1))))])) (t := 4) (b := sSeq (sExt 3 (rd (eLc (iF (rd (eUser (r n) (seqR [uVar 0, uVal (vl (e2 (dBin .Sub) (rVar 1) (rd (eC (.int 1))))), uVal (vl (e2 (dBin .Add) (rVar 4) (rd (eC (.int 1)))))])))) (.nm 5) ((fun _ => .ok true)) (vl (e2 (dBin .Add) (rd (eTup (seqR [vl (eVar 4)]))) (rVar 5))) ([5])))) sNext)
        (fun pre Γ => ∃ (p : List Nat) (s4 s5 : Sl), pre = nD p ∧ Γ = [.val (.int M), .val (.int (k + 1 : Nat)), .val (.int lo), .own (.lst ((p.flatMap fun x => (allN M k (x + 1)).map fun s => x :: s).map tN)), s4, s5])
        (Γ := [.val (.int M), .val (.int (k + 1 : Nat)), .val (.int lo), .own (.lst []), .un, .un]) (ds := nD (rgN lo M)) (by
          have := rg_v (lo := lo) (M := M) (by omega) (by omega)
          simp (implicitDefEqProofs := false) (disch := omega) only [↓r_seq, ↓r_next, ↓r_if, ↓r_eif, ↓r_set, ↓r_ret, ↓r_retV, ↓r_expr, ↓r_asg, ↓r_par, ↓r_app, ↓r_ext, ↓r_sto, ↓r_or1, ↓r_or, ↓r_and1, ↓r_and, ↓r_vor1, ↓r_vor, ↓r_vand1, ↓r_vand, ↓r_not, ↓r_tru, ↓r_isB, ↓r_eC, ↓r_rd, ↓r_vl, ↓r_rV, ↓r_eV, ↓r_uV, ↓r_uVl, ↓r_sq0, ↓r_sq, ↓r_e2, ↓r_e3, ↓r_call, ↓r_user, ↓r_enot, ↓r_eneg, ↓r_tup, ↓r_lst, ↓r_sl, ↓r_noP, ↓r_aP, ↓r_iOf, ↓r_iF, ↓r_def, ↓r_ref, r_seqNx, r_seqRt, r_seqBk, r_seqCt, r_ifT, r_ifF, r_setV, r_setOt, r_setOl, r_setOd, r_setOs, r_retK, r_retVv, r_retVo, r_asgK, r_tgN, r_tgT, r_tgL, r_tgs0, r_tgs, r_parK, r_ownL, r_ownLo, r_ownD, r_ownDo, r_appK, r_appJ, r_extK, r_extJ, r_stoK, r_stoI, r_stoJ, r_stoL, r_orT, r_orF, r_andT, r_andF, r_vorK, r_vorT, r_vorF, r_vandK, r_vandT, r_vandF, r_notK, r_truK, r_truB, r_truI, r_truL, r_truT, r_truN, r_isBK, r_rdV, r_rdO, r_dV, r_dO, r_valV, r_valL, r_valD, r_rVv, r_rVo, r_rVb, r_eVv, r_uVv, r_uVo, r_uVb, r_uVlK, r_sqK, r_consK, r_opK, r_opJ, r_chK, r_chJ, r_chT, r_chF, r_clK, r_ntK, r_ngK, r_tpK, r_lsK, r_slK, r_slJ, r_slI, r_slL, r_slT, r_aPK, r_sqL, r_sqT, r_sqS, r_rtR, r_rtN, r_refO, r_refE, r_wdK, r_bAdd, r_bSub, r_bMul, r_bDiv, r_bMod, r_bPow, r_cLt, r_cLe, r_cGt, r_cGe, r_cEq, r_cNe, r_ixL, r_ixT, r_of, r_lenL, r_lenT, r_lenS, Pd.R.bind_ok, Pd.R.bind_err, Pd.R.bind_stuck, noE_ok', mul_r, div_i, mod_i, add_i, sub_i, lt_i, le_i, gt_i, ge_i, eq_i, ne_i, pow18, List.cons_append, List.nil_append, List.getElem?_cons_zero, List.getElem?_cons_succ, List.replicate_succ, List.replicate_zero, List.set_cons_zero, List.set_cons_succ, List.length_cons, List.length_nil, if_true, if_false, Bool.not_true, Bool.not_false, Bool.false_eq_true, ↓reduceIte, Nat.reduceAdd, Nat.reduceLeDiff, Nat.reduceLT, Nat.zero_add, Option.map_some, Int.cast_ofNat_Int, Int.natCast_one, Int.natCast_zero, Int.reduceBEq, Int.reduceLT, Int.reduceLE, Int.reduceAdd, Int.reduceSub, Int.reduceMul, Int.reduceNeg, Int.reduceDiv, Int.reduceMod, decide_true, decide_false]
          exact this) ⟨[], _, _, rfl, rfl⟩ (by
          rintro a c x Γ e ⟨p, s4, s5, rfl, rfl⟩
          obtain ⟨y, hy, rfl⟩ : ∃ y ∈ rgN lo M, D.int (y : Int) = x := List.mem_map.mp (show x ∈ nD (rgN lo M) by rw [e]; exact List.mem_append_right _ (List.mem_cons_self ..))
          have hyb := rgN_mem.mp hy
          have hpl : p.length ≤ 100 := by
            have hl := congrArg List.length e
            rw [len_nD, rgN_len, List.length_append, len_nD] at hl
            omega
          have rec_ := lall_v hr hM n k (y + 1) (by omega) (by omega) (by omega) (by omega)
          have hy1 : ((y : Nat) : Int) + 1 = ((y + 1 : Nat) : Int) := rfl
          refine go_eq (Γ' := [.val (.int M), .val (.int (k + 1 : Nat)), .val (.int lo), .own (.lst (((p ++ [y]).flatMap fun x => (allN M k (x + 1)).map fun s => x :: s).map tN)), .val (.int y), s5]) ?_ ⟨p ++ [y], _, s5, by unfold nD; rw [List.map_append]; rfl, rfl⟩
          have el := lc_of (fi := iF (rd (eUser (r n) (seqR [uVar 0, uVal (vl (e2 (dBin .Sub) (rVar 1) (rd (eC (.int 1))))), uVal (vl (e2 (dBin .Add) (rVar 4) (rd (eC (.int 1)))))])))) (i := 5) (te := vl (e2 (dBin .Add) (rd (eTup (seqR [vl (eVar 4)]))) (rVar 5))) (vs := [5])
            (Γ := [.val (.int M), .val (.int (k + 1 : Nat)), .val (.int lo), .own (.lst ((p.flatMap fun x => (allN M k (x + 1)).map fun s => x :: s).map tN)), .val (.int y), s5]) (l := allN M k (y + 1)) (φ := tN) (fun s => tN (y :: s)) (by
              simp (implicitDefEqProofs := false) (disch := omega) only [↓r_seq, ↓r_next, ↓r_if, ↓r_eif, ↓r_set, ↓r_ret, ↓r_retV, ↓r_expr, ↓r_asg, ↓r_par, ↓r_app, ↓r_ext, ↓r_sto, ↓r_or1, ↓r_or, ↓r_and1, ↓r_and, ↓r_vor1, ↓r_vor, ↓r_vand1, ↓r_vand, ↓r_not, ↓r_tru, ↓r_isB, ↓r_eC, ↓r_rd, ↓r_vl, ↓r_rV, ↓r_eV, ↓r_uV, ↓r_uVl, ↓r_sq0, ↓r_sq, ↓r_e2, ↓r_e3, ↓r_call, ↓r_user, ↓r_enot, ↓r_eneg, ↓r_tup, ↓r_lst, ↓r_sl, ↓r_noP, ↓r_aP, ↓r_iOf, ↓r_iF, ↓r_def, ↓r_ref, r_seqNx, r_seqRt, r_seqBk, r_seqCt, r_ifT, r_ifF, r_setV, r_setOt, r_setOl, r_setOd, r_setOs, r_retK, r_retVv, r_retVo, r_asgK, r_tgN, r_tgT, r_tgL, r_tgs0, r_tgs, r_parK, r_ownL, r_ownLo, r_ownD, r_ownDo, r_appK, r_appJ, r_extK, r_extJ, r_stoK, r_stoI, r_stoJ, r_stoL, r_orT, r_orF, r_andT, r_andF, r_vorK, r_vorT, r_vorF, r_vandK, r_vandT, r_vandF, r_notK, r_truK, r_truB, r_truI, r_truL, r_truT, r_truN, r_isBK, r_rdV, r_rdO, r_dV, r_dO, r_valV, r_valL, r_valD, r_rVv, r_rVo, r_rVb, r_eVv, r_uVv, r_uVo, r_uVb, r_uVlK, r_sqK, r_consK, r_opK, r_opJ, r_chK, r_chJ, r_chT, r_chF, r_clK, r_ntK, r_ngK, r_tpK, r_lsK, r_slK, r_slJ, r_slI, r_slL, r_slT, r_aPK, r_sqL, r_sqT, r_sqS, r_rtR, r_rtN, r_refO, r_refE, r_wdK, r_bAdd, r_bSub, r_bMul, r_bDiv, r_bMod, r_bPow, r_cLt, r_cLe, r_cGt, r_cGe, r_cEq, r_cNe, r_ixL, r_ixT, r_of, r_lenL, r_lenT, r_lenS, Pd.R.bind_ok, Pd.R.bind_err, Pd.R.bind_stuck, noE_ok', mul_r, div_i, mod_i, add_i, sub_i, lt_i, le_i, gt_i, ge_i, eq_i, ne_i, pow18, List.cons_append, List.nil_append, List.getElem?_cons_zero, List.getElem?_cons_succ, List.replicate_succ, List.replicate_zero, List.set_cons_zero, List.set_cons_succ, List.length_cons, List.length_nil, if_true, if_false, Bool.not_true, Bool.not_false, Bool.false_eq_true, ↓reduceIte, Nat.reduceAdd, Nat.reduceLeDiff, Nat.reduceLT, Nat.zero_add, Option.map_some, Int.cast_ofNat_Int, Int.natCast_one, Int.natCast_zero, Int.reduceBEq, Int.reduceLT, Int.reduceLE, Int.reduceAdd, Int.reduceSub, Int.reduceMul, Int.reduceNeg, Int.reduceDiv, Int.reduceMod, decide_true, decide_false, hk1, hy1, rec_]) (fun s hs => by
              have ha : dAdd (.tup [.int (y : Int)]) (tN s) = some (.v (tN (y :: s))) := add_tN (s := [y]) (by rw [(all_mem hs).1, List.length_singleton]; omega)
              simp (implicitDefEqProofs := false) (disch := omega) only [↓r_seq, ↓r_next, ↓r_if, ↓r_eif, ↓r_set, ↓r_ret, ↓r_retV, ↓r_expr, ↓r_asg, ↓r_par, ↓r_app, ↓r_ext, ↓r_sto, ↓r_or1, ↓r_or, ↓r_and1, ↓r_and, ↓r_vor1, ↓r_vor, ↓r_vand1, ↓r_vand, ↓r_not, ↓r_tru, ↓r_isB, ↓r_eC, ↓r_rd, ↓r_vl, ↓r_rV, ↓r_eV, ↓r_uV, ↓r_uVl, ↓r_sq0, ↓r_sq, ↓r_e2, ↓r_e3, ↓r_call, ↓r_user, ↓r_enot, ↓r_eneg, ↓r_tup, ↓r_lst, ↓r_sl, ↓r_noP, ↓r_aP, ↓r_iOf, ↓r_iF, ↓r_def, ↓r_ref, r_seqNx, r_seqRt, r_seqBk, r_seqCt, r_ifT, r_ifF, r_setV, r_setOt, r_setOl, r_setOd, r_setOs, r_retK, r_retVv, r_retVo, r_asgK, r_tgN, r_tgT, r_tgL, r_tgs0, r_tgs, r_parK, r_ownL, r_ownLo, r_ownD, r_ownDo, r_appK, r_appJ, r_extK, r_extJ, r_stoK, r_stoI, r_stoJ, r_stoL, r_orT, r_orF, r_andT, r_andF, r_vorK, r_vorT, r_vorF, r_vandK, r_vandT, r_vandF, r_notK, r_truK, r_truB, r_truI, r_truL, r_truT, r_truN, r_isBK, r_rdV, r_rdO, r_dV, r_dO, r_valV, r_valL, r_valD, r_rVv, r_rVo, r_rVb, r_eVv, r_uVv, r_uVo, r_uVb, r_uVlK, r_sqK, r_consK, r_opK, r_opJ, r_chK, r_chJ, r_chT, r_chF, r_clK, r_ntK, r_ngK, r_tpK, r_lsK, r_slK, r_slJ, r_slI, r_slL, r_slT, r_aPK, r_sqL, r_sqT, r_sqS, r_rtR, r_rtN, r_refO, r_refE, r_wdK, r_bAdd, r_bSub, r_bMul, r_bDiv, r_bMod, r_bPow, r_cLt, r_cLe, r_cGt, r_cGe, r_cEq, r_cNe, r_ixL, r_ixT, r_of, r_lenL, r_lenT, r_lenS, Pd.R.bind_ok, Pd.R.bind_err, Pd.R.bind_stuck, noE_ok', mul_r, div_i, mod_i, add_i, sub_i, lt_i, le_i, gt_i, ge_i, eq_i, ne_i, pow18, List.cons_append, List.nil_append, List.getElem?_cons_zero, List.getElem?_cons_succ, List.replicate_succ, List.replicate_zero, List.set_cons_zero, List.set_cons_succ, List.length_cons, List.length_nil, if_true, if_false, Bool.not_true, Bool.not_false, Bool.false_eq_true, ↓reduceIte, Nat.reduceAdd, Nat.reduceLeDiff, Nat.reduceLT, Nat.zero_add, Option.map_some, Int.cast_ofNat_Int, Int.natCast_one, Int.natCast_zero, Int.reduceBEq, Int.reduceLT, Int.reduceLE, Int.reduceAdd, Int.reduceSub, Int.reduceMul, Int.reduceNeg, Int.reduceDiv, Int.reduceMod, decide_true, decide_false, wipeG, ha])
          have hb : ((p.flatMap fun x => (allN M k (x + 1)).map fun s => x :: s).map tN).length + ((allN M k (y + 1)).map fun s => tN (y :: s)).length ≤ 16777216 := by
            rw [List.length_map, List.length_map, List.length_flatMap]
            have h1 := sum_leA (fun x => ((allN M k (x + 1)).map fun s => x :: s).length) 3375 p fun x _ => by
              rw [List.length_map]
              exact all_small hM (by omega) (by omega)
            have h2 := all_small (M := M) (k := k) (lo := y + 1) hM (by omega) (by omega)
            omega
          simp (implicitDefEqProofs := false) (disch := omega) only [↓r_seq, ↓r_next, ↓r_if, ↓r_eif, ↓r_set, ↓r_ret, ↓r_retV, ↓r_expr, ↓r_asg, ↓r_par, ↓r_app, ↓r_ext, ↓r_sto, ↓r_or1, ↓r_or, ↓r_and1, ↓r_and, ↓r_vor1, ↓r_vor, ↓r_vand1, ↓r_vand, ↓r_not, ↓r_tru, ↓r_isB, ↓r_eC, ↓r_rd, ↓r_vl, ↓r_rV, ↓r_eV, ↓r_uV, ↓r_uVl, ↓r_sq0, ↓r_sq, ↓r_e2, ↓r_e3, ↓r_call, ↓r_user, ↓r_enot, ↓r_eneg, ↓r_tup, ↓r_lst, ↓r_sl, ↓r_noP, ↓r_aP, ↓r_iOf, ↓r_iF, ↓r_def, ↓r_ref, r_seqNx, r_seqRt, r_seqBk, r_seqCt, r_ifT, r_ifF, r_setV, r_setOt, r_setOl, r_setOd, r_setOs, r_retK, r_retVv, r_retVo, r_asgK, r_tgN, r_tgT, r_tgL, r_tgs0, r_tgs, r_parK, r_ownL, r_ownLo, r_ownD, r_ownDo, r_appK, r_appJ, r_extK, r_extJ, r_stoK, r_stoI, r_stoJ, r_stoL, r_orT, r_orF, r_andT, r_andF, r_vorK, r_vorT, r_vorF, r_vandK, r_vandT, r_vandF, r_notK, r_truK, r_truB, r_truI, r_truL, r_truT, r_truN, r_isBK, r_rdV, r_rdO, r_dV, r_dO, r_valV, r_valL, r_valD, r_rVv, r_rVo, r_rVb, r_eVv, r_uVv, r_uVo, r_uVb, r_uVlK, r_sqK, r_consK, r_opK, r_opJ, r_chK, r_chJ, r_chT, r_chF, r_clK, r_ntK, r_ngK, r_tpK, r_lsK, r_slK, r_slJ, r_slI, r_slL, r_slT, r_aPK, r_sqL, r_sqT, r_sqS, r_rtR, r_rtN, r_refO, r_refE, r_wdK, r_bAdd, r_bSub, r_bMul, r_bDiv, r_bMod, r_bPow, r_cLt, r_cLe, r_cGt, r_cGe, r_cEq, r_cNe, r_ixL, r_ixT, r_of, r_lenL, r_lenT, r_lenS, Pd.R.bind_ok, Pd.R.bind_err, Pd.R.bind_stuck, noE_ok', mul_r, div_i, mod_i, add_i, sub_i, lt_i, le_i, gt_i, ge_i, eq_i, ne_i, pow18, List.cons_append, List.nil_append, List.getElem?_cons_zero, List.getElem?_cons_succ, List.replicate_succ, List.replicate_zero, List.set_cons_zero, List.set_cons_succ, List.length_cons, List.length_nil, if_true, if_false, Bool.not_true, Bool.not_false, Bool.false_eq_true, ↓reduceIte, Nat.reduceAdd, Nat.reduceLeDiff, Nat.reduceLT, Nat.zero_add, Option.map_some, Int.cast_ofNat_Int, Int.natCast_one, Int.natCast_zero, Int.reduceBEq, Int.reduceLT, Int.reduceLE, Int.reduceAdd, Int.reduceSub, Int.reduceMul, Int.reduceNeg, Int.reduceDiv, Int.reduceMod, decide_true, decide_false, el, r_extJ hb]
          rw [List.flatMap_append, List.map_append, List.flatMap_singleton, List.map_map]
          rfl)
      exact go_mono key fun Γ ⟨p, s4, s5, e, h⟩ => by
        obtain rfl : p = rgN lo M := (nD_inj e).symm
        exact ⟨s4, s5, h⟩
    rintro Γ ⟨s4, s5, rfl⟩
    simp (implicitDefEqProofs := false) (disch := omega) only [↓r_seq, ↓r_next, ↓r_if, ↓r_eif, ↓r_set, ↓r_ret, ↓r_retV, ↓r_expr, ↓r_asg, ↓r_par, ↓r_app, ↓r_ext, ↓r_sto, ↓r_or1, ↓r_or, ↓r_and1, ↓r_and, ↓r_vor1, ↓r_vor, ↓r_vand1, ↓r_vand, ↓r_not, ↓r_tru, ↓r_isB, ↓r_eC, ↓r_rd, ↓r_vl, ↓r_rV, ↓r_eV, ↓r_uV, ↓r_uVl, ↓r_sq0, ↓r_sq, ↓r_e2, ↓r_e3, ↓r_call, ↓r_user, ↓r_enot, ↓r_eneg, ↓r_tup, ↓r_lst, ↓r_sl, ↓r_noP, ↓r_aP, ↓r_iOf, ↓r_iF, ↓r_def, ↓r_ref, r_seqNx, r_seqRt, r_seqBk, r_seqCt, r_ifT, r_ifF, r_setV, r_setOt, r_setOl, r_setOd, r_setOs, r_retK, r_retVv, r_retVo, r_asgK, r_tgN, r_tgT, r_tgL, r_tgs0, r_tgs, r_parK, r_ownL, r_ownLo, r_ownD, r_ownDo, r_appK, r_appJ, r_extK, r_extJ, r_stoK, r_stoI, r_stoJ, r_stoL, r_orT, r_orF, r_andT, r_andF, r_vorK, r_vorT, r_vorF, r_vandK, r_vandT, r_vandF, r_notK, r_truK, r_truB, r_truI, r_truL, r_truT, r_truN, r_isBK, r_rdV, r_rdO, r_dV, r_dO, r_valV, r_valL, r_valD, r_rVv, r_rVo, r_rVb, r_eVv, r_uVv, r_uVo, r_uVb, r_uVlK, r_sqK, r_consK, r_opK, r_opJ, r_chK, r_chJ, r_chT, r_chF, r_clK, r_ntK, r_ngK, r_tpK, r_lsK, r_slK, r_slJ, r_slI, r_slL, r_slT, r_aPK, r_sqL, r_sqT, r_sqS, r_rtR, r_rtN, r_refO, r_refE, r_wdK, r_bAdd, r_bSub, r_bMul, r_bDiv, r_bMod, r_bPow, r_cLt, r_cLe, r_cGt, r_cGe, r_cEq, r_cNe, r_ixL, r_ixT, r_of, r_lenL, r_lenT, r_lenS, Pd.R.bind_ok, Pd.R.bind_err, Pd.R.bind_stuck, noE_ok', mul_r, div_i, mod_i, add_i, sub_i, lt_i, le_i, gt_i, ge_i, eq_i, ne_i, pow18, List.cons_append, List.nil_append, List.getElem?_cons_zero, List.getElem?_cons_succ, List.replicate_succ, List.replicate_zero, List.set_cons_zero, List.set_cons_succ, List.length_cons, List.length_nil, if_true, if_false, Bool.not_true, Bool.not_false, Bool.false_eq_true, ↓reduceIte, Nat.reduceAdd, Nat.reduceLeDiff, Nat.reduceLT, Nat.zero_add, Option.map_some, Int.cast_ofNat_Int, Int.natCast_one, Int.natCast_zero, Int.reduceBEq, Int.reduceLT, Int.reduceLE, Int.reduceAdd, Int.reduceSub, Int.reduceMul, Int.reduceNeg, Int.reduceDiv, Int.reduceMod, decide_true, decide_false]
def IsWid (m : Nat) (s : List Nat) (W : Nat) : Prop := ∃ G : List Nat, Dist m s 0 (G.map some) ∧ G.length = m ∧ W ∈ G ∧ ∀ g ∈ G, g ≤ W
theorem wid_ex {m : Nat} {s : List Nat} (R : Ring m s) (h : gcdL m s = 1) : ∃ W, IsWid m s W := by
  obtain ⟨G, h1, h2, _, _⟩ := whole_steps R h
  obtain ⟨W, _, hW, hle⟩ := max_nD (G := G) (by have := R.m3; omega)
  exact ⟨W, G, h1, h2, hW, hle⟩
theorem wid_fun (m : Nat) : ∃ w : List Nat → Nat, ∀ s, Ring m s → gcdL m s = 1 → IsWid m s (w s) := by
  have : ∀ s, ∃ W, Ring m s → gcdL m s = 1 → IsWid m s W := fun s => by
    by_cases h : Ring m s ∧ gcdL m s = 1
    · obtain ⟨W, hW⟩ := wid_ex h.1 h.2
      exact ⟨W, fun _ _ => hW⟩
    · exact ⟨0, fun a b => absurd ⟨a, b⟩ h⟩
  exact ⟨fun s => Classical.choose (this s), fun s => Classical.choose_spec (this s)⟩
theorem wid_uni {m : Nat} {s : List Nat} {W W' : Nat} (h : IsWid m s W) (h' : IsWid m s W') : W = W' := by
  obtain ⟨G, a1, _, a2, a3⟩ := h
  obtain ⟨G', b1, _, b2, b3⟩ := h'
  have e : G = G' := (List.map_inj_right fun _ _ e => Option.some.inj e).mp (dist_unique a1 b1)
  subst e
  have := a3 _ b2
  have := b3 _ a2
  omega
theorem wid_steps {m : Nat} {s : List Nat} {W : Nat} (R : Ring m s) (h : gcdL m s = 1) (hW : IsWid m s W) : ∃ G : List Nat, d_steps_of [.val (ringD m s)] = .ok (.o (.lst (nD G))) ∧ d__law_steps [.val (ringD m s), .val (.int 0)] = .ok (.o (.lst (nD G))) ∧ fMax [.lst (nD G)] = some (.v (.int W)) := by
  obtain ⟨G, h1, h2, _, es⟩ := whole_steps R h
  obtain ⟨W', eW, hW', hle⟩ := max_nD (G := G) (by have := R.m3; omega)
  obtain rfl := wid_uni hW ⟨G, h1, h2, hW', hle⟩
  obtain ⟨F, hF, el⟩ := lsteps_d R (p := 0) (by have := R.m3; omega)
  rw [dist_unique hF h1, fD_some] at el
  exact ⟨G, es, el, eW⟩
theorem shp_fD (F : List (Option Nat)) : shp (.lst (fD F)) = true := by
  refine shp_of ?_ ?_
  · refine pur_lay _ ?_
    rw [purD]
    induction F with
    | nil => rfl
    | cons o F ih =>
      show (purD (oD o) && purDs (fD F)) = true
      rw [ih]
      cases o <;> rfl
  · rw [depD]
    have : depDs (fD F) = 0 := by
      induction F with
      | nil => rfl
      | cons o F ih =>
        show max (depD (oD o)) (depDs (fD F)) = 0
        rw [ih]
        cases o <;> simp [oD, depD]
    omega
theorem none_fD (F : List (Option Nat)) : dInO true .non (.lst (fD F)) = some (.v (.bl (F.all fun o => o.isSome))) := by
  have h : (pyDs (fD F)).any (fun z => PyData.eqv z (pyD .non)) = !(F.all fun o => o.isSome) := by
    induction F with
    | nil => rfl
    | cons o F ih =>
      show (PyData.eqv (pyD (oD o)) (pyD .non) || (pyDs (fD F)).any (fun z => PyData.eqv z (pyD .non))) = _
      rw [ih, List.all_cons]
      cases o <;> simp [oD, pyD, PyData.eqv]
  unfold dInO dIn
  dsimp only
  rw [if_pos ⟨by decide +kernel, shp_fD F⟩, h]
  cases (F.all fun o => o.isSome) <;> rfl
theorem all_isSome_whole {m : Nat} {s : List Nat} (R : Ring m s) {F : List (Option Nat)} (hF : Dist m s 0 F) : (F.all fun o => o.isSome) = decide (gcdL m s = 1) := by
  have h3 := R.m3
  rw [Bool.eq_iff_iff, decide_eq_true_eq, List.all_eq_true]
  have hd := fun q (hq : q < m) => dist_some R (p := 0) (q := q) (by omega) hq hF
  constructor
  · intro h
    have h1 := hd 1 (by omega)
    rw [getD_get _ (by rw [hF.len]; omega), h _ (List.getElem_mem _)] at h1
    have h2 := of_decide_eq_true h1.symm
    rw [Nat.zero_mod] at h2
    exact Nat.dvd_one.mp (Nat.dvd_of_mod_eq_zero h2)
  · intro h o ho
    obtain ⟨q, hq, rfl⟩ := List.mem_iff_getElem.mp ho
    have hq' : q < m := by rw [← hF.len]; exact hq
    have h1 := hd q hq'
    rw [getD_get _ hq, h, Nat.mod_one, Nat.mod_one] at h1
    rw [h1]
    rfl
end Pd

set_option Elab.async false
set_option linter.all false
set_option maxRecDepth 100000
set_option maxHeartbeats 1000000
namespace Pd
open PySem PySem.Spec L2 Pr
def gdN (m k : Nat) : List (List Nat) := (allN (m / 2) k 1).filter fun s => decide (gcdL m s = 1)
def wN (w : List Nat → Nat) (s : List Nat) : D := .tup [.int (w s : Nat), tN s]
theorem ring_all {m k : Nat} (h3 : 3 ≤ m) (h30 : m ≤ 30) (hk : 1 ≤ k) (hk3 : k ≤ 3) {s : List Nat} (h : s ∈ allN (m / 2) k 1) : Ring m s := by
  obtain ⟨h1, h2, hb⟩ := all_mem h
  exact ⟨h3, by omega, by omega, by omega, h2, fun l hl => (hb l hl).1, fun l hl => (hb l hl).2⟩
theorem k_min {m k : Nat} (hk3 : k ≤ 3) (hkm : k ≤ m / 2) : (k : Int) ≤ (if ((m / 2 : Nat) : Int) < 3 then ((m / 2 : Nat) : Int) else 3) := by
  split <;> omega
theorem widths_v {m k : Nat} (h3 : 3 ≤ m) (h30 : m ≤ 30) (hk : 1 ≤ k) (hk3 : k ≤ 3) (hkm : k ≤ m / 2) {w : List Nat → Nat} (hw : ∀ s, Ring m s → gcdL m s = 1 → IsWid m s (w s)) :
    d_widths [.val (.int m), .val (.int k)] = .ok (.o (.lst ((gdN m k).map (wN w)))) := by
  unfold d_widths
  refine def_rt ?_
  unfold f_widths
  show sSeq _ _ [.val (.int m), .val (.int k), .un, .un] = _
  have n1 : d_need_number [.val (.int (m : Int)), .val (.int 3), .val (.int 30)] = .ok (.v .non) := need_number_ok (by omega) (by omega)
  have d2 : (m : Int) / 2 = ((m / 2 : Nat) : Int) := rfl
  have n2 : d_need_number [.val (.int (k : Int)), .val (.int 1), .val (.int (if ((m / 2 : Nat) : Int) < 3 then ((m / 2 : Nat) : Int) else 3))] = .ok (.v .non) := need_number_ok (by omega) (k_min hk3 hkm)
  have pk := picks_v (M := m / 2) (k := k) (by omega) hk3
  refine seq_nx (Γ1 := [.val (.int m), .val (.int k), .un, .un]) (by simp (implicitDefEqProofs := false) (disch := omega) only [↓r_seq, ↓r_next, ↓r_if, ↓r_eif, ↓r_set, ↓r_ret, ↓r_retV, ↓r_expr, ↓r_asg, ↓r_par, ↓r_app, ↓r_ext, ↓r_sto, ↓r_or1, ↓r_or, ↓r_and1, ↓r_and, ↓r_vor1, ↓r_vor, ↓r_vand1, ↓r_vand, ↓r_not, ↓r_tru, ↓r_isB, ↓r_eC, ↓r_rd, ↓r_vl, ↓r_rV, ↓r_eV, ↓r_uV, ↓r_uVl, ↓r_sq0, ↓r_sq, ↓r_e2, ↓r_e3, ↓r_call, ↓r_user, ↓r_enot, ↓r_eneg, ↓r_tup, ↓r_lst, ↓r_sl, ↓r_noP, ↓r_aP, ↓r_iOf, ↓r_iF, ↓r_def, ↓r_ref, r_seqNx, r_seqRt, r_seqBk, r_seqCt, r_ifT, r_ifF, r_setV, r_setOt, r_setOl, r_setOd, r_setOs, r_retK, r_retVv, r_retVo, r_asgK, r_tgN, r_tgT, r_tgL, r_tgs0, r_tgs, r_parK, r_ownL, r_ownLo, r_ownD, r_ownDo, r_appK, r_appJ, r_extK, r_extJ, r_stoK, r_stoI, r_stoJ, r_stoL, r_orT, r_orF, r_andT, r_andF, r_vorK, r_vorT, r_vorF, r_vandK, r_vandT, r_vandF, r_notK, r_truK, r_truB, r_truI, r_truL, r_truT, r_truN, r_isBK, r_rdV, r_rdO, r_dV, r_dO, r_valV, r_valL, r_valD, r_rVv, r_rVo, r_rVb, r_eVv, r_uVv, r_uVo, r_uVb, r_uVlK, r_sqK, r_consK, r_opK, r_opJ, r_chK, r_chJ, r_chT, r_chF, r_clK, r_ntK, r_ngK, r_tpK, r_lsK, r_slK, r_slJ, r_slI, r_slL, r_slT, r_aPK, r_sqL, r_sqT, r_sqS, r_rtR, r_rtN, r_refO, r_refE, r_wdK, r_bAdd, r_bSub, r_bMul, r_bDiv, r_bMod, r_bPow, r_cLt, r_cLe, r_cGt, r_cGe, r_cEq, r_cNe, r_ixL, r_ixT, r_of, r_lenL, r_lenT, r_lenS, Pd.R.bind_ok, Pd.R.bind_err, Pd.R.bind_stuck, noE_ok', mul_r, div_i, mod_i, add_i, sub_i, lt_i, le_i, gt_i, ge_i, eq_i, ne_i, pow18, List.cons_append, List.nil_append, List.getElem?_cons_zero, List.getElem?_cons_succ, List.replicate_succ, List.replicate_zero, List.set_cons_zero, List.set_cons_succ, List.length_cons, List.length_nil, if_true, if_false, Bool.not_true, Bool.not_false, Bool.false_eq_true, ↓reduceIte, Nat.reduceAdd, Nat.reduceLeDiff, Nat.reduceLT, Nat.zero_add, Option.map_some, Int.cast_ofNat_Int, Int.natCast_one, Int.natCast_zero, Int.reduceBEq, Int.reduceLT, Int.reduceLE, Int.reduceAdd, Int.reduceSub, Int.reduceMul, Int.reduceNeg, Int.reduceDiv, Int.reduceMod, decide_true, decide_false, n1]) ?_
  refine seq_nx (Γ1 := [.val (.int m), .val (.int k), .un, .un]) (by simp (implicitDefEqProofs := false) (disch := omega) only [↓r_seq, ↓r_next, ↓r_if, ↓r_eif, ↓r_set, ↓r_ret, ↓r_retV, ↓r_expr, ↓r_asg, ↓r_par, ↓r_app, ↓r_ext, ↓r_sto, ↓r_or1, ↓r_or, ↓r_and1, ↓r_and, ↓r_vor1, ↓r_vor, ↓r_vand1, ↓r_vand, ↓r_not, ↓r_tru, ↓r_isB, ↓r_eC, ↓r_rd, ↓r_vl, ↓r_rV, ↓r_eV, ↓r_uV, ↓r_uVl, ↓r_sq0, ↓r_sq, ↓r_e2, ↓r_e3, ↓r_call, ↓r_user, ↓r_enot, ↓r_eneg, ↓r_tup, ↓r_lst, ↓r_sl, ↓r_noP, ↓r_aP, ↓r_iOf, ↓r_iF, ↓r_def, ↓r_ref, r_seqNx, r_seqRt, r_seqBk, r_seqCt, r_ifT, r_ifF, r_setV, r_setOt, r_setOl, r_setOd, r_setOs, r_retK, r_retVv, r_retVo, r_asgK, r_tgN, r_tgT, r_tgL, r_tgs0, r_tgs, r_parK, r_ownL, r_ownLo, r_ownD, r_ownDo, r_appK, r_appJ, r_extK, r_extJ, r_stoK, r_stoI, r_stoJ, r_stoL, r_orT, r_orF, r_andT, r_andF, r_vorK, r_vorT, r_vorF, r_vandK, r_vandT, r_vandF, r_notK, r_truK, r_truB, r_truI, r_truL, r_truT, r_truN, r_isBK, r_rdV, r_rdO, r_dV, r_dO, r_valV, r_valL, r_valD, r_rVv, r_rVo, r_rVb, r_eVv, r_uVv, r_uVo, r_uVb, r_uVlK, r_sqK, r_consK, r_opK, r_opJ, r_chK, r_chJ, r_chT, r_chF, r_clK, r_ntK, r_ngK, r_tpK, r_lsK, r_slK, r_slJ, r_slI, r_slL, r_slT, r_aPK, r_sqL, r_sqT, r_sqS, r_rtR, r_rtN, r_refO, r_refE, r_wdK, r_bAdd, r_bSub, r_bMul, r_bDiv, r_bMod, r_bPow, r_cLt, r_cLe, r_cGt, r_cGe, r_cEq, r_cNe, r_ixL, r_ixT, r_of, r_lenL, r_lenT, r_lenS, Pd.R.bind_ok, Pd.R.bind_err, Pd.R.bind_stuck, noE_ok', mul_r, div_i, mod_i, add_i, sub_i, lt_i, le_i, gt_i, ge_i, eq_i, ne_i, pow18, List.cons_append, List.nil_append, List.getElem?_cons_zero, List.getElem?_cons_succ, List.replicate_succ, List.replicate_zero, List.set_cons_zero, List.set_cons_succ, List.length_cons, List.length_nil, if_true, if_false, Bool.not_true, Bool.not_false, Bool.false_eq_true, ↓reduceIte, Nat.reduceAdd, Nat.reduceLeDiff, Nat.reduceLT, Nat.zero_add, Option.map_some, Int.cast_ofNat_Int, Int.natCast_one, Int.natCast_zero, Int.reduceBEq, Int.reduceLT, Int.reduceLE, Int.reduceAdd, Int.reduceSub, Int.reduceMul, Int.reduceNeg, Int.reduceDiv, Int.reduceMod, decide_true, decide_false, d2, min_i, n2]) ?_
  refine seq_nx (Γ1 := [.val (.int m), .val (.int k), .own (.lst []), .un]) (by simp (implicitDefEqProofs := false) (disch := omega) only [↓r_seq, ↓r_next, ↓r_if, ↓r_eif, ↓r_set, ↓r_ret, ↓r_retV, ↓r_expr, ↓r_asg, ↓r_par, ↓r_app, ↓r_ext, ↓r_sto, ↓r_or1, ↓r_or, ↓r_and1, ↓r_and, ↓r_vor1, ↓r_vor, ↓r_vand1, ↓r_vand, ↓r_not, ↓r_tru, ↓r_isB, ↓r_eC, ↓r_rd, ↓r_vl, ↓r_rV, ↓r_eV, ↓r_uV, ↓r_uVl, ↓r_sq0, ↓r_sq, ↓r_e2, ↓r_e3, ↓r_call, ↓r_user, ↓r_enot, ↓r_eneg, ↓r_tup, ↓r_lst, ↓r_sl, ↓r_noP, ↓r_aP, ↓r_iOf, ↓r_iF, ↓r_def, ↓r_ref, r_seqNx, r_seqRt, r_seqBk, r_seqCt, r_ifT, r_ifF, r_setV, r_setOt, r_setOl, r_setOd, r_setOs, r_retK, r_retVv, r_retVo, r_asgK, r_tgN, r_tgT, r_tgL, r_tgs0, r_tgs, r_parK, r_ownL, r_ownLo, r_ownD, r_ownDo, r_appK, r_appJ, r_extK, r_extJ, r_stoK, r_stoI, r_stoJ, r_stoL, r_orT, r_orF, r_andT, r_andF, r_vorK, r_vorT, r_vorF, r_vandK, r_vandT, r_vandF, r_notK, r_truK, r_truB, r_truI, r_truL, r_truT, r_truN, r_isBK, r_rdV, r_rdO, r_dV, r_dO, r_valV, r_valL, r_valD, r_rVv, r_rVo, r_rVb, r_eVv, r_uVv, r_uVo, r_uVb, r_uVlK, r_sqK, r_consK, r_opK, r_opJ, r_chK, r_chJ, r_chT, r_chF, r_clK, r_ntK, r_ngK, r_tpK, r_lsK, r_slK, r_slJ, r_slI, r_slL, r_slT, r_aPK, r_sqL, r_sqT, r_sqS, r_rtR, r_rtN, r_refO, r_refE, r_wdK, r_bAdd, r_bSub, r_bMul, r_bDiv, r_bMod, r_bPow, r_cLt, r_cLe, r_cGt, r_cGe, r_cEq, r_cNe, r_ixL, r_ixT, r_of, r_lenL, r_lenT, r_lenS, Pd.R.bind_ok, Pd.R.bind_err, Pd.R.bind_stuck, noE_ok', mul_r, div_i, mod_i, add_i, sub_i, lt_i, le_i, gt_i, ge_i, eq_i, ne_i, pow18, List.cons_append, List.nil_append, List.getElem?_cons_zero, List.getElem?_cons_succ, List.replicate_succ, List.replicate_zero, List.set_cons_zero, List.set_cons_succ, List.length_cons, List.length_nil, if_true, if_false, Bool.not_true, Bool.not_false, Bool.false_eq_true, ↓reduceIte, Nat.reduceAdd, Nat.reduceLeDiff, Nat.reduceLT, Nat.zero_add, Option.map_some, Int.cast_ofNat_Int, Int.natCast_one, Int.natCast_zero, Int.reduceBEq, Int.reduceLT, Int.reduceLE, Int.reduceAdd, Int.reduceSub, Int.reduceMul, Int.reduceNeg, Int.reduceDiv, Int.reduceMod, decide_true, decide_false]) ?_
  refine seq_go (fun Γ => ∃ s3, Γ = [.val (.int m), .val (.int k), .own (.lst ((gdN m k).map (wN w))), s3]) ?_ ?_
  · have key := go_st (fi := iF (vl (eUser d_picks (seqR [uVal (vl (e2 (dBin .FloorDiv) (rVar 0) (rd (eC (.int 2))))), uVar 1])))) (t := 3) (b := sSeq (sIf (isB (e2 (dCmp .Eq) (rd (eUser d_pieces_of (seqR [uVal (vl (eTup (seqR [vl (eVar 0), vl (eVar 3)])))]))) (rd (eC (.int 1))))) (sSeq (sApp 2 (vl (eTup (seqR [vl (eCall fMax (seqR [rd (eUser d_steps_of (seqR [uVal (vl (eTup (seqR [vl (eVar 0), vl (eVar 3)])))]))])), vl (eVar 3)])))) sNext) sNext) sNext)
      (fun pre Γ => ∃ (p : List (List Nat)) (s3 : Sl), pre = p.map tN ∧ Γ = [.val (.int m), .val (.int k), .own (.lst ((p.filter fun s => decide (gcdL m s = 1)).map (wN w))), s3])
      (Γ := [.val (.int m), .val (.int k), .own (.lst []), .un]) (ds := (allN (m / 2) k 1).map tN) (by simp (implicitDefEqProofs := false) (disch := omega) only [↓r_seq, ↓r_next, ↓r_if, ↓r_eif, ↓r_set, ↓r_ret, ↓r_retV, ↓r_expr, ↓r_asg, ↓r_par, ↓r_app, ↓r_ext, ↓r_sto, ↓r_or1, ↓r_or, ↓r_and1, ↓r_and, ↓r_vor1, ↓r_vor, ↓r_vand1, ↓r_vand, ↓r_not, ↓r_tru, ↓r_isB, ↓r_eC, ↓r_rd, ↓r_vl, ↓r_rV, ↓r_eV, ↓r_uV, ↓r_uVl, ↓r_sq0, ↓r_sq, ↓r_e2, ↓r_e3, ↓r_call, ↓r_user, ↓r_enot, ↓r_eneg, ↓r_tup, ↓r_lst, ↓r_sl, ↓r_noP, ↓r_aP, ↓r_iOf, ↓r_iF, ↓r_def, ↓r_ref, r_seqNx, r_seqRt, r_seqBk, r_seqCt, r_ifT, r_ifF, r_setV, r_setOt, r_setOl, r_setOd, r_setOs, r_retK, r_retVv, r_retVo, r_asgK, r_tgN, r_tgT, r_tgL, r_tgs0, r_tgs, r_parK, r_ownL, r_ownLo, r_ownD, r_ownDo, r_appK, r_appJ, r_extK, r_extJ, r_stoK, r_stoI, r_stoJ, r_stoL, r_orT, r_orF, r_andT, r_andF, r_vorK, r_vorT, r_vorF, r_vandK, r_vandT, r_vandF, r_notK, r_truK, r_truB, r_truI, r_truL, r_truT, r_truN, r_isBK, r_rdV, r_rdO, r_dV, r_dO, r_valV, r_valL, r_valD, r_rVv, r_rVo, r_rVb, r_eVv, r_uVv, r_uVo, r_uVb, r_uVlK, r_sqK, r_consK, r_opK, r_opJ, r_chK, r_chJ, r_chT, r_chF, r_clK, r_ntK, r_ngK, r_tpK, r_lsK, r_slK, r_slJ, r_slI, r_slL, r_slT, r_aPK, r_sqL, r_sqT, r_sqS, r_rtR, r_rtN, r_refO, r_refE, r_wdK, r_bAdd, r_bSub, r_bMul, r_bDiv, r_bMod, r_bPow, r_cLt, r_cLe, r_cGt, r_cGe, r_cEq, r_cNe, r_ixL, r_ixT, r_of, r_lenL, r_lenT, r_lenS, Pd.R.bind_ok, Pd.R.bind_err, Pd.R.bind_stuck, noE_ok', mul_r, div_i, mod_i, add_i, sub_i, lt_i, le_i, gt_i, ge_i, eq_i, ne_i, pow18, List.cons_append, List.nil_append, List.getElem?_cons_zero, List.getElem?_cons_succ, List.replicate_succ, List.replicate_zero, List.set_cons_zero, List.set_cons_succ, List.length_cons, List.length_nil, if_true, if_false, Bool.not_true, Bool.not_false, Bool.false_eq_true, ↓reduceIte, Nat.reduceAdd, Nat.reduceLeDiff, Nat.reduceLT, Nat.zero_add, Option.map_some, Int.cast_ofNat_Int, Int.natCast_one, Int.natCast_zero, Int.reduceBEq, Int.reduceLT, Int.reduceLE, Int.reduceAdd, Int.reduceSub, Int.reduceMul, Int.reduceNeg, Int.reduceDiv, Int.reduceMod, decide_true, decide_false, d2, pk]) ⟨[], _, rfl, rfl⟩ (by
        rintro a c x Γ e ⟨p, s3, rfl, rfl⟩
        obtain ⟨s, hs, rfl⟩ : ∃ s ∈ allN (m / 2) k 1, tN s = x := List.mem_map.mp (by rw [e]; exact List.mem_append_right _ (List.mem_cons_self ..))
        have R := ring_all h3 h30 hk hk3 hs
        have hpl : p.length ≤ 3375 := by
          have hl := congrArg List.length e
          rw [List.length_map, List.length_append, List.length_map] at hl
          have := all_small (M := m / 2) (k := k) (lo := 1) (by omega) (by omega) (by omega)
          omega
        have hfl : ((p.filter fun s => decide (gcdL m s = 1)).map (wN w)).length + 1 ≤ 16777216 := by
          rw [List.length_map]
          have := List.length_filter_le (fun s => decide (gcdL m s = 1)) p
          omega
        have ep : d_pieces_of [.val (.tup [.int (m : Int), tN s])] = .ok (.v (.int (gcdL m s : Nat))) := pieces_of_v R
        refine go_eq (Γ' := [.val (.int m), .val (.int k), .own (.lst (((p ++ [s]).filter fun s => decide (gcdL m s = 1)).map (wN w))), .val (tN s)]) ?_ ⟨p ++ [s], _, by rw [List.map_append]; rfl, rfl⟩
        by_cases hg : gcdL m s = 1
        · obtain ⟨G, es, _, eM⟩ := wid_steps R hg (hw s R hg)
          have es' : d_steps_of [.val (.tup [.int (m : Int), tN s])] = .ok (.o (.lst (nD G))) := es
          have g1 : (((gcdL m s : Nat) : Int) == 1) = true := by rw [hg]; rfl
          have e1 : (p ++ [s]).filter (fun s => decide (gcdL m s = 1)) = p.filter (fun s => decide (gcdL m s = 1)) ++ [s] := by
            rw [List.filter_append, List.filter_cons, if_pos (decide_eq_true hg)]
            rfl
          rw [e1, List.map_append]
          simp (implicitDefEqProofs := false) (disch := omega) only [↓r_seq, ↓r_next, ↓r_if, ↓r_eif, ↓r_set, ↓r_ret, ↓r_retV, ↓r_expr, ↓r_asg, ↓r_par, ↓r_app, ↓r_ext, ↓r_sto, ↓r_or1, ↓r_or, ↓r_and1, ↓r_and, ↓r_vor1, ↓r_vor, ↓r_vand1, ↓r_vand, ↓r_not, ↓r_tru, ↓r_isB, ↓r_eC, ↓r_rd, ↓r_vl, ↓r_rV, ↓r_eV, ↓r_uV, ↓r_uVl, ↓r_sq0, ↓r_sq, ↓r_e2, ↓r_e3, ↓r_call, ↓r_user, ↓r_enot, ↓r_eneg, ↓r_tup, ↓r_lst, ↓r_sl, ↓r_noP, ↓r_aP, ↓r_iOf, ↓r_iF, ↓r_def, ↓r_ref, r_seqNx, r_seqRt, r_seqBk, r_seqCt, r_ifT, r_ifF, r_setV, r_setOt, r_setOl, r_setOd, r_setOs, r_retK, r_retVv, r_retVo, r_asgK, r_tgN, r_tgT, r_tgL, r_tgs0, r_tgs, r_parK, r_ownL, r_ownLo, r_ownD, r_ownDo, r_appK, r_appJ, r_extK, r_extJ, r_stoK, r_stoI, r_stoJ, r_stoL, r_orT, r_orF, r_andT, r_andF, r_vorK, r_vorT, r_vorF, r_vandK, r_vandT, r_vandF, r_notK, r_truK, r_truB, r_truI, r_truL, r_truT, r_truN, r_isBK, r_rdV, r_rdO, r_dV, r_dO, r_valV, r_valL, r_valD, r_rVv, r_rVo, r_rVb, r_eVv, r_uVv, r_uVo, r_uVb, r_uVlK, r_sqK, r_consK, r_opK, r_opJ, r_chK, r_chJ, r_chT, r_chF, r_clK, r_ntK, r_ngK, r_tpK, r_lsK, r_slK, r_slJ, r_slI, r_slL, r_slT, r_aPK, r_sqL, r_sqT, r_sqS, r_rtR, r_rtN, r_refO, r_refE, r_wdK, r_bAdd, r_bSub, r_bMul, r_bDiv, r_bMod, r_bPow, r_cLt, r_cLe, r_cGt, r_cGe, r_cEq, r_cNe, r_ixL, r_ixT, r_of, r_lenL, r_lenT, r_lenS, Pd.R.bind_ok, Pd.R.bind_err, Pd.R.bind_stuck, noE_ok', mul_r, div_i, mod_i, add_i, sub_i, lt_i, le_i, gt_i, ge_i, eq_i, ne_i, pow18, List.cons_append, List.nil_append, List.getElem?_cons_zero, List.getElem?_cons_succ, List.replicate_succ, List.replicate_zero, List.set_cons_zero, List.set_cons_succ, List.length_cons, List.length_nil, if_true, if_false, Bool.not_true, Bool.not_false, Bool.false_eq_true, ↓reduceIte, Nat.reduceAdd, Nat.reduceLeDiff, Nat.reduceLT, Nat.zero_add, Option.map_some, Int.cast_ofNat_Int, Int.natCast_one, Int.natCast_zero, Int.reduceBEq, Int.reduceLT, Int.reduceLE, Int.reduceAdd, Int.reduceSub, Int.reduceMul, Int.reduceNeg, Int.reduceDiv, Int.reduceMod, decide_true, decide_false, ep, g1, es', eM, hfl]
          rfl
        · have g1 : (((gcdL m s : Nat) : Int) == 1) = false := beq_eq_false_iff_ne.mpr (by omega)
          have e1 : (p ++ [s]).filter (fun s => decide (gcdL m s = 1)) = p.filter (fun s => decide (gcdL m s = 1)) := by
            rw [List.filter_append, List.filter_cons, if_neg (by rw [decide_eq_true_eq]; exact hg)]
            exact List.append_nil _
          rw [e1]
          simp (implicitDefEqProofs := false) (disch := omega) only [↓r_seq, ↓r_next, ↓r_if, ↓r_eif, ↓r_set, ↓r_ret, ↓r_retV, ↓r_expr, ↓r_asg, ↓r_par, ↓r_app, ↓r_ext, ↓r_sto, ↓r_or1, ↓r_or, ↓r_and1, ↓r_and, ↓r_vor1, ↓r_vor, ↓r_vand1, ↓r_vand, ↓r_not, ↓r_tru, ↓r_isB, ↓r_eC, ↓r_rd, ↓r_vl, ↓r_rV, ↓r_eV, ↓r_uV, ↓r_uVl, ↓r_sq0, ↓r_sq, ↓r_e2, ↓r_e3, ↓r_call, ↓r_user, ↓r_enot, ↓r_eneg, ↓r_tup, ↓r_lst, ↓r_sl, ↓r_noP, ↓r_aP, ↓r_iOf, ↓r_iF, ↓r_def, ↓r_ref, r_seqNx, r_seqRt, r_seqBk, r_seqCt, r_ifT, r_ifF, r_setV, r_setOt, r_setOl, r_setOd, r_setOs, r_retK, r_retVv, r_retVo, r_asgK, r_tgN, r_tgT, r_tgL, r_tgs0, r_tgs, r_parK, r_ownL, r_ownLo, r_ownD, r_ownDo, r_appK, r_appJ, r_extK, r_extJ, r_stoK, r_stoI, r_stoJ, r_stoL, r_orT, r_orF, r_andT, r_andF, r_vorK, r_vorT, r_vorF, r_vandK, r_vandT, r_vandF, r_notK, r_truK, r_truB, r_truI, r_truL, r_truT, r_truN, r_isBK, r_rdV, r_rdO, r_dV, r_dO, r_valV, r_valL, r_valD, r_rVv, r_rVo, r_rVb, r_eVv, r_uVv, r_uVo, r_uVb, r_uVlK, r_sqK, r_consK, r_opK, r_opJ, r_chK, r_chJ, r_chT, r_chF, r_clK, r_ntK, r_ngK, r_tpK, r_lsK, r_slK, r_slJ, r_slI, r_slL, r_slT, r_aPK, r_sqL, r_sqT, r_sqS, r_rtR, r_rtN, r_refO, r_refE, r_wdK, r_bAdd, r_bSub, r_bMul, r_bDiv, r_bMod, r_bPow, r_cLt, r_cLe, r_cGt, r_cGe, r_cEq, r_cNe, r_ixL, r_ixT, r_of, r_lenL, r_lenT, r_lenS, Pd.R.bind_ok, Pd.R.bind_err, Pd.R.bind_stuck, noE_ok', mul_r, div_i, mod_i, add_i, sub_i, lt_i, le_i, gt_i, ge_i, eq_i, ne_i, pow18, List.cons_append, List.nil_append, List.getElem?_cons_zero, List.getElem?_cons_succ, List.replicate_succ, List.replicate_zero, List.set_cons_zero, List.set_cons_succ, List.length_cons, List.length_nil, if_true, if_false, Bool.not_true, Bool.not_false, Bool.false_eq_true, ↓reduceIte, Nat.reduceAdd, Nat.reduceLeDiff, Nat.reduceLT, Nat.zero_add, Option.map_some, Int.cast_ofNat_Int, Int.natCast_one, Int.natCast_zero, Int.reduceBEq, Int.reduceLT, Int.reduceLE, Int.reduceAdd, Int.reduceSub, Int.reduceMul, Int.reduceNeg, Int.reduceDiv, Int.reduceMod, decide_true, decide_false, ep, g1])
    exact go_mono key fun Γ ⟨p, s3, e, h⟩ => by
      obtain rfl : p = allN (m / 2) k 1 := ((List.map_inj_right fun _ _ h => tN_inj h).mp e).symm
      exact ⟨s3, h⟩
  rintro Γ ⟨s3, rfl⟩
  simp (implicitDefEqProofs := false) (disch := omega) only [↓r_seq, ↓r_next, ↓r_if, ↓r_eif, ↓r_set, ↓r_ret, ↓r_retV, ↓r_expr, ↓r_asg, ↓r_par, ↓r_app, ↓r_ext, ↓r_sto, ↓r_or1, ↓r_or, ↓r_and1, ↓r_and, ↓r_vor1, ↓r_vor, ↓r_vand1, ↓r_vand, ↓r_not, ↓r_tru, ↓r_isB, ↓r_eC, ↓r_rd, ↓r_vl, ↓r_rV, ↓r_eV, ↓r_uV, ↓r_uVl, ↓r_sq0, ↓r_sq, ↓r_e2, ↓r_e3, ↓r_call, ↓r_user, ↓r_enot, ↓r_eneg, ↓r_tup, ↓r_lst, ↓r_sl, ↓r_noP, ↓r_aP, ↓r_iOf, ↓r_iF, ↓r_def, ↓r_ref, r_seqNx, r_seqRt, r_seqBk, r_seqCt, r_ifT, r_ifF, r_setV, r_setOt, r_setOl, r_setOd, r_setOs, r_retK, r_retVv, r_retVo, r_asgK, r_tgN, r_tgT, r_tgL, r_tgs0, r_tgs, r_parK, r_ownL, r_ownLo, r_ownD, r_ownDo, r_appK, r_appJ, r_extK, r_extJ, r_stoK, r_stoI, r_stoJ, r_stoL, r_orT, r_orF, r_andT, r_andF, r_vorK, r_vorT, r_vorF, r_vandK, r_vandT, r_vandF, r_notK, r_truK, r_truB, r_truI, r_truL, r_truT, r_truN, r_isBK, r_rdV, r_rdO, r_dV, r_dO, r_valV, r_valL, r_valD, r_rVv, r_rVo, r_rVb, r_eVv, r_uVv, r_uVo, r_uVb, r_uVlK, r_sqK, r_consK, r_opK, r_opJ, r_chK, r_chJ, r_chT, r_chF, r_clK, r_ntK, r_ngK, r_tpK, r_lsK, r_slK, r_slJ, r_slI, r_slL, r_slT, r_aPK, r_sqL, r_sqT, r_sqS, r_rtR, r_rtN, r_refO, r_refE, r_wdK, r_bAdd, r_bSub, r_bMul, r_bDiv, r_bMod, r_bPow, r_cLt, r_cLe, r_cGt, r_cGe, r_cEq, r_cNe, r_ixL, r_ixT, r_of, r_lenL, r_lenT, r_lenS, Pd.R.bind_ok, Pd.R.bind_err, Pd.R.bind_stuck, noE_ok', mul_r, div_i, mod_i, add_i, sub_i, lt_i, le_i, gt_i, ge_i, eq_i, ne_i, pow18, List.cons_append, List.nil_append, List.getElem?_cons_zero, List.getElem?_cons_succ, List.replicate_succ, List.replicate_zero, List.set_cons_zero, List.set_cons_succ, List.length_cons, List.length_nil, if_true, if_false, Bool.not_true, Bool.not_false, Bool.false_eq_true, ↓reduceIte, Nat.reduceAdd, Nat.reduceLeDiff, Nat.reduceLT, Nat.zero_add, Option.map_some, Int.cast_ofNat_Int, Int.natCast_one, Int.natCast_zero, Int.reduceBEq, Int.reduceLT, Int.reduceLE, Int.reduceAdd, Int.reduceSub, Int.reduceMul, Int.reduceNeg, Int.reduceDiv, Int.reduceMod, decide_true, decide_false]
theorem gcd_one {m : Nat} : ∀ {s : List Nat}, 1 ∈ s → gcdL m s = 1 := fun {s} h => by
  have := ((dvd_gcdL s m).mp (Nat.dvd_refl (gcdL m s))).2 1 h
  exact Nat.dvd_one.mp this
theorem gd_ne {m k : Nat} (hk : 1 ≤ k) (hkm : k ≤ m / 2) : gdN m k ≠ [] := by
  have hm : ((List.range k).map fun i => i + 1) ∈ gdN m k := by
    refine List.mem_filter.mpr ⟨mem_all (by rw [List.length_map, List.length_range]) ?_ fun x hx => ?_, decide_eq_true (gcd_one ?_)⟩
    · rw [List.pairwise_map]
      exact List.pairwise_lt_range.imp fun h => by omega
    · obtain ⟨i, hi, rfl⟩ := List.mem_map.mp hx
      have := List.mem_range.mp hi
      omega
    · exact List.mem_map.mpr ⟨0, List.mem_range.mpr (by omega), rfl⟩
  exact List.ne_nil_of_mem hm
def dueN (m k : Nat) (w : List Nat → Nat) (W : Nat) : List (List Nat) := (gdN m k).filter fun s => decide (w s = W)
theorem head_ris {α : Type} {lt : α → α → Prop} (irr : ∀ a b, lt a b → ¬ lt b a) {l : List α} (hp : l.Pairwise lt) {m : α} (hm : m ∈ l) (hl : ∀ a ∈ l, ¬ lt a m) : l.head? = some m := by
  cases l with
  | nil => cases hm
  | cons x r =>
    rcases List.mem_cons.mp hm with rfl | h
    · rfl
    · exact absurd ((List.pairwise_cons.mp hp).1 m h) (hl x List.mem_cons_self)
theorem best_ex {m k : Nat} (hk : 1 ≤ k) (hkm : k ≤ m / 2) (w : List Nat → Nat) : ∃ (W : Nat) (s0 : List Nat), s0 ∈ gdN m k ∧ w s0 = W ∧ (∀ s ∈ gdN m k, W ≤ w s) ∧ (dueN m k w W).head? = some s0 ∧ fMinD [.lst ((gdN m k).map (wN w))] = some (.v (.tup [.int (W : Nat), tN s0])) := by
  have e0 : (gdN m k).map (wN w) = ((gdN m k).map fun s => ((w s : Int), zN s)).map wD := by
    rw [List.map_map]
    refine List.map_congr_left fun s _ => ?_
    show D.tup [.int (w s : Nat), tN s] = .tup [.int (w s : Nat), tupZ (zN s)]
    rw [tN_Z]
  obtain ⟨q, hq, hl, e⟩ := min_w (ws := (gdN m k).map fun s => ((w s : Int), zN s)) (k := k) (by simpa using gd_ne hk hkm) (fun q hq => by
    obtain ⟨s, hs, rfl⟩ := List.mem_map.mp hq
    show (zN s).length = k
    unfold zN
    rw [List.length_map]
    exact (all_mem (List.mem_filter.mp hs).1).1)
  obtain ⟨s0, hs0, rfl⟩ := List.mem_map.mp hq
  have hle : ∀ s ∈ gdN m k, ltW ((w s : Int), zN s) ((w s0 : Int), zN s0) = false := fun s hs => hl _ (List.mem_map.mpr ⟨s, hs, rfl⟩)
  refine ⟨w s0, s0, hs0, rfl, fun s hs => ?_, ?_, ?_⟩
  · have := hle s hs
    unfold ltW at this
    dsimp only at this
    split at this
    · omega
    · have := of_decide_eq_false this
      omega
  · refine head_ris (lt := fun a b => lexZ (zN a) (zN b) = true) (fun a b h h' => by rw [lexZ_asym h] at h'; cases h') ?_ (List.mem_filter.mpr ⟨hs0, decide_eq_true rfl⟩) fun a ha h => ?_
    · exact ((all_ris k 1).filter _).filter _
    · have ha := List.mem_filter.mp ha
      have := hle a ha.1
      unfold ltW at this
      dsimp only at this
      rw [of_decide_eq_true ha.2, if_pos rfl, h] at this
      cases this
  · rw [e0, e]
    show some (O.v (.tup [.int (w s0 : Nat), tupZ (zN s0)])) = _
    rw [tN_Z]
section
variable {m k : Nat} {w : List Nat → Nat} {W : Nat} {s0 : List Nat}
theorem best_wide2_v (ew : d_widths [.val (.int m), .val (.int k)] = .ok (.o (.lst ((gdN m k).map (wN w))))) (e : fMinD [.lst ((gdN m k).map (wN w))] = some (.v (.tup [.int (W : Nat), tN s0]))) :
    d_best_wide2 [.val (.int m), .val (.int k)] = .ok (.v (.int (W : Nat))) := by
  have i0 : dIx (.tup [.int (W : Nat), tN s0]) (.int 0) = some (.v (.int (W : Nat))) := rfl
  unfold d_best_wide2
  refine def_rt ?_
  unfold f_best_wide2
  show sSeq _ _ [.val (.int m), .val (.int k)] = _
  simp (implicitDefEqProofs := false) (disch := omega) only [↓r_seq, ↓r_next, ↓r_if, ↓r_eif, ↓r_set, ↓r_ret, ↓r_retV, ↓r_expr, ↓r_asg, ↓r_par, ↓r_app, ↓r_ext, ↓r_sto, ↓r_or1, ↓r_or, ↓r_and1, ↓r_and, ↓r_vor1, ↓r_vor, ↓r_vand1, ↓r_vand, ↓r_not, ↓r_tru, ↓r_isB, ↓r_eC, ↓r_rd, ↓r_vl, ↓r_rV, ↓r_eV, ↓r_uV, ↓r_uVl, ↓r_sq0, ↓r_sq, ↓r_e2, ↓r_e3, ↓r_call, ↓r_user, ↓r_enot, ↓r_eneg, ↓r_tup, ↓r_lst, ↓r_sl, ↓r_noP, ↓r_aP, ↓r_iOf, ↓r_iF, ↓r_def, ↓r_ref, r_seqNx, r_seqRt, r_seqBk, r_seqCt, r_ifT, r_ifF, r_setV, r_setOt, r_setOl, r_setOd, r_setOs, r_retK, r_retVv, r_retVo, r_asgK, r_tgN, r_tgT, r_tgL, r_tgs0, r_tgs, r_parK, r_ownL, r_ownLo, r_ownD, r_ownDo, r_appK, r_appJ, r_extK, r_extJ, r_stoK, r_stoI, r_stoJ, r_stoL, r_orT, r_orF, r_andT, r_andF, r_vorK, r_vorT, r_vorF, r_vandK, r_vandT, r_vandF, r_notK, r_truK, r_truB, r_truI, r_truL, r_truT, r_truN, r_isBK, r_rdV, r_rdO, r_dV, r_dO, r_valV, r_valL, r_valD, r_rVv, r_rVo, r_rVb, r_eVv, r_uVv, r_uVo, r_uVb, r_uVlK, r_sqK, r_consK, r_opK, r_opJ, r_chK, r_chJ, r_chT, r_chF, r_clK, r_ntK, r_ngK, r_tpK, r_lsK, r_slK, r_slJ, r_slI, r_slL, r_slT, r_aPK, r_sqL, r_sqT, r_sqS, r_rtR, r_rtN, r_refO, r_refE, r_wdK, r_bAdd, r_bSub, r_bMul, r_bDiv, r_bMod, r_bPow, r_cLt, r_cLe, r_cGt, r_cGe, r_cEq, r_cNe, r_ixL, r_ixT, r_of, r_lenL, r_lenT, r_lenS, Pd.R.bind_ok, Pd.R.bind_err, Pd.R.bind_stuck, noE_ok', mul_r, div_i, mod_i, add_i, sub_i, lt_i, le_i, gt_i, ge_i, eq_i, ne_i, pow18, List.cons_append, List.nil_append, List.getElem?_cons_zero, List.getElem?_cons_succ, List.replicate_succ, List.replicate_zero, List.set_cons_zero, List.set_cons_succ, List.length_cons, List.length_nil, if_true, if_false, Bool.not_true, Bool.not_false, Bool.false_eq_true, ↓reduceIte, Nat.reduceAdd, Nat.reduceLeDiff, Nat.reduceLT, Nat.zero_add, Option.map_some, Int.cast_ofNat_Int, Int.natCast_one, Int.natCast_zero, Int.reduceBEq, Int.reduceLT, Int.reduceLE, Int.reduceAdd, Int.reduceSub, Int.reduceMul, Int.reduceNeg, Int.reduceDiv, Int.reduceMod, decide_true, decide_false, ew, e, i0]
theorem best_leaps2_v (ew : d_widths [.val (.int m), .val (.int k)] = .ok (.o (.lst ((gdN m k).map (wN w))))) (e : fMinD [.lst ((gdN m k).map (wN w))] = some (.v (.tup [.int (W : Nat), tN s0]))) :
    d_best_leaps2 [.val (.int m), .val (.int k)] = .ok (.v (tN s0)) := by
  have i1 : dIx (.tup [.int (W : Nat), tN s0]) (.int 1) = some (.v (tN s0)) := rfl
  unfold d_best_leaps2
  refine def_rt ?_
  unfold f_best_leaps2
  show sSeq _ _ [.val (.int m), .val (.int k)] = _
  simp (implicitDefEqProofs := false) (disch := omega) only [↓r_seq, ↓r_next, ↓r_if, ↓r_eif, ↓r_set, ↓r_ret, ↓r_retV, ↓r_expr, ↓r_asg, ↓r_par, ↓r_app, ↓r_ext, ↓r_sto, ↓r_or1, ↓r_or, ↓r_and1, ↓r_and, ↓r_vor1, ↓r_vor, ↓r_vand1, ↓r_vand, ↓r_not, ↓r_tru, ↓r_isB, ↓r_eC, ↓r_rd, ↓r_vl, ↓r_rV, ↓r_eV, ↓r_uV, ↓r_uVl, ↓r_sq0, ↓r_sq, ↓r_e2, ↓r_e3, ↓r_call, ↓r_user, ↓r_enot, ↓r_eneg, ↓r_tup, ↓r_lst, ↓r_sl, ↓r_noP, ↓r_aP, ↓r_iOf, ↓r_iF, ↓r_def, ↓r_ref, r_seqNx, r_seqRt, r_seqBk, r_seqCt, r_ifT, r_ifF, r_setV, r_setOt, r_setOl, r_setOd, r_setOs, r_retK, r_retVv, r_retVo, r_asgK, r_tgN, r_tgT, r_tgL, r_tgs0, r_tgs, r_parK, r_ownL, r_ownLo, r_ownD, r_ownDo, r_appK, r_appJ, r_extK, r_extJ, r_stoK, r_stoI, r_stoJ, r_stoL, r_orT, r_orF, r_andT, r_andF, r_vorK, r_vorT, r_vorF, r_vandK, r_vandT, r_vandF, r_notK, r_truK, r_truB, r_truI, r_truL, r_truT, r_truN, r_isBK, r_rdV, r_rdO, r_dV, r_dO, r_valV, r_valL, r_valD, r_rVv, r_rVo, r_rVb, r_eVv, r_uVv, r_uVo, r_uVb, r_uVlK, r_sqK, r_consK, r_opK, r_opJ, r_chK, r_chJ, r_chT, r_chF, r_clK, r_ntK, r_ngK, r_tpK, r_lsK, r_slK, r_slJ, r_slI, r_slL, r_slT, r_aPK, r_sqL, r_sqT, r_sqS, r_rtR, r_rtN, r_refO, r_refE, r_wdK, r_bAdd, r_bSub, r_bMul, r_bDiv, r_bMod, r_bPow, r_cLt, r_cLe, r_cGt, r_cGe, r_cEq, r_cNe, r_ixL, r_ixT, r_of, r_lenL, r_lenT, r_lenS, Pd.R.bind_ok, Pd.R.bind_err, Pd.R.bind_stuck, noE_ok', mul_r, div_i, mod_i, add_i, sub_i, lt_i, le_i, gt_i, ge_i, eq_i, ne_i, pow18, List.cons_append, List.nil_append, List.getElem?_cons_zero, List.getElem?_cons_succ, List.replicate_succ, List.replicate_zero, List.set_cons_zero, List.set_cons_succ, List.length_cons, List.length_nil, if_true, if_false, Bool.not_true, Bool.not_false, Bool.false_eq_true, ↓reduceIte, Nat.reduceAdd, Nat.reduceLeDiff, Nat.reduceLT, Nat.zero_add, Option.map_some, Int.cast_ofNat_Int, Int.natCast_one, Int.natCast_zero, Int.reduceBEq, Int.reduceLT, Int.reduceLE, Int.reduceAdd, Int.reduceSub, Int.reduceMul, Int.reduceNeg, Int.reduceDiv, Int.reduceMod, decide_true, decide_false, ew, e, i1]
theorem all_best2_v (ew : d_widths [.val (.int m), .val (.int k)] = .ok (.o (.lst ((gdN m k).map (wN w))))) (e : fMinD [.lst ((gdN m k).map (wN w))] = some (.v (.tup [.int (W : Nat), tN s0]))) :
    d_all_best2 [.val (.int m), .val (.int k)] = .ok (.o (.lst ((dueN m k w W).map tN))) := by
  have i0 : dIx (.tup [.int (W : Nat), tN s0]) (.int 0) = some (.v (.int (W : Nat))) := rfl
  unfold d_all_best2
  refine def_rt ?_
  unfold f_all_best2
  show sSeq _ _ [.val (.int m), .val (.int k), .un, .un, .un, .un] = _
  refine seq_nx (Γ1 := [.val (.int m), .val (.int k), .val (.lst ((gdN m k).map (wN w))), .un, .un, .un]) (by simp (implicitDefEqProofs := false) (disch := omega) only [↓r_seq, ↓r_next, ↓r_if, ↓r_eif, ↓r_set, ↓r_ret, ↓r_retV, ↓r_expr, ↓r_asg, ↓r_par, ↓r_app, ↓r_ext, ↓r_sto, ↓r_or1, ↓r_or, ↓r_and1, ↓r_and, ↓r_vor1, ↓r_vor, ↓r_vand1, ↓r_vand, ↓r_not, ↓r_tru, ↓r_isB, ↓r_eC, ↓r_rd, ↓r_vl, ↓r_rV, ↓r_eV, ↓r_uV, ↓r_uVl, ↓r_sq0, ↓r_sq, ↓r_e2, ↓r_e3, ↓r_call, ↓r_user, ↓r_enot, ↓r_eneg, ↓r_tup, ↓r_lst, ↓r_sl, ↓r_noP, ↓r_aP, ↓r_iOf, ↓r_iF, ↓r_def, ↓r_ref, r_seqNx, r_seqRt, r_seqBk, r_seqCt, r_ifT, r_ifF, r_setV, r_setOt, r_setOl, r_setOd, r_setOs, r_retK, r_retVv, r_retVo, r_asgK, r_tgN, r_tgT, r_tgL, r_tgs0, r_tgs, r_parK, r_ownL, r_ownLo, r_ownD, r_ownDo, r_appK, r_appJ, r_extK, r_extJ, r_stoK, r_stoI, r_stoJ, r_stoL, r_orT, r_orF, r_andT, r_andF, r_vorK, r_vorT, r_vorF, r_vandK, r_vandT, r_vandF, r_notK, r_truK, r_truB, r_truI, r_truL, r_truT, r_truN, r_isBK, r_rdV, r_rdO, r_dV, r_dO, r_valV, r_valL, r_valD, r_rVv, r_rVo, r_rVb, r_eVv, r_uVv, r_uVo, r_uVb, r_uVlK, r_sqK, r_consK, r_opK, r_opJ, r_chK, r_chJ, r_chT, r_chF, r_clK, r_ntK, r_ngK, r_tpK, r_lsK, r_slK, r_slJ, r_slI, r_slL, r_slT, r_aPK, r_sqL, r_sqT, r_sqS, r_rtR, r_rtN, r_refO, r_refE, r_wdK, r_bAdd, r_bSub, r_bMul, r_bDiv, r_bMod, r_bPow, r_cLt, r_cLe, r_cGt, r_cGe, r_cEq, r_cNe, r_ixL, r_ixT, r_of, r_lenL, r_lenT, r_lenS, Pd.R.bind_ok, Pd.R.bind_err, Pd.R.bind_stuck, noE_ok', mul_r, div_i, mod_i, add_i, sub_i, lt_i, le_i, gt_i, ge_i, eq_i, ne_i, pow18, List.cons_append, List.nil_append, List.getElem?_cons_zero, List.getElem?_cons_succ, List.replicate_succ, List.replicate_zero, List.set_cons_zero, List.set_cons_succ, List.length_cons, List.length_nil, if_true, if_false, Bool.not_true, Bool.not_false, Bool.false_eq_true, ↓reduceIte, Nat.reduceAdd, Nat.reduceLeDiff, Nat.reduceLT, Nat.zero_add, Option.map_some, Int.cast_ofNat_Int, Int.natCast_one, Int.natCast_zero, Int.reduceBEq, Int.reduceLT, Int.reduceLE, Int.reduceAdd, Int.reduceSub, Int.reduceMul, Int.reduceNeg, Int.reduceDiv, Int.reduceMod, decide_true, decide_false, ew]) ?_
  refine seq_nx (Γ1 := [.val (.int m), .val (.int k), .val (.lst ((gdN m k).map (wN w))), .val (.int (W : Nat)), .un, .un]) (by simp (implicitDefEqProofs := false) (disch := omega) only [↓r_seq, ↓r_next, ↓r_if, ↓r_eif, ↓r_set, ↓r_ret, ↓r_retV, ↓r_expr, ↓r_asg, ↓r_par, ↓r_app, ↓r_ext, ↓r_sto, ↓r_or1, ↓r_or, ↓r_and1, ↓r_and, ↓r_vor1, ↓r_vor, ↓r_vand1, ↓r_vand, ↓r_not, ↓r_tru, ↓r_isB, ↓r_eC, ↓r_rd, ↓r_vl, ↓r_rV, ↓r_eV, ↓r_uV, ↓r_uVl, ↓r_sq0, ↓r_sq, ↓r_e2, ↓r_e3, ↓r_call, ↓r_user, ↓r_enot, ↓r_eneg, ↓r_tup, ↓r_lst, ↓r_sl, ↓r_noP, ↓r_aP, ↓r_iOf, ↓r_iF, ↓r_def, ↓r_ref, r_seqNx, r_seqRt, r_seqBk, r_seqCt, r_ifT, r_ifF, r_setV, r_setOt, r_setOl, r_setOd, r_setOs, r_retK, r_retVv, r_retVo, r_asgK, r_tgN, r_tgT, r_tgL, r_tgs0, r_tgs, r_parK, r_ownL, r_ownLo, r_ownD, r_ownDo, r_appK, r_appJ, r_extK, r_extJ, r_stoK, r_stoI, r_stoJ, r_stoL, r_orT, r_orF, r_andT, r_andF, r_vorK, r_vorT, r_vorF, r_vandK, r_vandT, r_vandF, r_notK, r_truK, r_truB, r_truI, r_truL, r_truT, r_truN, r_isBK, r_rdV, r_rdO, r_dV, r_dO, r_valV, r_valL, r_valD, r_rVv, r_rVo, r_rVb, r_eVv, r_uVv, r_uVo, r_uVb, r_uVlK, r_sqK, r_consK, r_opK, r_opJ, r_chK, r_chJ, r_chT, r_chF, r_clK, r_ntK, r_ngK, r_tpK, r_lsK, r_slK, r_slJ, r_slI, r_slL, r_slT, r_aPK, r_sqL, r_sqT, r_sqS, r_rtR, r_rtN, r_refO, r_refE, r_wdK, r_bAdd, r_bSub, r_bMul, r_bDiv, r_bMod, r_bPow, r_cLt, r_cLe, r_cGt, r_cGe, r_cEq, r_cNe, r_ixL, r_ixT, r_of, r_lenL, r_lenT, r_lenS, Pd.R.bind_ok, Pd.R.bind_err, Pd.R.bind_stuck, noE_ok', mul_r, div_i, mod_i, add_i, sub_i, lt_i, le_i, gt_i, ge_i, eq_i, ne_i, pow18, List.cons_append, List.nil_append, List.getElem?_cons_zero, List.getElem?_cons_succ, List.replicate_succ, List.replicate_zero, List.set_cons_zero, List.set_cons_succ, List.length_cons, List.length_nil, if_true, if_false, Bool.not_true, Bool.not_false, Bool.false_eq_true, ↓reduceIte, Nat.reduceAdd, Nat.reduceLeDiff, Nat.reduceLT, Nat.zero_add, Option.map_some, Int.cast_ofNat_Int, Int.natCast_one, Int.natCast_zero, Int.reduceBEq, Int.reduceLT, Int.reduceLE, Int.reduceAdd, Int.reduceSub, Int.reduceMul, Int.reduceNeg, Int.reduceDiv, Int.reduceMod, decide_true, decide_false, e, i0]) ?_
  have el := lc_tg (fi := iF (rVar 2)) (t := .tp [.nm 4, .nm 5]) (tt := isB (e2 (dCmp .Eq) (rVar 4) (rVar 3))) (te := vl (eVar 5)) (vs := [4, 5]) (Γ := [.val (.int m), .val (.int k), .val (.lst ((gdN m k).map (wN w))), .val (.int (W : Nat)), .un, .un]) (l := gdN m k) (φ := wN w) (fun s => decide (w s = W)) tN (by simp (implicitDefEqProofs := false) (disch := omega) only [↓r_seq, ↓r_next, ↓r_if, ↓r_eif, ↓r_set, ↓r_ret, ↓r_retV, ↓r_expr, ↓r_asg, ↓r_par, ↓r_app, ↓r_ext, ↓r_sto, ↓r_or1, ↓r_or, ↓r_and1, ↓r_and, ↓r_vor1, ↓r_vor, ↓r_vand1, ↓r_vand, ↓r_not, ↓r_tru, ↓r_isB, ↓r_eC, ↓r_rd, ↓r_vl, ↓r_rV, ↓r_eV, ↓r_uV, ↓r_uVl, ↓r_sq0, ↓r_sq, ↓r_e2, ↓r_e3, ↓r_call, ↓r_user, ↓r_enot, ↓r_eneg, ↓r_tup, ↓r_lst, ↓r_sl, ↓r_noP, ↓r_aP, ↓r_iOf, ↓r_iF, ↓r_def, ↓r_ref, r_seqNx, r_seqRt, r_seqBk, r_seqCt, r_ifT, r_ifF, r_setV, r_setOt, r_setOl, r_setOd, r_setOs, r_retK, r_retVv, r_retVo, r_asgK, r_tgN, r_tgT, r_tgL, r_tgs0, r_tgs, r_parK, r_ownL, r_ownLo, r_ownD, r_ownDo, r_appK, r_appJ, r_extK, r_extJ, r_stoK, r_stoI, r_stoJ, r_stoL, r_orT, r_orF, r_andT, r_andF, r_vorK, r_vorT, r_vorF, r_vandK, r_vandT, r_vandF, r_notK, r_truK, r_truB, r_truI, r_truL, r_truT, r_truN, r_isBK, r_rdV, r_rdO, r_dV, r_dO, r_valV, r_valL, r_valD, r_rVv, r_rVo, r_rVb, r_eVv, r_uVv, r_uVo, r_uVb, r_uVlK, r_sqK, r_consK, r_opK, r_opJ, r_chK, r_chJ, r_chT, r_chF, r_clK, r_ntK, r_ngK, r_tpK, r_lsK, r_slK, r_slJ, r_slI, r_slL, r_slT, r_aPK, r_sqL, r_sqT, r_sqS, r_rtR, r_rtN, r_refO, r_refE, r_wdK, r_bAdd, r_bSub, r_bMul, r_bDiv, r_bMod, r_bPow, r_cLt, r_cLe, r_cGt, r_cGe, r_cEq, r_cNe, r_ixL, r_ixT, r_of, r_lenL, r_lenT, r_lenS, Pd.R.bind_ok, Pd.R.bind_err, Pd.R.bind_stuck, noE_ok', mul_r, div_i, mod_i, add_i, sub_i, lt_i, le_i, gt_i, ge_i, eq_i, ne_i, pow18, List.cons_append, List.nil_append, List.getElem?_cons_zero, List.getElem?_cons_succ, List.replicate_succ, List.replicate_zero, List.set_cons_zero, List.set_cons_succ, List.length_cons, List.length_nil, if_true, if_false, Bool.not_true, Bool.not_false, Bool.false_eq_true, ↓reduceIte, Nat.reduceAdd, Nat.reduceLeDiff, Nat.reduceLT, Nat.zero_add, Option.map_some, Int.cast_ofNat_Int, Int.natCast_one, Int.natCast_zero, Int.reduceBEq, Int.reduceLT, Int.reduceLE, Int.reduceAdd, Int.reduceSub, Int.reduceMul, Int.reduceNeg, Int.reduceDiv, Int.reduceMod, decide_true, decide_false]) (fun s _ => by
    refine ⟨[.val (.int m), .val (.int k), .val (.lst ((gdN m k).map (wN w))), .val (.int (W : Nat)), .val (.int (w s : Nat)), .val (tN s)], rfl, ?_, fun _ => by simp (implicitDefEqProofs := false) (disch := omega) only [↓r_seq, ↓r_next, ↓r_if, ↓r_eif, ↓r_set, ↓r_ret, ↓r_retV, ↓r_expr, ↓r_asg, ↓r_par, ↓r_app, ↓r_ext, ↓r_sto, ↓r_or1, ↓r_or, ↓r_and1, ↓r_and, ↓r_vor1, ↓r_vor, ↓r_vand1, ↓r_vand, ↓r_not, ↓r_tru, ↓r_isB, ↓r_eC, ↓r_rd, ↓r_vl, ↓r_rV, ↓r_eV, ↓r_uV, ↓r_uVl, ↓r_sq0, ↓r_sq, ↓r_e2, ↓r_e3, ↓r_call, ↓r_user, ↓r_enot, ↓r_eneg, ↓r_tup, ↓r_lst, ↓r_sl, ↓r_noP, ↓r_aP, ↓r_iOf, ↓r_iF, ↓r_def, ↓r_ref, r_seqNx, r_seqRt, r_seqBk, r_seqCt, r_ifT, r_ifF, r_setV, r_setOt, r_setOl, r_setOd, r_setOs, r_retK, r_retVv, r_retVo, r_asgK, r_tgN, r_tgT, r_tgL, r_tgs0, r_tgs, r_parK, r_ownL, r_ownLo, r_ownD, r_ownDo, r_appK, r_appJ, r_extK, r_extJ, r_stoK, r_stoI, r_stoJ, r_stoL, r_orT, r_orF, r_andT, r_andF, r_vorK, r_vorT, r_vorF, r_vandK, r_vandT, r_vandF, r_notK, r_truK, r_truB, r_truI, r_truL, r_truT, r_truN, r_isBK, r_rdV, r_rdO, r_dV, r_dO, r_valV, r_valL, r_valD, r_rVv, r_rVo, r_rVb, r_eVv, r_uVv, r_uVo, r_uVb, r_uVlK, r_sqK, r_consK, r_opK, r_opJ, r_chK, r_chJ, r_chT, r_chF, r_clK, r_ntK, r_ngK, r_tpK, r_lsK, r_slK, r_slJ, r_slI, r_slL, r_slT, r_aPK, r_sqL, r_sqT, r_sqS, r_rtR, r_rtN, r_refO, r_refE, r_wdK, r_bAdd, r_bSub, r_bMul, r_bDiv, r_bMod, r_bPow, r_cLt, r_cLe, r_cGt, r_cGe, r_cEq, r_cNe, r_ixL, r_ixT, r_of, r_lenL, r_lenT, r_lenS, Pd.R.bind_ok, Pd.R.bind_err, Pd.R.bind_stuck, noE_ok', mul_r, div_i, mod_i, add_i, sub_i, lt_i, le_i, gt_i, ge_i, eq_i, ne_i, pow18, List.cons_append, List.nil_append, List.getElem?_cons_zero, List.getElem?_cons_succ, List.replicate_succ, List.replicate_zero, List.set_cons_zero, List.set_cons_succ, List.length_cons, List.length_nil, if_true, if_false, Bool.not_true, Bool.not_false, Bool.false_eq_true, ↓reduceIte, Nat.reduceAdd, Nat.reduceLeDiff, Nat.reduceLT, Nat.zero_add, Option.map_some, Int.cast_ofNat_Int, Int.natCast_one, Int.natCast_zero, Int.reduceBEq, Int.reduceLT, Int.reduceLE, Int.reduceAdd, Int.reduceSub, Int.reduceMul, Int.reduceNeg, Int.reduceDiv, Int.reduceMod, decide_true, decide_false]⟩
    have : ((w s : Int) == (W : Int)) = decide (w s = W) := by
      rw [Bool.eq_iff_iff, beq_iff_eq, decide_eq_true_eq]
      omega
    simp (implicitDefEqProofs := false) (disch := omega) only [↓r_seq, ↓r_next, ↓r_if, ↓r_eif, ↓r_set, ↓r_ret, ↓r_retV, ↓r_expr, ↓r_asg, ↓r_par, ↓r_app, ↓r_ext, ↓r_sto, ↓r_or1, ↓r_or, ↓r_and1, ↓r_and, ↓r_vor1, ↓r_vor, ↓r_vand1, ↓r_vand, ↓r_not, ↓r_tru, ↓r_isB, ↓r_eC, ↓r_rd, ↓r_vl, ↓r_rV, ↓r_eV, ↓r_uV, ↓r_uVl, ↓r_sq0, ↓r_sq, ↓r_e2, ↓r_e3, ↓r_call, ↓r_user, ↓r_enot, ↓r_eneg, ↓r_tup, ↓r_lst, ↓r_sl, ↓r_noP, ↓r_aP, ↓r_iOf, ↓r_iF, ↓r_def, ↓r_ref, r_seqNx, r_seqRt, r_seqBk, r_seqCt, r_ifT, r_ifF, r_setV, r_setOt, r_setOl, r_setOd, r_setOs, r_retK, r_retVv, r_retVo, r_asgK, r_tgN, r_tgT, r_tgL, r_tgs0, r_tgs, r_parK, r_ownL, r_ownLo, r_ownD, r_ownDo, r_appK, r_appJ, r_extK, r_extJ, r_stoK, r_stoI, r_stoJ, r_stoL, r_orT, r_orF, r_andT, r_andF, r_vorK, r_vorT, r_vorF, r_vandK, r_vandT, r_vandF, r_notK, r_truK, r_truB, r_truI, r_truL, r_truT, r_truN, r_isBK, r_rdV, r_rdO, r_dV, r_dO, r_valV, r_valL, r_valD, r_rVv, r_rVo, r_rVb, r_eVv, r_uVv, r_uVo, r_uVb, r_uVlK, r_sqK, r_consK, r_opK, r_opJ, r_chK, r_chJ, r_chT, r_chF, r_clK, r_ntK, r_ngK, r_tpK, r_lsK, r_slK, r_slJ, r_slI, r_slL, r_slT, r_aPK, r_sqL, r_sqT, r_sqS, r_rtR, r_rtN, r_refO, r_refE, r_wdK, r_bAdd, r_bSub, r_bMul, r_bDiv, r_bMod, r_bPow, r_cLt, r_cLe, r_cGt, r_cGe, r_cEq, r_cNe, r_ixL, r_ixT, r_of, r_lenL, r_lenT, r_lenS, Pd.R.bind_ok, Pd.R.bind_err, Pd.R.bind_stuck, noE_ok', mul_r, div_i, mod_i, add_i, sub_i, lt_i, le_i, gt_i, ge_i, eq_i, ne_i, pow18, List.cons_append, List.nil_append, List.getElem?_cons_zero, List.getElem?_cons_succ, List.replicate_succ, List.replicate_zero, List.set_cons_zero, List.set_cons_succ, List.length_cons, List.length_nil, if_true, if_false, Bool.not_true, Bool.not_false, Bool.false_eq_true, ↓reduceIte, Nat.reduceAdd, Nat.reduceLeDiff, Nat.reduceLT, Nat.zero_add, Option.map_some, Int.cast_ofNat_Int, Int.natCast_one, Int.natCast_zero, Int.reduceBEq, Int.reduceLT, Int.reduceLE, Int.reduceAdd, Int.reduceSub, Int.reduceMul, Int.reduceNeg, Int.reduceDiv, Int.reduceMod, decide_true, decide_false, this])
  simp (implicitDefEqProofs := false) (disch := omega) only [↓r_seq, ↓r_next, ↓r_if, ↓r_eif, ↓r_set, ↓r_ret, ↓r_retV, ↓r_expr, ↓r_asg, ↓r_par, ↓r_app, ↓r_ext, ↓r_sto, ↓r_or1, ↓r_or, ↓r_and1, ↓r_and, ↓r_vor1, ↓r_vor, ↓r_vand1, ↓r_vand, ↓r_not, ↓r_tru, ↓r_isB, ↓r_eC, ↓r_rd, ↓r_vl, ↓r_rV, ↓r_eV, ↓r_uV, ↓r_uVl, ↓r_sq0, ↓r_sq, ↓r_e2, ↓r_e3, ↓r_call, ↓r_user, ↓r_enot, ↓r_eneg, ↓r_tup, ↓r_lst, ↓r_sl, ↓r_noP, ↓r_aP, ↓r_iOf, ↓r_iF, ↓r_def, ↓r_ref, r_seqNx, r_seqRt, r_seqBk, r_seqCt, r_ifT, r_ifF, r_setV, r_setOt, r_setOl, r_setOd, r_setOs, r_retK, r_retVv, r_retVo, r_asgK, r_tgN, r_tgT, r_tgL, r_tgs0, r_tgs, r_parK, r_ownL, r_ownLo, r_ownD, r_ownDo, r_appK, r_appJ, r_extK, r_extJ, r_stoK, r_stoI, r_stoJ, r_stoL, r_orT, r_orF, r_andT, r_andF, r_vorK, r_vorT, r_vorF, r_vandK, r_vandT, r_vandF, r_notK, r_truK, r_truB, r_truI, r_truL, r_truT, r_truN, r_isBK, r_rdV, r_rdO, r_dV, r_dO, r_valV, r_valL, r_valD, r_rVv, r_rVo, r_rVb, r_eVv, r_uVv, r_uVo, r_uVb, r_uVlK, r_sqK, r_consK, r_opK, r_opJ, r_chK, r_chJ, r_chT, r_chF, r_clK, r_ntK, r_ngK, r_tpK, r_lsK, r_slK, r_slJ, r_slI, r_slL, r_slT, r_aPK, r_sqL, r_sqT, r_sqS, r_rtR, r_rtN, r_refO, r_refE, r_wdK, r_bAdd, r_bSub, r_bMul, r_bDiv, r_bMod, r_bPow, r_cLt, r_cLe, r_cGt, r_cGe, r_cEq, r_cNe, r_ixL, r_ixT, r_of, r_lenL, r_lenT, r_lenS, Pd.R.bind_ok, Pd.R.bind_err, Pd.R.bind_stuck, noE_ok', mul_r, div_i, mod_i, add_i, sub_i, lt_i, le_i, gt_i, ge_i, eq_i, ne_i, pow18, List.cons_append, List.nil_append, List.getElem?_cons_zero, List.getElem?_cons_succ, List.replicate_succ, List.replicate_zero, List.set_cons_zero, List.set_cons_succ, List.length_cons, List.length_nil, if_true, if_false, Bool.not_true, Bool.not_false, Bool.false_eq_true, ↓reduceIte, Nat.reduceAdd, Nat.reduceLeDiff, Nat.reduceLT, Nat.zero_add, Option.map_some, Int.cast_ofNat_Int, Int.natCast_one, Int.natCast_zero, Int.reduceBEq, Int.reduceLT, Int.reduceLE, Int.reduceAdd, Int.reduceSub, Int.reduceMul, Int.reduceNeg, Int.reduceDiv, Int.reduceMod, decide_true, decide_false, el]
  rfl
end
section
variable {d e : D}
theorem widths_no1 (h : d_need_number [.val d, .val (.int 3), .val (.int 30)] = .err "NoNumber") : d_widths [.val d, .val e] = .err "NoNumber" := by
  unfold d_widths f_widths
  simp (implicitDefEqProofs := false) (disch := omega) only [↓r_seq, ↓r_next, ↓r_if, ↓r_eif, ↓r_set, ↓r_ret, ↓r_retV, ↓r_expr, ↓r_asg, ↓r_par, ↓r_app, ↓r_ext, ↓r_sto, ↓r_or1, ↓r_or, ↓r_and1, ↓r_and, ↓r_vor1, ↓r_vor, ↓r_vand1, ↓r_vand, ↓r_not, ↓r_tru, ↓r_isB, ↓r_eC, ↓r_rd, ↓r_vl, ↓r_rV, ↓r_eV, ↓r_uV, ↓r_uVl, ↓r_sq0, ↓r_sq, ↓r_e2, ↓r_e3, ↓r_call, ↓r_user, ↓r_enot, ↓r_eneg, ↓r_tup, ↓r_lst, ↓r_sl, ↓r_noP, ↓r_aP, ↓r_iOf, ↓r_iF, ↓r_def, ↓r_ref, r_seqNx, r_seqRt, r_seqBk, r_seqCt, r_ifT, r_ifF, r_setV, r_setOt, r_setOl, r_setOd, r_setOs, r_retK, r_retVv, r_retVo, r_asgK, r_tgN, r_tgT, r_tgL, r_tgs0, r_tgs, r_parK, r_ownL, r_ownLo, r_ownD, r_ownDo, r_appK, r_appJ, r_extK, r_extJ, r_stoK, r_stoI, r_stoJ, r_stoL, r_orT, r_orF, r_andT, r_andF, r_vorK, r_vorT, r_vorF, r_vandK, r_vandT, r_vandF, r_notK, r_truK, r_truB, r_truI, r_truL, r_truT, r_truN, r_isBK, r_rdV, r_rdO, r_dV, r_dO, r_valV, r_valL, r_valD, r_rVv, r_rVo, r_rVb, r_eVv, r_uVv, r_uVo, r_uVb, r_uVlK, r_sqK, r_consK, r_opK, r_opJ, r_chK, r_chJ, r_chT, r_chF, r_clK, r_ntK, r_ngK, r_tpK, r_lsK, r_slK, r_slJ, r_slI, r_slL, r_slT, r_aPK, r_sqL, r_sqT, r_sqS, r_rtR, r_rtN, r_refO, r_refE, r_wdK, r_bAdd, r_bSub, r_bMul, r_bDiv, r_bMod, r_bPow, r_cLt, r_cLe, r_cGt, r_cGe, r_cEq, r_cNe, r_ixL, r_ixT, r_of, r_lenL, r_lenT, r_lenS, Pd.R.bind_ok, Pd.R.bind_err, Pd.R.bind_stuck, noE_ok', mul_r, div_i, mod_i, add_i, sub_i, lt_i, le_i, gt_i, ge_i, eq_i, ne_i, pow18, List.cons_append, List.nil_append, List.getElem?_cons_zero, List.getElem?_cons_succ, List.replicate_succ, List.replicate_zero, List.set_cons_zero, List.set_cons_succ, List.length_cons, List.length_nil, if_true, if_false, Bool.not_true, Bool.not_false, Bool.false_eq_true, ↓reduceIte, Nat.reduceAdd, Nat.reduceLeDiff, Nat.reduceLT, Nat.zero_add, Option.map_some, Int.cast_ofNat_Int, Int.natCast_one, Int.natCast_zero, Int.reduceBEq, Int.reduceLT, Int.reduceLE, Int.reduceAdd, Int.reduceSub, Int.reduceMul, Int.reduceNeg, Int.reduceDiv, Int.reduceMod, decide_true, decide_false, h]
theorem widths_no2 {m : Nat} (h3 : 3 ≤ m) (h30 : m ≤ 30) (h : d_need_number [.val d, .val (.int 1), .val (.int (if ((m / 2 : Nat) : Int) < 3 then ((m / 2 : Nat) : Int) else 3))] = .err "NoNumber") : d_widths [.val (.int m), .val d] = .err "NoNumber" := by
  have n1 : d_need_number [.val (.int (m : Int)), .val (.int 3), .val (.int 30)] = .ok (.v .non) := need_number_ok (by omega) (by omega)
  have d2 : (m : Int) / 2 = ((m / 2 : Nat) : Int) := rfl
  unfold d_widths f_widths
  simp (implicitDefEqProofs := false) (disch := omega) only [↓r_seq, ↓r_next, ↓r_if, ↓r_eif, ↓r_set, ↓r_ret, ↓r_retV, ↓r_expr, ↓r_asg, ↓r_par, ↓r_app, ↓r_ext, ↓r_sto, ↓r_or1, ↓r_or, ↓r_and1, ↓r_and, ↓r_vor1, ↓r_vor, ↓r_vand1, ↓r_vand, ↓r_not, ↓r_tru, ↓r_isB, ↓r_eC, ↓r_rd, ↓r_vl, ↓r_rV, ↓r_eV, ↓r_uV, ↓r_uVl, ↓r_sq0, ↓r_sq, ↓r_e2, ↓r_e3, ↓r_call, ↓r_user, ↓r_enot, ↓r_eneg, ↓r_tup, ↓r_lst, ↓r_sl, ↓r_noP, ↓r_aP, ↓r_iOf, ↓r_iF, ↓r_def, ↓r_ref, r_seqNx, r_seqRt, r_seqBk, r_seqCt, r_ifT, r_ifF, r_setV, r_setOt, r_setOl, r_setOd, r_setOs, r_retK, r_retVv, r_retVo, r_asgK, r_tgN, r_tgT, r_tgL, r_tgs0, r_tgs, r_parK, r_ownL, r_ownLo, r_ownD, r_ownDo, r_appK, r_appJ, r_extK, r_extJ, r_stoK, r_stoI, r_stoJ, r_stoL, r_orT, r_orF, r_andT, r_andF, r_vorK, r_vorT, r_vorF, r_vandK, r_vandT, r_vandF, r_notK, r_truK, r_truB, r_truI, r_truL, r_truT, r_truN, r_isBK, r_rdV, r_rdO, r_dV, r_dO, r_valV, r_valL, r_valD, r_rVv, r_rVo, r_rVb, r_eVv, r_uVv, r_uVo, r_uVb, r_uVlK, r_sqK, r_consK, r_opK, r_opJ, r_chK, r_chJ, r_chT, r_chF, r_clK, r_ntK, r_ngK, r_tpK, r_lsK, r_slK, r_slJ, r_slI, r_slL, r_slT, r_aPK, r_sqL, r_sqT, r_sqS, r_rtR, r_rtN, r_refO, r_refE, r_wdK, r_bAdd, r_bSub, r_bMul, r_bDiv, r_bMod, r_bPow, r_cLt, r_cLe, r_cGt, r_cGe, r_cEq, r_cNe, r_ixL, r_ixT, r_of, r_lenL, r_lenT, r_lenS, Pd.R.bind_ok, Pd.R.bind_err, Pd.R.bind_stuck, noE_ok', mul_r, div_i, mod_i, add_i, sub_i, lt_i, le_i, gt_i, ge_i, eq_i, ne_i, pow18, List.cons_append, List.nil_append, List.getElem?_cons_zero, List.getElem?_cons_succ, List.replicate_succ, List.replicate_zero, List.set_cons_zero, List.set_cons_succ, List.length_cons, List.length_nil, if_true, if_false, Bool.not_true, Bool.not_false, Bool.false_eq_true, ↓reduceIte, Nat.reduceAdd, Nat.reduceLeDiff, Nat.reduceLT, Nat.zero_add, Option.map_some, Int.cast_ofNat_Int, Int.natCast_one, Int.natCast_zero, Int.reduceBEq, Int.reduceLT, Int.reduceLE, Int.reduceAdd, Int.reduceSub, Int.reduceMul, Int.reduceNeg, Int.reduceDiv, Int.reduceMod, decide_true, decide_false, n1, d2, min_i, h]
theorem best_wide2_no (h : d_widths [.val d, .val e] = .err "NoNumber") : d_best_wide2 [.val d, .val e] = .err "NoNumber" := by
  unfold d_best_wide2 f_best_wide2
  simp (implicitDefEqProofs := false) (disch := omega) only [↓r_seq, ↓r_next, ↓r_if, ↓r_eif, ↓r_set, ↓r_ret, ↓r_retV, ↓r_expr, ↓r_asg, ↓r_par, ↓r_app, ↓r_ext, ↓r_sto, ↓r_or1, ↓r_or, ↓r_and1, ↓r_and, ↓r_vor1, ↓r_vor, ↓r_vand1, ↓r_vand, ↓r_not, ↓r_tru, ↓r_isB, ↓r_eC, ↓r_rd, ↓r_vl, ↓r_rV, ↓r_eV, ↓r_uV, ↓r_uVl, ↓r_sq0, ↓r_sq, ↓r_e2, ↓r_e3, ↓r_call, ↓r_user, ↓r_enot, ↓r_eneg, ↓r_tup, ↓r_lst, ↓r_sl, ↓r_noP, ↓r_aP, ↓r_iOf, ↓r_iF, ↓r_def, ↓r_ref, r_seqNx, r_seqRt, r_seqBk, r_seqCt, r_ifT, r_ifF, r_setV, r_setOt, r_setOl, r_setOd, r_setOs, r_retK, r_retVv, r_retVo, r_asgK, r_tgN, r_tgT, r_tgL, r_tgs0, r_tgs, r_parK, r_ownL, r_ownLo, r_ownD, r_ownDo, r_appK, r_appJ, r_extK, r_extJ, r_stoK, r_stoI, r_stoJ, r_stoL, r_orT, r_orF, r_andT, r_andF, r_vorK, r_vorT, r_vorF, r_vandK, r_vandT, r_vandF, r_notK, r_truK, r_truB, r_truI, r_truL, r_truT, r_truN, r_isBK, r_rdV, r_rdO, r_dV, r_dO, r_valV, r_valL, r_valD, r_rVv, r_rVo, r_rVb, r_eVv, r_uVv, r_uVo, r_uVb, r_uVlK, r_sqK, r_consK, r_opK, r_opJ, r_chK, r_chJ, r_chT, r_chF, r_clK, r_ntK, r_ngK, r_tpK, r_lsK, r_slK, r_slJ, r_slI, r_slL, r_slT, r_aPK, r_sqL, r_sqT, r_sqS, r_rtR, r_rtN, r_refO, r_refE, r_wdK, r_bAdd, r_bSub, r_bMul, r_bDiv, r_bMod, r_bPow, r_cLt, r_cLe, r_cGt, r_cGe, r_cEq, r_cNe, r_ixL, r_ixT, r_of, r_lenL, r_lenT, r_lenS, Pd.R.bind_ok, Pd.R.bind_err, Pd.R.bind_stuck, noE_ok', mul_r, div_i, mod_i, add_i, sub_i, lt_i, le_i, gt_i, ge_i, eq_i, ne_i, pow18, List.cons_append, List.nil_append, List.getElem?_cons_zero, List.getElem?_cons_succ, List.replicate_succ, List.replicate_zero, List.set_cons_zero, List.set_cons_succ, List.length_cons, List.length_nil, if_true, if_false, Bool.not_true, Bool.not_false, Bool.false_eq_true, ↓reduceIte, Nat.reduceAdd, Nat.reduceLeDiff, Nat.reduceLT, Nat.zero_add, Option.map_some, Int.cast_ofNat_Int, Int.natCast_one, Int.natCast_zero, Int.reduceBEq, Int.reduceLT, Int.reduceLE, Int.reduceAdd, Int.reduceSub, Int.reduceMul, Int.reduceNeg, Int.reduceDiv, Int.reduceMod, decide_true, decide_false, h]
theorem best_leaps2_no (h : d_widths [.val d, .val e] = .err "NoNumber") : d_best_leaps2 [.val d, .val e] = .err "NoNumber" := by
  unfold d_best_leaps2 f_best_leaps2
  simp (implicitDefEqProofs := false) (disch := omega) only [↓r_seq, ↓r_next, ↓r_if, ↓r_eif, ↓r_set, ↓r_ret, ↓r_retV, ↓r_expr, ↓r_asg, ↓r_par, ↓r_app, ↓r_ext, ↓r_sto, ↓r_or1, ↓r_or, ↓r_and1, ↓r_and, ↓r_vor1, ↓r_vor, ↓r_vand1, ↓r_vand, ↓r_not, ↓r_tru, ↓r_isB, ↓r_eC, ↓r_rd, ↓r_vl, ↓r_rV, ↓r_eV, ↓r_uV, ↓r_uVl, ↓r_sq0, ↓r_sq, ↓r_e2, ↓r_e3, ↓r_call, ↓r_user, ↓r_enot, ↓r_eneg, ↓r_tup, ↓r_lst, ↓r_sl, ↓r_noP, ↓r_aP, ↓r_iOf, ↓r_iF, ↓r_def, ↓r_ref, r_seqNx, r_seqRt, r_seqBk, r_seqCt, r_ifT, r_ifF, r_setV, r_setOt, r_setOl, r_setOd, r_setOs, r_retK, r_retVv, r_retVo, r_asgK, r_tgN, r_tgT, r_tgL, r_tgs0, r_tgs, r_parK, r_ownL, r_ownLo, r_ownD, r_ownDo, r_appK, r_appJ, r_extK, r_extJ, r_stoK, r_stoI, r_stoJ, r_stoL, r_orT, r_orF, r_andT, r_andF, r_vorK, r_vorT, r_vorF, r_vandK, r_vandT, r_vandF, r_notK, r_truK, r_truB, r_truI, r_truL, r_truT, r_truN, r_isBK, r_rdV, r_rdO, r_dV, r_dO, r_valV, r_valL, r_valD, r_rVv, r_rVo, r_rVb, r_eVv, r_uVv, r_uVo, r_uVb, r_uVlK, r_sqK, r_consK, r_opK, r_opJ, r_chK, r_chJ, r_chT, r_chF, r_clK, r_ntK, r_ngK, r_tpK, r_lsK, r_slK, r_slJ, r_slI, r_slL, r_slT, r_aPK, r_sqL, r_sqT, r_sqS, r_rtR, r_rtN, r_refO, r_refE, r_wdK, r_bAdd, r_bSub, r_bMul, r_bDiv, r_bMod, r_bPow, r_cLt, r_cLe, r_cGt, r_cGe, r_cEq, r_cNe, r_ixL, r_ixT, r_of, r_lenL, r_lenT, r_lenS, Pd.R.bind_ok, Pd.R.bind_err, Pd.R.bind_stuck, noE_ok', mul_r, div_i, mod_i, add_i, sub_i, lt_i, le_i, gt_i, ge_i, eq_i, ne_i, pow18, List.cons_append, List.nil_append, List.getElem?_cons_zero, List.getElem?_cons_succ, List.replicate_succ, List.replicate_zero, List.set_cons_zero, List.set_cons_succ, List.length_cons, List.length_nil, if_true, if_false, Bool.not_true, Bool.not_false, Bool.false_eq_true, ↓reduceIte, Nat.reduceAdd, Nat.reduceLeDiff, Nat.reduceLT, Nat.zero_add, Option.map_some, Int.cast_ofNat_Int, Int.natCast_one, Int.natCast_zero, Int.reduceBEq, Int.reduceLT, Int.reduceLE, Int.reduceAdd, Int.reduceSub, Int.reduceMul, Int.reduceNeg, Int.reduceDiv, Int.reduceMod, decide_true, decide_false, h]
theorem all_best2_no (h : d_widths [.val d, .val e] = .err "NoNumber") : d_all_best2 [.val d, .val e] = .err "NoNumber" := by
  unfold d_all_best2 f_all_best2
  simp (implicitDefEqProofs := false) (disch := omega) only [↓r_seq, ↓r_next, ↓r_if, ↓r_eif, ↓r_set, ↓r_ret, ↓r_retV, ↓r_expr, ↓r_asg, ↓r_par, ↓r_app, ↓r_ext, ↓r_sto, ↓r_or1, ↓r_or, ↓r_and1, ↓r_and, ↓r_vor1, ↓r_vor, ↓r_vand1, ↓r_vand, ↓r_not, ↓r_tru, ↓r_isB, ↓r_eC, ↓r_rd, ↓r_vl, ↓r_rV, ↓r_eV, ↓r_uV, ↓r_uVl, ↓r_sq0, ↓r_sq, ↓r_e2, ↓r_e3, ↓r_call, ↓r_user, ↓r_enot, ↓r_eneg, ↓r_tup, ↓r_lst, ↓r_sl, ↓r_noP, ↓r_aP, ↓r_iOf, ↓r_iF, ↓r_def, ↓r_ref, r_seqNx, r_seqRt, r_seqBk, r_seqCt, r_ifT, r_ifF, r_setV, r_setOt, r_setOl, r_setOd, r_setOs, r_retK, r_retVv, r_retVo, r_asgK, r_tgN, r_tgT, r_tgL, r_tgs0, r_tgs, r_parK, r_ownL, r_ownLo, r_ownD, r_ownDo, r_appK, r_appJ, r_extK, r_extJ, r_stoK, r_stoI, r_stoJ, r_stoL, r_orT, r_orF, r_andT, r_andF, r_vorK, r_vorT, r_vorF, r_vandK, r_vandT, r_vandF, r_notK, r_truK, r_truB, r_truI, r_truL, r_truT, r_truN, r_isBK, r_rdV, r_rdO, r_dV, r_dO, r_valV, r_valL, r_valD, r_rVv, r_rVo, r_rVb, r_eVv, r_uVv, r_uVo, r_uVb, r_uVlK, r_sqK, r_consK, r_opK, r_opJ, r_chK, r_chJ, r_chT, r_chF, r_clK, r_ntK, r_ngK, r_tpK, r_lsK, r_slK, r_slJ, r_slI, r_slL, r_slT, r_aPK, r_sqL, r_sqT, r_sqS, r_rtR, r_rtN, r_refO, r_refE, r_wdK, r_bAdd, r_bSub, r_bMul, r_bDiv, r_bMod, r_bPow, r_cLt, r_cLe, r_cGt, r_cGe, r_cEq, r_cNe, r_ixL, r_ixT, r_of, r_lenL, r_lenT, r_lenS, Pd.R.bind_ok, Pd.R.bind_err, Pd.R.bind_stuck, noE_ok', mul_r, div_i, mod_i, add_i, sub_i, lt_i, le_i, gt_i, ge_i, eq_i, ne_i, pow18, List.cons_append, List.nil_append, List.getElem?_cons_zero, List.getElem?_cons_succ, List.replicate_succ, List.replicate_zero, List.set_cons_zero, List.set_cons_succ, List.length_cons, List.length_nil, if_true, if_false, Bool.not_true, Bool.not_false, Bool.false_eq_true, ↓reduceIte, Nat.reduceAdd, Nat.reduceLeDiff, Nat.reduceLT, Nat.zero_add, Option.map_some, Int.cast_ofNat_Int, Int.natCast_one, Int.natCast_zero, Int.reduceBEq, Int.reduceLT, Int.reduceLE, Int.reduceAdd, Int.reduceSub, Int.reduceMul, Int.reduceNeg, Int.reduceDiv, Int.reduceMod, decide_true, decide_false, h]
end
end Pd

set_option maxHeartbeats 4000000
namespace Lk41
open PySem PySem.Spec L2 Pd Pr
def topS (i : Nat) : Stmt := PySem.Challenge.pw_leaprings_k41_best_leaps.main.body.getD i (.Pass ⟨0, 0, 0, 0⟩)
/-! ### is_number -/
abbrev N_is_number : List Str := ["thing", "least", "most"]
abbrev sc_is_number : Scope := L2.defScope (topS 17)
/-! ### need_number -/
abbrev N_need_number : List Str := ["thing", "least", "most"]
abbrev sc_need_number : Scope := L2.defScope (topS 18)
/-! ### beside -/
abbrev N_beside : List Str := ["ring", "place", "found", "many", "leaps", "leap"]
abbrev sc_beside : Scope := L2.defScope (topS 19)
/-! ### common -/
abbrev N_common : List Str := ["one", "other"]
abbrev sc_common : Scope := L2.defScope (topS 20)
/-! ### pieces_of -/
abbrev N_pieces_of : List Str := ["ring", "found", "leap"]
abbrev sc_pieces_of : Scope := L2.defScope (topS 21)
/-! ### steps_of -/
abbrev N_steps_of : List Str := ["ring", "found", "order", "at", "place"]
abbrev sc_steps_of : Scope := L2.defScope (topS 23)
/-! ### picks -/
abbrev N_picks : List Str := ["most", "k", "found", "turn", "longer", "some", "one"]
abbrev sc_picks : Scope := L2.defScope (topS 27)
/-! ### widths -/
abbrev N_widths : List Str := ["many", "k", "found", "leaps"]
abbrev sc_widths : Scope := L2.defScope (topS 28)
/-! ### best_wide -/
abbrev N_best_wide : List Str := ["many", "k"]
abbrev sc_best_wide : Scope := L2.defScope (topS 29)
def f_best_wide : Gm → R Out := sSeq (sRet (e2 dIx (rd (eCall fMinD (seqR [rd (eUser d_widths (seqR [uVar 0, uVar 1]))]))) (rd (eC (.int 0)))))
  (sNext)
def d_best_wide : List Sl → R O := defF 0 f_best_wide
/-! ### all_best -/
abbrev N_all_best : List Str := ["many", "k", "found", "least", "width", "leaps"]
abbrev sc_all_best : Scope := L2.defScope (topS 30)
def f_all_best : Gm → R Out := sSeq (sSet false 2 (eUser d_widths (seqR [uVar 0, uVar 1])))
  (sSeq (sSet false 3 (e2 dIx (rd (eCall fMinD (seqR [rVar 2]))) (rd (eC (.int 0)))))
  (sSeq (sRet (eLc (iF (rVar 2)) (.tp [.nm 4, .nm 5]) (isB (e2 (dCmp .Eq) (rVar 4) (rVar 3))) (vl (eVar 5)) ([4, 5])))
  (sNext)))
def d_all_best : List Sl → R O := defF 4 f_all_best
/-! ### best_leaps -/
abbrev N_best_leaps : List Str := ["many", "k"]
abbrev sc_best_leaps : Scope := L2.defScope (topS 31)
def f_best_leaps : Gm → R Out := sSeq (sRet (e2 dIx (rd (eCall fMinD (seqR [rd (eUser d_widths (seqR [uVar 0, uVar 1]))]))) (rd (eC (.int 1)))))
  (sNext)
def d_best_leaps : List Sl → R O := defF 0 f_best_leaps
/-! ### _law_cell_at -/
abbrev N__law_cell_at : List Str := ["_law_script", "_law_k"]
abbrev sc__law_cell_at : Scope := L2.defScope (topS 33)
/-! ### _law_draw -/
abbrev N__law_draw : List Str := ["_law_cell", "_law_k", "_law_bound", "_law_stir", "_law_left", "_law_j"]
abbrev sc__law_draw : Scope := L2.defScope (topS 34)
/-! ### _law_near -/
abbrev N__law_near : List Str := ["_law_ring", "_law_place", "_law_found", "_law_leap", "_law_many", "_law_leaps"]
abbrev sc__law_near : Scope := L2.defScope (topS 35)
/-! ### _law_steps -/
abbrev N__law_steps : List Str := ["_law_ring", "_law_place", "_law_found", "_law_here", "_law_step", "_law_later", "_law_one", "_law_other"]
abbrev sc__law_steps : Scope := L2.defScope (topS 36)
/-! ### _law_no_number -/
abbrev N__law_no_number : List Str := ["_law_cell", "_law_at", "_law_least", "_law_most", "_law_some"]
abbrev sc__law_no_number : Scope := L2.defScope (topS 37)
/-! ### _law_class -/
abbrev N__law_class : List Str := ["_law_error", "_law_kinds", "_law_words"]
abbrev sc__law_class : Scope := L2.defScope (topS 38)
def f__law_class (a c0 c1 c2 c3 c4 c5 c6 c7 c8 c9 c10 c11 c12 c13 c14 : Addr) (b1 b2 b3 b4 b5 b6 b7 b8 b9 b10 b11 b12 b13 b14 : Bool) : Gm → R Out := sSeq (sIf (tOrF [tNotF (tTru (rd (eCall (fIsE a (.ref c0) true) (seqR [rVar 0, rd (eC (.ref c0))])))), tNotF (tTru (rd (eCall (fIsE a (.ty "ValueError") true) (seqR [rVar 0, rd (eC (.ty "ValueError"))]))))]) (sSeq (sRet (eC (.str "odd")))
  (sNext)) (sNext))
  (sSeq (sSet false 1 (eLst (seqR [vl (eCall (fIsE a (.ref c1) b1) (seqR [rVar 0, rd (eC (.ref c1))])), vl (eCall (fIsE a (.ref c2) b2) (seqR [rVar 0, rd (eC (.ref c2))])), vl (eCall (fIsE a (.ref c3) b3) (seqR [rVar 0, rd (eC (.ref c3))]))])))
  (sSeq (sSet false 1 (e2 (dBin .Add) (rVar 1) (rd (eLst (seqR [vl (eCall (fIsE a (.ref c4) b4) (seqR [rVar 0, rd (eC (.ref c4))])), vl (eCall (fIsE a (.ref c5) b5) (seqR [rVar 0, rd (eC (.ref c5))])), vl (eCall (fIsE a (.ref c6) b6) (seqR [rVar 0, rd (eC (.ref c6))]))])))))
  (sSeq (sSet false 1 (e2 (dBin .Add) (rVar 1) (rd (eLst (seqR [vl (eCall (fIsE a (.ref c7) b7) (seqR [rVar 0, rd (eC (.ref c7))])), vl (eCall (fIsE a (.ref c8) b8) (seqR [rVar 0, rd (eC (.ref c8))])), vl (eCall (fIsE a (.ref c9) b9) (seqR [rVar 0, rd (eC (.ref c9))]))])))))
  (sSeq (sSet false 1 (e2 (dBin .Add) (rVar 1) (rd (eLst (seqR [vl (eCall (fIsE a (.ref c10) b10) (seqR [rVar 0, rd (eC (.ref c10))])), vl (eCall (fIsE a (.ref c11) b11) (seqR [rVar 0, rd (eC (.ref c11))])), vl (eCall (fIsE a (.ref c12) b12) (seqR [rVar 0, rd (eC (.ref c12))]))])))))
  (sSeq (sSet false 1 (e2 (dBin .Add) (rVar 1) (rd (eLst (seqR [vl (eCall (fIsE a (.ref c13) b13) (seqR [rVar 0, rd (eC (.ref c13))])), vl (eCall (fIsE a (.ref c14) b14) (seqR [rVar 0, rd (eC (.ref c14))]))])))))
  (sSeq (sIf (isB (e2 (dCmp .NotEq) (rd (eMt cntD (rVar 1) (rd (eC (.bl true))))) (rd (eC (.int 1))))) (sSeq (sRet (eC (.str "odd")))
  (sNext)) (sNext))
  (sSeq (sSet false 2 (eLst (seqR [vl (eC (.str "ring")), vl (eC (.str "place")), vl (eC (.str "number")), vl (eC (.str "whole")), vl (eC (.str "way")), vl (eC (.str "counts")), vl (eC (.str "paper")), vl (eC (.str "ties")), vl (eC (.str "places")), vl (eC (.str "two"))])))
  (sSeq (sRet (e2 dIx (rd (e2 (dBin .Add) (rVar 2) (rd (eLst (seqR [vl (eC (.str "cell")), vl (eC (.str "text")), vl (eC (.str "deed")), vl (eC (.str "line"))]))))) (rd (eMt idxD (rVar 1) (rd (eC (.bl true)))))))
  (sNext)))))))))
/-! ### _law_refused -/
abbrev N__law_refused : List Str := ["_law_call", "_law_word", "_law_error"]
abbrev sc__law_refused : Scope := L2.defScope (topS 39)
def word (n : Str) : Option Str := if n = "NoNumber" then some "number" else none
/-! ### _law_all -/
abbrev N__law_all : List Str := ["_law_most", "_law_k", "_law_least", "_law_found", "_law_one", "_law_some"]
abbrev sc__law_all : Scope := L2.defScope (topS 40)
def f__law_all (dr : List Sl → R O) : Gm → R Out := sSeq (sIf (isB (e2 (dCmp .Eq) (rVar 1) (rd (eC (.int 0))))) (sSeq (sRet (eLst (seqR [vl (eTup (seqR []))])))
  (sNext)) (sNext))
  (sSeq (sSet true 3 (eLst (seqR [])))
  (sSeq (sFor (iOf rngF2 (seqR [rVar 2, rd (e2 (dBin .Add) (rVar 0) (rd (eC (.int 1))))])) (.nm 4) (sSeq (sExt 3 (rd (eLc (iF (rd (eUser dr (seqR [uVar 0, uVal (vl (e2 (dBin .Sub) (rVar 1) (rd (eC (.int 1))))), uVal (vl (e2 (dBin .Add) (rVar 4) (rd (eC (.int 1)))))])))) (.nm 5) ((fun _ => .ok true)) (vl (e2 (dBin .Add) (rd (eTup (seqR [vl (eVar 4)]))) (rVar 5))) ([5]))))
  (sNext)))
  (sSeq (sRetV 3)
  (sNext))))
def r__law_all : Nat → List Sl → R O
  | 0 => defF 3 fun _ => .stuck
  | n + 1 => defF 3 (f__law_all (r__law_all n))
def d__law_all : List Sl → R O := r__law_all 4
/-! ### law -/
abbrev N_law : List Str := ["_law_script", "_law_j", "_law_cell", "_law_many", "_law_k", "_law_known", "_law_leaps", "_law_least", "_law_due", "_law_turn", "_law_bad", "_law_worse", "_law_call", "_law_steps_here", "_law_found", "_law_width", "_law_one"]
abbrev sc_law : Scope := L2.defScope (topS 41)
def f_law (v_all_best v_best_wide v_best_leaps : Addr) : Gm → R Out := sSeq (sFor (iOf rngF1 (seqR [rd (eCall fMax (seqR [rd (eC (.int 1)), rd (eCall fMin (seqR [rd (eCall fLen (seqR [rVar 0])), rd (eC (.int 3))]))]))])) (.nm 1) (sSeq (sSet false 2 (eUser d__law_cell_at (seqR [uVar 0, uVar 1])))
  (sSeq (sSet false 3 (e2 (dBin .Add) (rd (eC (.int 3))) (rd (eUser d__law_draw (seqR [uVar 2, uVal (vl (eC (.int 1))), uVal (vl (e2 dIx (rd (eLst (seqR [vl (eC (.int 16)), vl (eC (.int 16)), vl (eC (.int 16)), vl (eC (.int 28))]))) (rd (eUser d__law_draw (seqR [uVar 2, uVal (vl (eC (.int 0))), uVal (vl (eC (.int 4)))])))))])))))
  (sSeq (sSet false 4 (e2 (dBin .Add) (rd (eC (.int 1))) (rd (eUser d__law_draw (seqR [uVar 2, uVal (vl (eC (.int 2))), uVal (vl (eCall fMin (seqR [rd (eC (.int 3)), rd (e2 (dBin .FloorDiv) (rVar 3) (rd (eC (.int 2))))])))])))))
  (sSeq (sSet true 5 (eLst (seqR [])))
  (sSeq (sFor (iF (vl (eUser d__law_all (seqR [uVal (vl (e2 (dBin .FloorDiv) (rVar 3) (rd (eC (.int 2))))), uVar 4, uVal (vl (eC (.int 1)))])))) (.nm 6) (sSeq (sSet false 13 (eUser d__law_steps (seqR [uVal (vl (eTup (seqR [vl (eVar 3), vl (eVar 6)]))), uVal (vl (eC (.int 0)))])))
  (sSeq (sIf (isB (e2 (dCmp .NotIn) (rd (eC .non)) (rVar 13))) (sSeq (sApp 5 (vl (eTup (seqR [vl (eCall fMax (seqR [rVar 13])), vl (eVar 6)]))))
  (sNext)) (sNext))
  (sNext))))
  (sSeq (sSet false 7 (e2 dIx (rd (eCall fMinD (seqR [rVar 5]))) (rd (eC (.int 0)))))
  (sSeq (sSet false 8 (eLc (iF (rVar 5)) (.tp [.nm 15, .nm 6]) (isB (e2 (dCmp .Eq) (rVar 15) (rVar 7))) (vl (eVar 6)) ([15, 6])))
  (sSeq (sFor (iOf rngF1 (seqR [rd (eC (.int 2))])) (.nm 9) (sSeq (sSet true 14 (eUser d_all_best (seqR [uVar 3, uVar 4])))
  (sSeq (sIf (tOrF [tNotF (tTru (rd (eCall fIsi (seqR [rVar 14, rd (eC (.ty "list"))])))), isB (e2 (dCmp .NotEq) (rVar 14) (rVar 8)), tNotF (tTru (rd (eCall fAll (seqR [rd (eLc (iF (rVar 14)) (.nm 16) ((fun _ => .ok true)) (vl (eCall fIsi (seqR [rVar 16, rd (eC (.ty "tuple"))]))) ([16]))]))))]) (sSeq (sRet (eC (.bl false)))
  (sNext)) (sNext))
  (sSeq (sApp 14 (vl (eTup (seqR []))))
  (sNext)))))
  (sSeq (sIf (tOrF [isB (e2 (dCmp .NotEq) (rd (eUser d_best_wide (seqR [uVar 3, uVar 4]))) (rVar 7)), tTru (rd (eCall fIsi (seqR [rd (eUser d_best_wide (seqR [uVar 3, uVar 4])), rd (eC (.ty "bool"))]))), isB (e2 (dCmp .NotEq) (rd (eUser d_best_leaps (seqR [uVar 3, uVar 4]))) (rd (e2 dIx (rVar 8) (rd (eC (.int 0))))))]) (sSeq (sRet (eC (.bl false)))
  (sNext)) (sNext))
  (sSeq (sSet false 10 (eUser d__law_no_number (seqR [uVar 2, uVal (vl (eC (.int 10))), uVal (vl (eC (.int 3))), uVal (vl (eC (.int 30)))])))
  (sSeq (sSet false 11 (eUser d__law_no_number (seqR [uVar 2, uVal (vl (eC (.int 11))), uVal (vl (eC (.int 1))), uVal (vl (eCall fMin (seqR [rd (eC (.int 3)), rd (e2 (dBin .FloorDiv) (rVar 3) (rd (eC (.int 2))))])))])))
  (sSeq (sFor (iF (vl (eLst (seqR [vl (eC (.ref v_all_best)), vl (eC (.ref v_best_wide)), vl (eC (.ref v_best_leaps))])))) (.nm 12) (sSeq (sIf (isB (e2 (dCmp .NotEq) (rd (eRef word (eCallV [(v_all_best, d_all_best), (v_best_wide, d_best_wide), (v_best_leaps, d_best_leaps)] 12 (seqR [uVar 10, uVal (vl (eC (.int 1)))])))) (rd (eC (.str "number"))))) (sSeq (sRet (eC (.bl false)))
  (sNext)) (sNext))
  (sSeq (sIf (isB (e2 (dCmp .NotEq) (rd (eRef word (eCallV [(v_all_best, d_all_best), (v_best_wide, d_best_wide), (v_best_leaps, d_best_leaps)] 12 (seqR [uVar 3, uVar 11])))) (rd (eC (.str "number"))))) (sSeq (sRet (eC (.bl false)))
  (sNext)) (sNext))
  (sNext))))
  (sNext))))))))))))))
  (sSeq (sRet (vAndF [e2 (dCmp .Eq) (rd (eUser d_all_best (seqR [uVal (vl (eC (.int 5))), uVal (vl (eC (.int 1)))]))) (rd (eLst (seqR [vl (eTup (seqR [vl (eC (.int 1))])), vl (eTup (seqR [vl (eC (.int 2))]))]))), e2 (dCmp .Eq) (rd (eUser d_best_wide (seqR [uVal (vl (eC (.int 5))), uVal (vl (eC (.int 2)))]))) (rd (eC (.int 1))), e2 (dCmp .Eq) (rd (eUser d_best_leaps (seqR [uVal (vl (eC (.int 30))), uVal (vl (eC (.int 1)))]))) (rd (eTup (seqR [vl (eC (.int 1))])))]))
  (sNext))
def d_law (v_all_best v_best_wide v_best_leaps : Addr) : List Sl → R O := defF 16 (f_law v_all_best v_best_wide v_best_leaps)
/-! ## the walk -/
theorem fs_is_number : FnScope N_is_number ["thing", "least", "most"] sc_is_number := ⟨rfl, rfl, rfl, by decide +kernel, rfl, by decide +kernel, by decide +kernel⟩
theorem w_is_number {G : Gl5} {X : Cx} {T : List (Addr × Str)} {E : Ex T} (C : Cok X E G 0 N_is_number sc_is_number fnAll) (S : Sok X) (b_bool : BltG G "bool") (b_int : BltG G "int") (b_isinstance : BltG G "isinstance") : SB X E (L2.defBody (topS 17)) f_is_number := by
  have v0 : varB N_is_number sc_is_number 0 "thing" = true := by decide +kernel
  have g1 : gloB sc_is_number "int" = true := by decide +kernel
  have g2 : gloB sc_is_number "isinstance" = true := by decide +kernel
  have g3 : gloB sc_is_number "bool" = true := by decide +kernel
  have v1 : varB N_is_number sc_is_number 1 "least" = true := by decide +kernel
  have v2 : varB N_is_number sc_is_number 2 "most" = true := by decide +kernel
  exact (sb_cons (ss_ret (se_and _ (.cons (c_blt C (f := fIsi) (by rfl) g2 b_isinstance (a_cons (n_r C v0) (a_cons (SE.read (n_t C g1 b_int (by decide +kernel) (by decide))) .nil))) (.cons (se_not (SE.read (c_blt C (f := fIsi) (by rfl) g2 b_isinstance (a_cons (n_r C v0) (a_cons (SE.read (n_t C g3 b_bool (by decide +kernel) (by decide))) .nil))))) (.cons (e_chain C (n_r C v1) (n_r C v0) (n_r C v2)) .nil))) (by simp)))
  sb_nil)
theorem fs_need_number : FnScope N_need_number ["thing", "least", "most"] sc_need_number := ⟨rfl, rfl, rfl, by decide +kernel, rfl, by decide +kernel, by decide +kernel⟩
theorem w_need_number {G : Gl5} {X : Cx} {T : List (Addr × Str)} {E : Ex T} (C : Cok X E G 1 N_need_number sc_need_number fnAll) (S : Sok X) (h_is_number : DefG G 1 "is_number" 3 d_is_number) (x_NoNumber : ExcG G "NoNumber") : SB X E (L2.defBody (topS 18)) f_need_number := by
  have v0 : varB N_need_number sc_need_number 0 "thing" = true := by decide +kernel
  have v1 : varB N_need_number sc_need_number 1 "least" = true := by decide +kernel
  have v2 : varB N_need_number sc_need_number 2 "most" = true := by decide +kernel
  have g3 : gloB sc_need_number "is_number" = true := by decide +kernel
  have g4 : gloB sc_need_number "NoNumber" = true := by decide +kernel
  exact (sb_cons (ss_if (st_not (t_tru (SE.read (c_def C h_is_number g3 (u_cons (n_u C v0) (u_cons (n_u C v1) (u_cons (n_u C v2) .nil))))))) (sb_cons (s_raise C x_NoNumber g4)
  sb_nil) sb_nil)
  sb_nil)
theorem fs_beside : FnScope N_beside ["ring", "place"] sc_beside := ⟨rfl, rfl, rfl, by decide +kernel, rfl, by decide +kernel, by decide +kernel⟩
theorem w_beside {G : Gl5} {X : Cx} {T : List (Addr × Str)} {E : Ex T} (C : Cok X E G 0 N_beside sc_beside fnAll) (S : Sok X) (b_set : BltG G "set") (b_sorted : BltG G "sorted") (b_tuple : BltG G "tuple") : SB X E (L2.defBody (topS 19)) f_beside := by
  have v0 : varB N_beside sc_beside 0 "ring" = true := by decide +kernel
  have s3 : stoB N_beside sc_beside fnAll 3 "many" = true := by decide +kernel
  have s4 : stoB N_beside sc_beside fnAll 4 "leaps" = true := by decide +kernel
  have v4 : varB N_beside sc_beside 4 "leaps" = true := by decide +kernel
  have s2 : stoB N_beside sc_beside fnAll 2 "found" = true := by decide +kernel
  have v2 : varB N_beside sc_beside 2 "found" = true := by decide +kernel
  have g6 : gloB sc_beside "sorted" = true := by decide +kernel
  have g7 : gloB sc_beside "set" = true := by decide +kernel
  have g8 : gloB sc_beside "tuple" = true := by decide +kernel
  exact (sb_cons (s_asg C (SE.val (n_e C v0)) (t_tup C (g_cons (t_name C s3) (g_cons (t_name C s4) sgs_nil))))
  (sb_cons (s_set C false s2 (se_bin (SE.read (c_lc C [("leap", 5)] (sitC_sq (n_r C v4)) (by decide +kernel) (fun _ C1 => (t_name C1 (by decide +kernel))) (fun _ C1 => f_none) (fun _ C1 => (SE.val (se_bin (SE.read (se_bin (n_r C1 (by decide +kernel)) (n_r C1 (by decide +kernel)))) (n_r C1 (by decide +kernel))))))) (SE.read (c_lc C [("leap", 5)] (sitC_sq (n_r C v4)) (by decide +kernel) (fun _ C2 => (t_name C2 (by decide +kernel))) (fun _ C2 => f_none) (fun _ C2 => (SE.val (se_bin (SE.read (se_bin (n_r C2 (by decide +kernel)) (n_r C2 (by decide +kernel)))) (n_r C2 (by decide +kernel)))))))))
  (sb_cons (ss_ret (c_blt C (f := fTuple) (by rfl) g8 b_tuple (a_cons (SE.read (c_sortSet C g6 b_sorted g7 b_set (n_r C v2))) .nil)))
  sb_nil)))
theorem fs_common : FnScope N_common ["one", "other"] sc_common := ⟨rfl, rfl, rfl, by decide +kernel, rfl, by decide +kernel, by decide +kernel⟩
theorem w_common {G : Gl5} {X : Cx} {T : List (Addr × Str)} {E : Ex T} (C : Cok X E G 0 N_common sc_common fnAll) (S : Sok X)  : SB X E (L2.defBody (topS 20)) f_common := by
  have v1 : varB N_common sc_common 1 "other" = true := by decide +kernel
  have v0 : varB N_common sc_common 0 "one" = true := by decide +kernel
  have s0 : stoB N_common sc_common fnAll 0 "one" = true := by decide +kernel
  have s1 : stoB N_common sc_common fnAll 1 "other" = true := by decide +kernel
  exact (sb_cons (s_while S whN (t_cmp C (n_r C v1) (SE.read k_int)) (sb_cons (s_par C s0 s1 (by decide +kernel) (si_of (v_cons (SE.val (n_e C v1)) (v_cons (SE.val (se_bin (n_r C v0) (n_r C v1))) .nil))))
  sb_nil))
  (sb_cons (s_retV C v0)
  sb_nil))
theorem fs_pieces_of : FnScope N_pieces_of ["ring"] sc_pieces_of := ⟨rfl, rfl, rfl, by decide +kernel, rfl, by decide +kernel, by decide +kernel⟩
theorem w_pieces_of {G : Gl5} {X : Cx} {T : List (Addr × Str)} {E : Ex T} (C : Cok X E G 1 N_pieces_of sc_pieces_of fnAll) (S : Sok X) (h_common : DefG G 1 "common" 2 d_common) : SB X E (L2.defBody (topS 21)) f_pieces_of := by
  have v0 : varB N_pieces_of sc_pieces_of 0 "ring" = true := by decide +kernel
  have s1 : stoB N_pieces_of sc_pieces_of fnAll 1 "found" = true := by decide +kernel
  have s2 : stoB N_pieces_of sc_pieces_of fnAll 2 "leap" = true := by decide +kernel
  have v1 : varB N_pieces_of sc_pieces_of 1 "found" = true := by decide +kernel
  have v2 : varB N_pieces_of sc_pieces_of 2 "leap" = true := by decide +kernel
  have g5 : gloB sc_pieces_of "common" = true := by decide +kernel
  exact (sb_cons (s_set C false s1 (e_ix C (n_r C v0) (SE.read k_int)))
  (sb_cons (s_for C S (sitF_sq (SE.val (e_ix C (n_r C v0) (SE.read k_int)))) (t_name C s2) (sb_cons (s_set C false s1 (c_def C h_common g5 (u_cons (n_u C v1) (u_cons (n_u C v2) .nil))))
  sb_nil))
  (sb_cons (s_retV C v1)
  sb_nil)))
theorem fs_steps_of : FnScope N_steps_of ["ring"] sc_steps_of := ⟨rfl, rfl, rfl, by decide +kernel, rfl, by decide +kernel, by decide +kernel⟩
theorem w_steps_of {G : Gl5} {X : Cx} {T : List (Addr × Str)} {E : Ex T} (C : Cok X E G 1 N_steps_of sc_steps_of fnAll) (S : Sok X) (h_beside : DefG G 1 "beside" 2 d_beside) (b_len : BltG G "len") : SB X E (L2.defBody (topS 23)) f_steps_of := by
  have v0 : varB N_steps_of sc_steps_of 0 "ring" = true := by decide +kernel
  have s1 : stoB N_steps_of sc_steps_of fnAll 1 "found" = true := by decide +kernel
  have v1 : varB N_steps_of sc_steps_of 1 "found" = true := by decide +kernel
  have s2 : stoB N_steps_of sc_steps_of fnAll 2 "order" = true := by decide +kernel
  have s3 : stoB N_steps_of sc_steps_of fnAll 3 "at" = true := by decide +kernel
  have v3 : varB N_steps_of sc_steps_of 3 "at" = true := by decide +kernel
  have v2 : varB N_steps_of sc_steps_of 2 "order" = true := by decide +kernel
  have g7 : gloB sc_steps_of "len" = true := by decide +kernel
  have g8 : gloB sc_steps_of "beside" = true := by decide +kernel
  have s4 : stoB N_steps_of sc_steps_of fnAll 4 "place" = true := by decide +kernel
  have v4 : varB N_steps_of sc_steps_of 4 "place" = true := by decide +kernel
  exact (sb_cons (s_set C true s1 (se_bin (SE.read (se_lst (si_of (v_cons (SE.val k_non) .nil)))) (SE.read (e_ix C (n_r C v0) (SE.read k_int)))))
  (sb_cons (s_sto C v1 (SE.val k_int) (SE.read k_int))
  (sb_cons (s_set C true s2 (se_lst (si_of (v_cons (SE.val k_int) .nil))))
  (sb_cons (s_set C false s3 k_int)
  (sb_cons (s_while S whN (t_cmp C (n_r C v3) (SE.read (c_blt C (f := fLen) (by rfl) g7 b_len (a_cons (n_r C v2) .nil)))) (sb_cons (s_for C S (sitF_sq (SE.val (c_def C h_beside g8 (u_cons (n_u C v0) (u_cons (su_val (SE.val (e_ix C (n_r C v2) (n_r C v3)))) .nil))))) (t_name C s4) (sb_cons (ss_if (t_cmp C (SE.read (e_ix C (n_r C v1) (n_r C v4))) (SE.read k_non)) (sb_cons (s_sto C v1 (SE.val (se_bin (SE.read (e_ix C (n_r C v1) (SE.read (e_ix C (n_r C v2) (n_r C v3))))) (SE.read k_int))) (n_r C v4))
  (sb_cons (s_app C v2 (SE.val (n_e C v4)))
  sb_nil)) sb_nil)
  sb_nil))
  (sb_cons (s_set C false s3 (se_bin (n_r C v3) (SE.read k_int)))
  sb_nil)))
  (sb_cons (s_retV C v1)
  sb_nil))))))
theorem fs_picks : FnScope N_picks ["most", "k"] sc_picks := ⟨rfl, rfl, rfl, by decide +kernel, rfl, by decide +kernel, by decide +kernel⟩
theorem w_picks {G : Gl5} {X : Cx} {T : List (Addr × Str)} {E : Ex T} (C : Cok X E G 0 N_picks sc_picks fnAll) (S : Sok X) (b_range : BltG G "range") : SB X E (L2.defBody (topS 27)) f_picks := by
  have s2 : stoB N_picks sc_picks fnAll 2 "found" = true := by decide +kernel
  have v1 : varB N_picks sc_picks 1 "k" = true := by decide +kernel
  have g2 : gloB sc_picks "range" = true := by decide +kernel
  have s3 : stoB N_picks sc_picks fnAll 3 "turn" = true := by decide +kernel
  have s4 : stoB N_picks sc_picks fnAll 4 "longer" = true := by decide +kernel
  have v2 : varB N_picks sc_picks 2 "found" = true := by decide +kernel
  have s5 : stoB N_picks sc_picks fnAll 5 "some" = true := by decide +kernel
  have v5 : varB N_picks sc_picks 5 "some" = true := by decide +kernel
  have v0 : varB N_picks sc_picks 0 "most" = true := by decide +kernel
  have v4 : varB N_picks sc_picks 4 "longer" = true := by decide +kernel
  exact (sb_cons (s_set C false s2 (se_lst (si_of (v_cons (SE.val (se_tup (si_of .nil))) .nil))))
  (sb_cons (s_for C S (i_rng1 C g2 b_range (n_r C v1)) (t_name C s3) (sb_cons (s_set C true s4 (se_lst (si_of .nil)))
  (sb_cons (s_for C S (sitF_sq (SE.val (n_e C v2))) (t_name C s5) (sb_cons (s_ext C v4 (SE.read (c_lc C [("one", 6)] (SItF.toC (i_rng2 C g2 b_range (SE.read (se_bin (SE.read (se_if (t_cmp C (n_r C v5) (SE.read (se_tup (si_of .nil)))) (e_ix C (n_r C v5) (SE.read (se_neg (SE.read k_int)))) k_int)) (SE.read k_int))) (SE.read (se_bin (n_r C v0) (SE.read k_int))))) (by decide +kernel) (fun _ C1 => (t_name C1 (by decide +kernel))) (fun _ C1 => f_none) (fun _ C1 => (SE.val (se_bin (n_r C1 (by decide +kernel)) (SE.read (se_tup (si_of (v_cons (SE.val (n_e C1 (by decide +kernel))) .nil))))))))))
  sb_nil))
  (sb_cons (SS.frz (s_set C false s2 (n_e C v4)) [4])
  sb_nil))))
  (sb_cons (s_retV C v2)
  sb_nil)))
theorem fs_widths : FnScope N_widths ["many", "k"] sc_widths := ⟨rfl, rfl, rfl, by decide +kernel, rfl, by decide +kernel, by decide +kernel⟩
theorem w_widths {G : Gl5} {X : Cx} {T : List (Addr × Str)} {E : Ex T} (C : Cok X E G 2 N_widths sc_widths fnAll) (S : Sok X) (h_need_number : DefG G 2 "need_number" 3 d_need_number) (h_picks : DefG G 1 "picks" 2 d_picks) (h_pieces_of : DefG G 2 "pieces_of" 1 d_pieces_of) (h_steps_of : DefG G 2 "steps_of" 1 d_steps_of) (b_max : BltG G "max") (b_min : BltG G "min") (c_MOST_TRIED : CstG G "MOST_TRIED" (.int 30)) (c_MOST_TRIED_LEAPS : CstG G "MOST_TRIED_LEAPS" (.int 3)) : SB X E (L2.defBody (topS 28)) f_widths := by
  have v0 : varB N_widths sc_widths 0 "many" = true := by decide +kernel
  have g1 : gloB sc_widths "MOST_TRIED" = true := by decide +kernel
  have g2 : gloB sc_widths "need_number" = true := by decide +kernel
  have v1 : varB N_widths sc_widths 1 "k" = true := by decide +kernel
  have g4 : gloB sc_widths "MOST_TRIED_LEAPS" = true := by decide +kernel
  have g5 : gloB sc_widths "min" = true := by decide +kernel
  have s2 : stoB N_widths sc_widths fnAll 2 "found" = true := by decide +kernel
  have g7 : gloB sc_widths "picks" = true := by decide +kernel
  have s3 : stoB N_widths sc_widths fnAll 3 "leaps" = true := by decide +kernel
  have v3 : varB N_widths sc_widths 3 "leaps" = true := by decide +kernel
  have g10 : gloB sc_widths "pieces_of" = true := by decide +kernel
  have g11 : gloB sc_widths "steps_of" = true := by decide +kernel
  have g12 : gloB sc_widths "max" = true := by decide +kernel
  have v2 : varB N_widths sc_widths 2 "found" = true := by decide +kernel
  exact (sb_cons (s_expr (SE.read (c_def C h_need_number g2 (u_cons (n_u C v0) (u_cons (su_val (SE.val k_int)) (u_cons (su_val (SE.val (n_g C g1 c_MOST_TRIED))) .nil))))))
  (sb_cons (s_expr (SE.read (c_def C h_need_number g2 (u_cons (n_u C v1) (u_cons (su_val (SE.val k_int)) (u_cons (su_val (SE.val (c_blt C (f := fMin) (by rfl) g5 b_min (a_cons (SE.read (n_g C g4 c_MOST_TRIED_LEAPS)) (a_cons (SE.read (se_bin (n_r C v0) (SE.read k_int))) .nil))))) .nil))))))
  (sb_cons (s_set C true s2 (se_lst (si_of .nil)))
  (sb_cons (s_for C S (sitF_sq (SE.val (c_def C h_picks g7 (u_cons (su_val (SE.val (se_bin (n_r C v0) (SE.read k_int)))) (u_cons (n_u C v1) .nil))))) (t_name C s3) (sb_cons (ss_if (t_cmp C (SE.read (c_def C h_pieces_of g10 (u_cons (su_val (SE.val (se_tup (si_of (v_cons (SE.val (n_e C v0)) (v_cons (SE.val (n_e C v3)) .nil)))))) .nil))) (SE.read k_int)) (sb_cons (s_app C v2 (SE.val (se_tup (si_of (v_cons (SE.val (c_blt C (f := fMax) (by rfl) g12 b_max (a_cons (SE.read (c_def C h_steps_of g11 (u_cons (su_val (SE.val (se_tup (si_of (v_cons (SE.val (n_e C v0)) (v_cons (SE.val (n_e C v3)) .nil)))))) .nil))) .nil))) (v_cons (SE.val (n_e C v3)) .nil))))))
  sb_nil) sb_nil)
  sb_nil))
  (sb_cons (s_retV C v2)
  sb_nil)))))
theorem fs_best_wide : FnScope N_best_wide ["many", "k"] sc_best_wide := ⟨rfl, rfl, rfl, by decide +kernel, rfl, by decide +kernel, by decide +kernel⟩
theorem w_best_wide {G : Gl5} {X : Cx} {T : List (Addr × Str)} {E : Ex T} (C : Cok X E G 3 N_best_wide sc_best_wide fnAll) (S : Sok X) (h_widths : DefG G 3 "widths" 2 d_widths) (b_min : BltG G "min") : SB X E (L2.defBody (topS 29)) f_best_wide := by
  have v0 : varB N_best_wide sc_best_wide 0 "many" = true := by decide +kernel
  have v1 : varB N_best_wide sc_best_wide 1 "k" = true := by decide +kernel
  have g2 : gloB sc_best_wide "widths" = true := by decide +kernel
  have g3 : gloB sc_best_wide "min" = true := by decide +kernel
  exact (sb_cons (ss_ret (e_ix C (SE.read (c_minD C g3 b_min (a_cons (SE.read (c_def C h_widths g2 (u_cons (n_u C v0) (u_cons (n_u C v1) .nil)))) .nil))) (SE.read k_int)))
  sb_nil)
theorem fs_all_best : FnScope N_all_best ["many", "k"] sc_all_best := ⟨rfl, rfl, rfl, by decide +kernel, rfl, by decide +kernel, by decide +kernel⟩
theorem w_all_best {G : Gl5} {X : Cx} {T : List (Addr × Str)} {E : Ex T} (C : Cok X E G 3 N_all_best sc_all_best fnAll) (S : Sok X) (h_widths : DefG G 3 "widths" 2 d_widths) (b_min : BltG G "min") : SB X E (L2.defBody (topS 30)) f_all_best := by
  have v0 : varB N_all_best sc_all_best 0 "many" = true := by decide +kernel
  have v1 : varB N_all_best sc_all_best 1 "k" = true := by decide +kernel
  have g2 : gloB sc_all_best "widths" = true := by decide +kernel
  have s2 : stoB N_all_best sc_all_best fnAll 2 "found" = true := by decide +kernel
  have v2 : varB N_all_best sc_all_best 2 "found" = true := by decide +kernel
  have g5 : gloB sc_all_best "min" = true := by decide +kernel
  have s3 : stoB N_all_best sc_all_best fnAll 3 "least" = true := by decide +kernel
  exact (sb_cons (s_set C false s2 (c_def C h_widths g2 (u_cons (n_u C v0) (u_cons (n_u C v1) .nil))))
  (sb_cons (s_set C false s3 (e_ix C (SE.read (c_minD C g5 b_min (a_cons (n_r C v2) .nil))) (SE.read k_int)))
  (sb_cons (ss_ret (c_lc C [("width", 4), ("leaps", 5)] (sitC_sq (n_r C v2)) (by decide +kernel) (fun _ C1 => (t_tup C1 (g_cons (t_name C1 (by decide +kernel)) (g_cons (t_name C1 (by decide +kernel)) sgs_nil)))) (fun _ C1 => (f_one (t_cmp C1 (n_r C1 (by decide +kernel)) (n_r C1 (by decide +kernel))))) (fun _ C1 => (SE.val (n_e C1 (by decide +kernel))))))
  sb_nil)))
theorem fs_best_leaps : FnScope N_best_leaps ["many", "k"] sc_best_leaps := ⟨rfl, rfl, rfl, by decide +kernel, rfl, by decide +kernel, by decide +kernel⟩
theorem w_best_leaps {G : Gl5} {X : Cx} {T : List (Addr × Str)} {E : Ex T} (C : Cok X E G 3 N_best_leaps sc_best_leaps fnAll) (S : Sok X) (h_widths : DefG G 3 "widths" 2 d_widths) (b_min : BltG G "min") : SB X E (L2.defBody (topS 31)) f_best_leaps := by
  have v0 : varB N_best_leaps sc_best_leaps 0 "many" = true := by decide +kernel
  have v1 : varB N_best_leaps sc_best_leaps 1 "k" = true := by decide +kernel
  have g2 : gloB sc_best_leaps "widths" = true := by decide +kernel
  have g3 : gloB sc_best_leaps "min" = true := by decide +kernel
  exact (sb_cons (ss_ret (e_ix C (SE.read (c_minD C g3 b_min (a_cons (SE.read (c_def C h_widths g2 (u_cons (n_u C v0) (u_cons (n_u C v1) .nil)))) .nil))) (SE.read k_int)))
  sb_nil)
theorem fs__law_cell_at : FnScope N__law_cell_at ["_law_script", "_law_k"] sc__law_cell_at := ⟨rfl, rfl, rfl, by decide +kernel, rfl, by decide +kernel, by decide +kernel⟩
theorem w__law_cell_at {G : Gl5} {X : Cx} {T : List (Addr × Str)} {E : Ex T} (C : Cok X E G 0 N__law_cell_at sc__law_cell_at fnAll) (S : Sok X) (b_len : BltG G "len") : SB X E (L2.defBody (topS 33)) f__law_cell_at := by
  have v1 : varB N__law_cell_at sc__law_cell_at 1 "_law_k" = true := by decide +kernel
  have v0 : varB N__law_cell_at sc__law_cell_at 0 "_law_script" = true := by decide +kernel
  have g2 : gloB sc__law_cell_at "len" = true := by decide +kernel
  exact (sb_cons (ss_if (t_cmp C (n_r C v1) (SE.read (c_blt C (f := fLen) (by rfl) g2 b_len (a_cons (n_r C v0) .nil)))) (sb_cons (ss_ret (e_ix C (n_r C v0) (n_r C v1)))
  sb_nil) sb_nil)
  (sb_cons (ss_ret k_int)
  sb_nil))
theorem fs__law_draw : FnScope N__law_draw ["_law_cell", "_law_k", "_law_bound"] sc__law_draw := ⟨rfl, rfl, rfl, by decide +kernel, rfl, by decide +kernel, by decide +kernel⟩
theorem w__law_draw {G : Gl5} {X : Cx} {T : List (Addr × Str)} {E : Ex T} (C : Cok X E G 0 N__law_draw sc__law_draw fnAll) (S : Sok X) (b_range : BltG G "range") : SB X E (L2.defBody (topS 34)) f__law_draw := by
  have v0 : varB N__law_draw sc__law_draw 0 "_law_cell" = true := by decide +kernel
  have s4 : stoB N__law_draw sc__law_draw fnAll 4 "_law_left" = true := by decide +kernel
  have v1 : varB N__law_draw sc__law_draw 1 "_law_k" = true := by decide +kernel
  have g3 : gloB sc__law_draw "range" = true := by decide +kernel
  have s5 : stoB N__law_draw sc__law_draw fnAll 5 "_law_j" = true := by decide +kernel
  have v4 : varB N__law_draw sc__law_draw 4 "_law_left" = true := by decide +kernel
  have v2 : varB N__law_draw sc__law_draw 2 "_law_bound" = true := by decide +kernel
  have s3 : stoB N__law_draw sc__law_draw fnAll 3 "_law_stir" = true := by decide +kernel
  have v3 : varB N__law_draw sc__law_draw 3 "_law_stir" = true := by decide +kernel
  exact (sb_cons (ss_if (t_cmp C (n_r C v0) (SE.read (se_bin (SE.read k_int) (SE.read k_int)))) (sb_cons (s_set C false s4 (n_e C v0))
  (sb_cons (s_for C S (i_rng1 C g3 b_range (n_r C v1)) (t_name C s5) (sb_cons (s_set C false s4 (se_bin (n_r C v4) (n_r C v2)))
  sb_nil))
  (sb_cons (ss_if (t_cmp C (n_r C v4) (SE.read k_int)) (sb_cons (ss_ret (se_bin (n_r C v4) (n_r C v2)))
  sb_nil) sb_nil)
  sb_nil))) sb_nil)
  (sb_cons (s_set C false s3 (se_bin (SE.read (se_bin (SE.read (se_bin (SE.read (se_bin (SE.read (se_bin (n_r C v0) (SE.read k_int))) (SE.read (se_bin (SE.read k_int) (n_r C v1))))) (SE.read k_int))) (SE.read k_int))) (SE.read k_int)))
  (sb_cons (s_set C false s3 (se_bin (SE.read (se_bin (SE.read (se_bin (SE.read (se_bin (n_r C v3) (n_r C v3))) (SE.read (se_bin (SE.read k_int) (n_r C v1))))) (SE.read k_int))) (SE.read k_int)))
  (sb_cons (ss_ret (se_bin (SE.read (se_bin (SE.read (se_bin (SE.read (se_bin (n_r C v3) (SE.read k_int))) (SE.read k_int))) (SE.read k_int))) (n_r C v2)))
  sb_nil))))
theorem fs__law_near : FnScope N__law_near ["_law_ring", "_law_place"] sc__law_near := ⟨rfl, rfl, rfl, by decide +kernel, rfl, by decide +kernel, by decide +kernel⟩
theorem w__law_near {G : Gl5} {X : Cx} {T : List (Addr × Str)} {E : Ex T} (C : Cok X E G 0 N__law_near sc__law_near fnAll) (S : Sok X) (b_sorted : BltG G "sorted") : SB X E (L2.defBody (topS 35)) f__law_near := by
  have v0 : varB N__law_near sc__law_near 0 "_law_ring" = true := by decide +kernel
  have s4 : stoB N__law_near sc__law_near fnAll 4 "_law_many" = true := by decide +kernel
  have s5 : stoB N__law_near sc__law_near fnAll 5 "_law_leaps" = true := by decide +kernel
  have s2 : stoB N__law_near sc__law_near fnAll 2 "_law_found" = true := by decide +kernel
  have v5 : varB N__law_near sc__law_near 5 "_law_leaps" = true := by decide +kernel
  have s3 : stoB N__law_near sc__law_near fnAll 3 "_law_leap" = true := by decide +kernel
  have v1 : varB N__law_near sc__law_near 1 "_law_place" = true := by decide +kernel
  have v3 : varB N__law_near sc__law_near 3 "_law_leap" = true := by decide +kernel
  have v4 : varB N__law_near sc__law_near 4 "_law_many" = true := by decide +kernel
  have v2 : varB N__law_near sc__law_near 2 "_law_found" = true := by decide +kernel
  have g10 : gloB sc__law_near "sorted" = true := by decide +kernel
  exact (sb_cons (s_asg C (SE.val (n_e C v0)) (t_tup C (g_cons (t_name C s4) (g_cons (t_name C s5) sgs_nil))))
  (sb_cons (s_set C true s2 se_dict0)
  (sb_cons (s_for C S (sitF_sq (SE.val (n_e C v5))) (t_name C s3) (sb_cons (s_sto C v2 (SE.val k_bl) (SE.read (se_bin (SE.read (se_bin (n_r C v1) (n_r C v3))) (n_r C v4))))
  (sb_cons (s_sto C v2 (SE.val k_bl) (SE.read (se_bin (SE.read (se_bin (SE.read (se_bin (n_r C v1) (n_r C v4))) (n_r C v3))) (n_r C v4))))
  sb_nil)))
  (sb_cons (ss_ret (c_sorted C g10 b_sorted (a_cons (n_r C v2) .nil)))
  sb_nil))))
theorem fs__law_steps : FnScope N__law_steps ["_law_ring", "_law_place"] sc__law_steps := ⟨rfl, rfl, rfl, by decide +kernel, rfl, by decide +kernel, by decide +kernel⟩
theorem w__law_steps {G : Gl5} {X : Cx} {T : List (Addr × Str)} {E : Ex T} (C : Cok X E G 1 N__law_steps sc__law_steps fnAll) (S : Sok X) (h__law_near : DefG G 1 "_law_near" 2 d__law_near) : SB X E (L2.defBody (topS 36)) f__law_steps := by
  have v0 : varB N__law_steps sc__law_steps 0 "_law_ring" = true := by decide +kernel
  have s2 : stoB N__law_steps sc__law_steps fnAll 2 "_law_found" = true := by decide +kernel
  have v1 : varB N__law_steps sc__law_steps 1 "_law_place" = true := by decide +kernel
  have v2 : varB N__law_steps sc__law_steps 2 "_law_found" = true := by decide +kernel
  have s3 : stoB N__law_steps sc__law_steps fnAll 3 "_law_here" = true := by decide +kernel
  have s4 : stoB N__law_steps sc__law_steps fnAll 4 "_law_step" = true := by decide +kernel
  have v3 : varB N__law_steps sc__law_steps 3 "_law_here" = true := by decide +kernel
  have v4 : varB N__law_steps sc__law_steps 4 "_law_step" = true := by decide +kernel
  have s5 : stoB N__law_steps sc__law_steps fnAll 5 "_law_later" = true := by decide +kernel
  have s6 : stoB N__law_steps sc__law_steps fnAll 6 "_law_one" = true := by decide +kernel
  have v6 : varB N__law_steps sc__law_steps 6 "_law_one" = true := by decide +kernel
  have g11 : gloB sc__law_steps "_law_near" = true := by decide +kernel
  have s7 : stoB N__law_steps sc__law_steps fnAll 7 "_law_other" = true := by decide +kernel
  have v7 : varB N__law_steps sc__law_steps 7 "_law_other" = true := by decide +kernel
  have v5 : varB N__law_steps sc__law_steps 5 "_law_later" = true := by decide +kernel
  exact (sb_cons (s_set C true s2 (se_bin (SE.read (se_lst (si_of (v_cons (SE.val k_non) .nil)))) (SE.read (e_ix C (n_r C v0) (SE.read k_int)))))
  (sb_cons (s_sto C v2 (SE.val k_int) (n_r C v1))
  (sb_cons (s_set C false s3 (se_lst (si_of (v_cons (SE.val (n_e C v1)) .nil))))
  (sb_cons (s_set C false s4 k_int)
  (sb_cons (s_while S whN (t_cmp C (n_r C v3) (SE.read (se_lst (si_of .nil)))) (sb_cons (s_set C false s4 (se_bin (n_r C v4) (SE.read k_int)))
  (sb_cons (s_set C true s5 (se_lst (si_of .nil)))
  (sb_cons (s_for C S (sitF_sq (SE.val (n_e C v3))) (t_name C s6) (sb_cons (s_for C S (sitF_sq (SE.val (c_def C h__law_near g11 (u_cons (n_u C v0) (u_cons (n_u C v6) .nil))))) (t_name C s7) (sb_cons (ss_if (t_cmp C (SE.read (e_ix C (n_r C v2) (n_r C v7))) (SE.read k_non)) (sb_cons (s_sto C v2 (SE.val (n_e C v4)) (n_r C v7))
  (sb_cons (s_app C v5 (SE.val (n_e C v7)))
  sb_nil)) sb_nil)
  sb_nil))
  sb_nil))
  (sb_cons (SS.frz (s_set C false s3 (n_e C v5)) [5])
  sb_nil)))))
  (sb_cons (s_retV C v2)
  sb_nil))))))
theorem fs__law_no_number : FnScope N__law_no_number ["_law_cell", "_law_at", "_law_least", "_law_most"] sc__law_no_number := ⟨rfl, rfl, rfl, by decide +kernel, rfl, by decide +kernel, by decide +kernel⟩
theorem w__law_no_number {G : Gl5} {X : Cx} {T : List (Addr × Str)} {E : Ex T} (C : Cok X E G 1 N__law_no_number sc__law_no_number fnAll) (S : Sok X) (h__law_draw : DefG G 1 "_law_draw" 3 d__law_draw) (b_str : BltG G "str") : SB X E (L2.defBody (topS 37)) f__law_no_number := by
  have v2 : varB N__law_no_number sc__law_no_number 2 "_law_least" = true := by decide +kernel
  have v3 : varB N__law_no_number sc__law_no_number 3 "_law_most" = true := by decide +kernel
  have g2 : gloB sc__law_no_number "str" = true := by decide +kernel
  have s4 : stoB N__law_no_number sc__law_no_number fnAll 4 "_law_some" = true := by decide +kernel
  have v4 : varB N__law_no_number sc__law_no_number 4 "_law_some" = true := by decide +kernel
  have v0 : varB N__law_no_number sc__law_no_number 0 "_law_cell" = true := by decide +kernel
  have v1 : varB N__law_no_number sc__law_no_number 1 "_law_at" = true := by decide +kernel
  have g7 : gloB sc__law_no_number "_law_draw" = true := by decide +kernel
  exact (sb_cons (s_set C false s4 (se_lst (si_of (v_cons (SE.val (se_bin (n_r C v2) (SE.read k_int))) (v_cons (SE.val (se_bin (n_r C v3) (SE.read k_int))) (v_cons (SE.val k_bl) (v_cons (SE.val k_bl) (v_cons (SE.val k_non) (v_cons (SE.val (c_blt C (f := fStr) (by rfl) g2 b_str (a_cons (n_r C v2) .nil))) (v_cons (SE.val (se_tup (si_of (v_cons (SE.val (n_e C v2)) .nil)))) (v_cons (SE.val (se_lst (si_of (v_cons (SE.val (n_e C v2)) .nil)))) (v_cons (SE.val se_dict0) (v_cons (SE.val (se_neg (SE.read (se_bin (SE.read k_int) (SE.read k_int))))) (v_cons (SE.val (se_bin (SE.read k_int) (SE.read k_int))) .nil))))))))))))))
  (sb_cons (ss_ret (e_ix C (n_r C v4) (SE.read (c_def C h__law_draw g7 (u_cons (n_u C v0) (u_cons (n_u C v1) (u_cons (su_val (SE.val k_int)) .nil)))))))
  sb_nil))
theorem fs__law_class : FnScope N__law_class ["_law_error"] sc__law_class := ⟨rfl, rfl, rfl, by decide +kernel, rfl, by decide +kernel, by decide +kernel⟩
theorem w__law_class {G : Gl5} {X : Cx} {T : List (Addr × Str)} {E : Ex T} {a D c0 c1 c2 c3 c4 c5 c6 c7 c8 c9 c10 c11 c12 c13 c14 : Addr} {b1 b2 b3 b4 b5 b6 b7 b8 b9 b10 b11 b12 b13 b14 : Bool} (C : Hok X G N__law_class sc__law_class a D) (b_isinstance : BltG G "isinstance") (b_ValueError : BltG G "ValueError") (kV : PySem.W.kitOne G.K (.ref D) (.type "ValueError") = some true) (m0 : G.mg "LeapError" = some (.ref c0)) (k0 : PySem.W.kitOne G.K (.ref D) (.ref c0) = some true) (m1 : G.mg "NoRing" = some (.ref c1)) (k1 : PySem.W.kitOne G.K (.ref D) (.ref c1) = some b1) (m2 : G.mg "NoPlace" = some (.ref c2)) (k2 : PySem.W.kitOne G.K (.ref D) (.ref c2) = some b2) (m3 : G.mg "NoNumber" = some (.ref c3)) (k3 : PySem.W.kitOne G.K (.ref D) (.ref c3) = some b3) (m4 : G.mg "NotWhole" = some (.ref c4)) (k4 : PySem.W.kitOne G.K (.ref D) (.ref c4) = some b4) (m5 : G.mg "NoWay" = some (.ref c5)) (k5 : PySem.W.kitOne G.K (.ref D) (.ref c5) = some b5) (m6 : G.mg "NoCounts" = some (.ref c6)) (k6 : PySem.W.kitOne G.K (.ref D) (.ref c6) = some b6) (m7 : G.mg "NoPaper" = some (.ref c7)) (k7 : PySem.W.kitOne G.K (.ref D) (.ref c7) = some b7) (m8 : G.mg "NoTies" = some (.ref c8)) (k8 : PySem.W.kitOne G.K (.ref D) (.ref c8) = some b8) (m9 : G.mg "NoPlaces" = some (.ref c9)) (k9 : PySem.W.kitOne G.K (.ref D) (.ref c9) = some b9) (m10 : G.mg "NotTwo" = some (.ref c10)) (k10 : PySem.W.kitOne G.K (.ref D) (.ref c10) = some b10) (m11 : G.mg "NoCell" = some (.ref c11)) (k11 : PySem.W.kitOne G.K (.ref D) (.ref c11) = some b11) (m12 : G.mg "NoText" = some (.ref c12)) (k12 : PySem.W.kitOne G.K (.ref D) (.ref c12) = some b12) (m13 : G.mg "NoDeed" = some (.ref c13)) (k13 : PySem.W.kitOne G.K (.ref D) (.ref c13) = some b13) (m14 : G.mg "NoLine" = some (.ref c14)) (k14 : PySem.W.kitOne G.K (.ref D) (.ref c14) = some b14) : SB X E (L2.defBody (topS 38)) (f__law_class a c0 c1 c2 c3 c4 c5 c6 c7 c8 c9 c10 c11 c12 c13 c14 b1 b2 b3 b4 b5 b6 b7 b8 b9 b10 b11 b12 b13 b14) := by
  have g0 : gloB sc__law_class "isinstance" = true := by decide +kernel
  have v0 : varB N__law_class sc__law_class 0 "_law_error" = true := by decide +kernel
  have g2 : gloB sc__law_class "LeapError" = true := by decide +kernel
  have g3 : gloB sc__law_class "ValueError" = true := by decide +kernel
  have g4 : gloB sc__law_class "NoRing" = true := by decide +kernel
  have g5 : gloB sc__law_class "NoPlace" = true := by decide +kernel
  have g6 : gloB sc__law_class "NoNumber" = true := by decide +kernel
  have s1 : stoB N__law_class sc__law_class fnAll 1 "_law_kinds" = true := by decide +kernel
  have v1 : varB N__law_class sc__law_class 1 "_law_kinds" = true := by decide +kernel
  have g9 : gloB sc__law_class "NotWhole" = true := by decide +kernel
  have g10 : gloB sc__law_class "NoWay" = true := by decide +kernel
  have g11 : gloB sc__law_class "NoCounts" = true := by decide +kernel
  have g12 : gloB sc__law_class "NoPaper" = true := by decide +kernel
  have g13 : gloB sc__law_class "NoTies" = true := by decide +kernel
  have g14 : gloB sc__law_class "NoPlaces" = true := by decide +kernel
  have g15 : gloB sc__law_class "NotTwo" = true := by decide +kernel
  have g16 : gloB sc__law_class "NoCell" = true := by decide +kernel
  have g17 : gloB sc__law_class "NoText" = true := by decide +kernel
  have g18 : gloB sc__law_class "NoDeed" = true := by decide +kernel
  have g19 : gloB sc__law_class "NoLine" = true := by decide +kernel
  have s2 : stoB N__law_class sc__law_class fnAll 2 "_law_words" = true := by decide +kernel
  have v2 : varB N__law_class sc__law_class 2 "_law_words" = true := by decide +kernel
  exact (sb_cons (ss_if (st_or (.cons (st_not (t_tru (SE.read (h_isC C g0 b_isinstance v0 g2 m0 k0)))) (.cons (st_not (t_tru (SE.read (h_isT C g0 b_isinstance v0 g3 b_ValueError (by decide +kernel) (by decide) kV)))) .nil)) (by simp)) (sb_cons (ss_ret k_str)
  sb_nil) sb_nil)
  (sb_cons (h_set C s1 (se_lst (si_of (v_cons (SE.val (h_isC C g0 b_isinstance v0 g4 m1 k1)) (v_cons (SE.val (h_isC C g0 b_isinstance v0 g5 m2 k2)) (v_cons (SE.val (h_isC C g0 b_isinstance v0 g6 m3 k3)) .nil))))))
  (sb_cons (h_set C s1 (se_bin (h_r C v1) (SE.read (se_lst (si_of (v_cons (SE.val (h_isC C g0 b_isinstance v0 g9 m4 k4)) (v_cons (SE.val (h_isC C g0 b_isinstance v0 g10 m5 k5)) (v_cons (SE.val (h_isC C g0 b_isinstance v0 g11 m6 k6)) .nil))))))))
  (sb_cons (h_set C s1 (se_bin (h_r C v1) (SE.read (se_lst (si_of (v_cons (SE.val (h_isC C g0 b_isinstance v0 g12 m7 k7)) (v_cons (SE.val (h_isC C g0 b_isinstance v0 g13 m8 k8)) (v_cons (SE.val (h_isC C g0 b_isinstance v0 g14 m9 k9)) .nil))))))))
  (sb_cons (h_set C s1 (se_bin (h_r C v1) (SE.read (se_lst (si_of (v_cons (SE.val (h_isC C g0 b_isinstance v0 g15 m10 k10)) (v_cons (SE.val (h_isC C g0 b_isinstance v0 g16 m11 k11)) (v_cons (SE.val (h_isC C g0 b_isinstance v0 g17 m12 k12)) .nil))))))))
  (sb_cons (h_set C s1 (se_bin (h_r C v1) (SE.read (se_lst (si_of (v_cons (SE.val (h_isC C g0 b_isinstance v0 g18 m13 k13)) (v_cons (SE.val (h_isC C g0 b_isinstance v0 g19 m14 k14)) .nil)))))))
  (sb_cons (ss_if (h_cmpT C (SE.read (h_count C (h_r C v1) (SE.read k_bl))) (SE.read k_int)) (sb_cons (ss_ret k_str)
  sb_nil) sb_nil)
  (sb_cons (h_set C s2 (se_lst (si_of (v_cons (SE.val k_str) (v_cons (SE.val k_str) (v_cons (SE.val k_str) (v_cons (SE.val k_str) (v_cons (SE.val k_str) (v_cons (SE.val k_str) (v_cons (SE.val k_str) (v_cons (SE.val k_str) (v_cons (SE.val k_str) (v_cons (SE.val k_str) .nil)))))))))))))
  (sb_cons (ss_ret (h_ix C (SE.read (se_bin (h_r C v2) (SE.read (se_lst (si_of (v_cons (SE.val k_str) (v_cons (SE.val k_str) (v_cons (SE.val k_str) (v_cons (SE.val k_str) .nil))))))))) (SE.read (h_index C (h_r C v1) (SE.read k_bl)))))
  sb_nil)))))))))
theorem v_NoNumber (a c0 c1 c2 c3 c4 c5 c6 c7 c8 c9 c10 c11 c12 c13 c14 : Addr) : defF 2 (f__law_class a c0 c1 c2 c3 c4 c5 c6 c7 c8 c9 c10 c11 c12 c13 c14 false false true false false false false false false false false false false false) [.val (.ref a)] = .ok (.v (.str "number")) := by
  (simp [defF, f__law_class, sSeq, sNext, sIf, sSet, setO, isSetD, sRet, sRetV, tOrF, tNotF, tTru, eCall, seqR, rVar, rd, vl, eC, eLst, O.d, O.val, O.canVal, fIsE_ref, fIsE_ty, bO, truD, e2, dBin, dAdd, line, isB, dCmp, eMt]; try rfl)
theorem fs__law_refused : FnScope N__law_refused ["_law_call"] sc__law_refused := ⟨rfl, rfl, rfl, by decide +kernel, rfl, by decide +kernel, by decide +kernel⟩
theorem fs__law_all : FnScope N__law_all ["_law_most", "_law_k", "_law_least"] sc__law_all := ⟨rfl, rfl, rfl, by decide +kernel, rfl, by decide +kernel, by decide +kernel⟩
theorem w__law_all {G : Gl5} {X : Cx} {T : List (Addr × Str)} {E : Ex T} {kr : Nat} {dr : List Sl → R O} (C : Cok X E G kr N__law_all sc__law_all fnAll) (S : Sok X) (h_rec : DefG G kr "_law_all" 3 dr) (b_range : BltG G "range") : SB X E (L2.defBody (topS 40)) (f__law_all dr) := by
  have v1 : varB N__law_all sc__law_all 1 "_law_k" = true := by decide +kernel
  have s3 : stoB N__law_all sc__law_all fnAll 3 "_law_found" = true := by decide +kernel
  have v2 : varB N__law_all sc__law_all 2 "_law_least" = true := by decide +kernel
  have v0 : varB N__law_all sc__law_all 0 "_law_most" = true := by decide +kernel
  have g4 : gloB sc__law_all "range" = true := by decide +kernel
  have s4 : stoB N__law_all sc__law_all fnAll 4 "_law_one" = true := by decide +kernel
  have v4 : varB N__law_all sc__law_all 4 "_law_one" = true := by decide +kernel
  have g7 : gloB sc__law_all "_law_all" = true := by decide +kernel
  have v3 : varB N__law_all sc__law_all 3 "_law_found" = true := by decide +kernel
  exact (sb_cons (ss_if (t_cmp C (n_r C v1) (SE.read k_int)) (sb_cons (ss_ret (se_lst (si_of (v_cons (SE.val (se_tup (si_of .nil))) .nil))))
  sb_nil) sb_nil)
  (sb_cons (s_set C true s3 (se_lst (si_of .nil)))
  (sb_cons (s_for C S (i_rng2 C g4 b_range (n_r C v2) (SE.read (se_bin (n_r C v0) (SE.read k_int)))) (t_name C s4) (sb_cons (s_ext C v3 (SE.read (c_lc C [("_law_some", 5)] (sitC_sq (SE.read (c_def C h_rec g7 (u_cons (n_u C v0) (u_cons (su_val (SE.val (se_bin (n_r C v1) (SE.read k_int)))) (u_cons (su_val (SE.val (se_bin (n_r C v4) (SE.read k_int)))) .nil))) (Nat.le_refl _)))) (by decide +kernel) (fun _ C1 => (t_name C1 (by decide +kernel))) (fun _ C1 => f_none) (fun _ C1 => (SE.val (se_bin (SE.read (se_tup (si_of (v_cons (SE.val (n_e C1 (by decide +kernel))) .nil)))) (n_r C1 (by decide +kernel))))))))
  sb_nil))
  (sb_cons (s_retV C v3)
  sb_nil))))
theorem fs_law : FnScope N_law ["_law_script"] sc_law := ⟨rfl, rfl, rfl, by decide +kernel, rfl, by decide +kernel, by decide +kernel⟩
theorem w_law {G : Gl5} {X : Cx} {T : List (Addr × Str)} {E : Ex T} (C : Cok X E G 6 N_law sc_law fnAll) (S : Sok X) {v_all_best v_best_wide v_best_leaps : Addr} {c P : Addr} (Lk : Lok X T c P) (h__law_refused : RefG G 1 "_law_refused" "_law_call" "_law_word" "_law_error" "LeapError" "_law_class" (topS 39) word) (h__law_cell_at : DefG G 1 "_law_cell_at" 2 d__law_cell_at) (h__law_draw : DefG G 1 "_law_draw" 3 d__law_draw) (h__law_all : DefG G 5 "_law_all" 3 d__law_all) (h__law_steps : DefG G 2 "_law_steps" 2 d__law_steps) (h_all_best : DefG G 4 "all_best" 2 d_all_best) (h_best_wide : DefG G 4 "best_wide" 2 d_best_wide) (h_best_leaps : DefG G 4 "best_leaps" 2 d_best_leaps) (h__law_no_number : DefG G 2 "_law_no_number" 4 d__law_no_number) (b_all : BltG G "all") (b_bool : BltG G "bool") (b_isinstance : BltG G "isinstance") (b_len : BltG G "len") (b_list : BltG G "list") (b_max : BltG G "max") (b_min : BltG G "min") (b_range : BltG G "range") (b_tuple : BltG G "tuple") (cst_all_best : CstG G "all_best" (.ref v_all_best)) (cst_best_wide : CstG G "best_wide" (.ref v_best_wide)) (cst_best_leaps : CstG G "best_leaps" (.ref v_best_leaps)) (FT_2 : FunT G 4 [(v_all_best, d_all_best), (v_best_wide, d_best_wide), (v_best_leaps, d_best_leaps)] 2) : SB X E (L2.defBody (topS 41)) (f_law v_all_best v_best_wide v_best_leaps) := by
  have v0 : varB N_law sc_law 0 "_law_script" = true := by decide +kernel
  have g1 : gloB sc_law "len" = true := by decide +kernel
  have g2 : gloB sc_law "min" = true := by decide +kernel
  have g3 : gloB sc_law "max" = true := by decide +kernel
  have g4 : gloB sc_law "range" = true := by decide +kernel
  have s1 : stoB N_law sc_law fnAll 1 "_law_j" = true := by decide +kernel
  have v1 : varB N_law sc_law 1 "_law_j" = true := by decide +kernel
  have g7 : gloB sc_law "_law_cell_at" = true := by decide +kernel
  have s2 : stoB N_law sc_law fnAll 2 "_law_cell" = true := by decide +kernel
  have v2 : varB N_law sc_law 2 "_law_cell" = true := by decide +kernel
  have g10 : gloB sc_law "_law_draw" = true := by decide +kernel
  have s3 : stoB N_law sc_law fnAll 3 "_law_many" = true := by decide +kernel
  have v3 : varB N_law sc_law 3 "_law_many" = true := by decide +kernel
  have s4 : stoB N_law sc_law fnAll 4 "_law_k" = true := by decide +kernel
  have s5 : stoB N_law sc_law fnAll 5 "_law_known" = true := by decide +kernel
  have v4 : varB N_law sc_law 4 "_law_k" = true := by decide +kernel
  have g16 : gloB sc_law "_law_all" = true := by decide +kernel
  have s6 : stoB N_law sc_law fnAll 6 "_law_leaps" = true := by decide +kernel
  have v6 : varB N_law sc_law 6 "_law_leaps" = true := by decide +kernel
  have g19 : gloB sc_law "_law_steps" = true := by decide +kernel
  have s13 : stoB N_law sc_law fnAll 13 "_law_steps_here" = true := by decide +kernel
  have v13 : varB N_law sc_law 13 "_law_steps_here" = true := by decide +kernel
  have v5 : varB N_law sc_law 5 "_law_known" = true := by decide +kernel
  have s7 : stoB N_law sc_law fnAll 7 "_law_least" = true := by decide +kernel
  have s8 : stoB N_law sc_law fnAll 8 "_law_due" = true := by decide +kernel
  have s9 : stoB N_law sc_law fnAll 9 "_law_turn" = true := by decide +kernel
  have g26 : gloB sc_law "all_best" = true := by decide +kernel
  have s14 : stoB N_law sc_law fnAll 14 "_law_found" = true := by decide +kernel
  have v14 : varB N_law sc_law 14 "_law_found" = true := by decide +kernel
  have g29 : gloB sc_law "list" = true := by decide +kernel
  have g30 : gloB sc_law "isinstance" = true := by decide +kernel
  have v8 : varB N_law sc_law 8 "_law_due" = true := by decide +kernel
  have g32 : gloB sc_law "all" = true := by decide +kernel
  have g33 : gloB sc_law "best_wide" = true := by decide +kernel
  have v7 : varB N_law sc_law 7 "_law_least" = true := by decide +kernel
  have g35 : gloB sc_law "bool" = true := by decide +kernel
  have g36 : gloB sc_law "best_leaps" = true := by decide +kernel
  have g37 : gloB sc_law "_law_no_number" = true := by decide +kernel
  have s10 : stoB N_law sc_law fnAll 10 "_law_bad" = true := by decide +kernel
  have s11 : stoB N_law sc_law fnAll 11 "_law_worse" = true := by decide +kernel
  have s12 : stoB N_law sc_law fnAll 12 "_law_call" = true := by decide +kernel
  have g41 : gloB sc_law "_law_refused" = true := by decide +kernel
  exact (sb_cons (s_for C S (i_rng1 C g4 b_range (SE.read (c_blt C (f := fMax) (by rfl) g3 b_max (a_cons (SE.read k_int) (a_cons (SE.read (c_blt C (f := fMin) (by rfl) g2 b_min (a_cons (SE.read (c_blt C (f := fLen) (by rfl) g1 b_len (a_cons (n_r C v0) .nil))) (a_cons (SE.read k_int) .nil)))) .nil))))) (t_name C s1) (sb_cons (s_set C false s2 (c_def C h__law_cell_at g7 (u_cons (n_u C v0) (u_cons (n_u C v1) .nil))))
  (sb_cons (s_set C false s3 (se_bin (SE.read k_int) (SE.read (c_def C h__law_draw g10 (u_cons (n_u C v2) (u_cons (su_val (SE.val k_int)) (u_cons (su_val (SE.val (e_ix C (SE.read (se_lst (si_of (v_cons (SE.val k_int) (v_cons (SE.val k_int) (v_cons (SE.val k_int) (v_cons (SE.val k_int) .nil))))))) (SE.read (c_def C h__law_draw g10 (u_cons (n_u C v2) (u_cons (su_val (SE.val k_int)) (u_cons (su_val (SE.val k_int)) .nil)))))))) .nil)))))))
  (sb_cons (s_set C false s4 (se_bin (SE.read k_int) (SE.read (c_def C h__law_draw g10 (u_cons (n_u C v2) (u_cons (su_val (SE.val k_int)) (u_cons (su_val (SE.val (c_blt C (f := fMin) (by rfl) g2 b_min (a_cons (SE.read k_int) (a_cons (SE.read (se_bin (n_r C v3) (SE.read k_int))) .nil))))) .nil)))))))
  (sb_cons (s_set C true s5 (se_lst (si_of .nil)))
  (sb_cons (s_for C S (sitF_sq (SE.val (c_def C h__law_all g16 (u_cons (su_val (SE.val (se_bin (n_r C v3) (SE.read k_int)))) (u_cons (n_u C v4) (u_cons (su_val (SE.val k_int)) .nil)))))) (t_name C s6) (sb_cons (s_set C false s13 (c_def C h__law_steps g19 (u_cons (su_val (SE.val (se_tup (si_of (v_cons (SE.val (n_e C v3)) (v_cons (SE.val (n_e C v6)) .nil)))))) (u_cons (su_val (SE.val k_int)) .nil))))
  (sb_cons (ss_if (t_cmp C (SE.read k_non) (n_r C v13)) (sb_cons (s_app C v5 (SE.val (se_tup (si_of (v_cons (SE.val (c_blt C (f := fMax) (by rfl) g3 b_max (a_cons (n_r C v13) .nil))) (v_cons (SE.val (n_e C v6)) .nil))))))
  sb_nil) sb_nil)
  sb_nil)))
  (sb_cons (s_set C false s7 (e_ix C (SE.read (c_minD C g2 b_min (a_cons (n_r C v5) .nil))) (SE.read k_int)))
  (sb_cons (s_setLc C false [("_law_width", 15), ("_law_leaps", 6)] s8 (by decide +kernel) (sitC_sq (n_r C v5)) (by decide +kernel) (fun _ C1 => (t_tup C1 (g_cons (t_name C1 (by decide +kernel)) (g_cons (t_name C1 (by decide +kernel)) sgs_nil)))) (fun _ C1 => (f_one (t_cmp C1 (n_r C1 (by decide +kernel)) (n_r C1 (by decide +kernel))))) (fun _ C1 => (SE.val (n_e C1 (by decide +kernel)))))
  (sb_cons (s_for C S (i_rng1 C g4 b_range (SE.read k_int)) (t_name C s9) (sb_cons (s_set C true s14 (c_def C h_all_best g26 (u_cons (n_u C v3) (u_cons (n_u C v4) .nil))))
  (sb_cons (ss_if (st_or (.cons (st_not (t_tru (SE.read (c_blt C (f := fIsi) (by rfl) g30 b_isinstance (a_cons (n_r C v14) (a_cons (SE.read (n_t C g29 b_list (by decide +kernel) (by decide))) .nil)))))) (.cons (t_cmp C (n_r C v14) (n_r C v8)) (.cons (st_not (t_tru (SE.read (c_blt C (f := fAll) (by rfl) g32 b_all (a_cons (SE.read (c_lc C [("_law_one", 16)] (sitC_sq (n_r C v14)) (by decide +kernel) (fun _ C2 => (t_name C2 (by decide +kernel))) (fun _ C2 => f_none) (fun _ C2 => (SE.val (c_blt C2 (f := fIsi) (by rfl) (by decide +kernel) b_isinstance (a_cons (n_r C2 (by decide +kernel)) (a_cons (SE.read (n_t C2 (by decide +kernel) b_tuple (by decide +kernel) (by decide))) .nil))))))) .nil))))) .nil))) (by simp)) (sb_cons (ss_ret k_bl)
  sb_nil) sb_nil)
  (sb_cons (s_app C v14 (SE.val (se_tup (si_of .nil))))
  sb_nil))))
  (sb_cons (ss_if (st_or (.cons (t_cmp C (SE.read (c_def C h_best_wide g33 (u_cons (n_u C v3) (u_cons (n_u C v4) .nil)))) (n_r C v7)) (.cons (t_tru (SE.read (c_blt C (f := fIsi) (by rfl) g30 b_isinstance (a_cons (SE.read (c_def C h_best_wide g33 (u_cons (n_u C v3) (u_cons (n_u C v4) .nil)))) (a_cons (SE.read (n_t C g35 b_bool (by decide +kernel) (by decide))) .nil))))) (.cons (t_cmp C (SE.read (c_def C h_best_leaps g36 (u_cons (n_u C v3) (u_cons (n_u C v4) .nil)))) (SE.read (e_ix C (n_r C v8) (SE.read k_int)))) .nil))) (by simp)) (sb_cons (ss_ret k_bl)
  sb_nil) sb_nil)
  (sb_cons (s_set C false s10 (c_def C h__law_no_number g37 (u_cons (n_u C v2) (u_cons (su_val (SE.val k_int)) (u_cons (su_val (SE.val k_int)) (u_cons (su_val (SE.val k_int)) .nil))))))
  (sb_cons (s_set C false s11 (c_def C h__law_no_number g37 (u_cons (n_u C v2) (u_cons (su_val (SE.val k_int)) (u_cons (su_val (SE.val k_int)) (u_cons (su_val (SE.val (c_blt C (f := fMin) (by rfl) g2 b_min (a_cons (SE.read k_int) (a_cons (SE.read (se_bin (n_r C v3) (SE.read k_int))) .nil))))) .nil))))))
  (sb_cons (s_for C S (sitF_sq (SE.val (se_lst (si_of (v_cons (SE.val (n_g C g26 cst_all_best)) (v_cons (SE.val (n_g C g33 cst_best_wide)) (v_cons (SE.val (n_g C g36 cst_best_leaps)) .nil))))))) (t_name C s12) (sb_cons (ss_if (t_cmp C (SE.read (se_ref C Lk h__law_refused g41 (by decide +kernel) (by decide) rfl (fun _ _ _ _ _ => rfl) (fun _ _ C3 => (c_var C3 FT_2 (by decide +kernel) (u_cons (n_u C3 (by decide +kernel)) (u_cons (su_val (SE.val k_int)) .nil)))))) (SE.read k_str)) (sb_cons (ss_ret k_bl)
  sb_nil) sb_nil)
  (sb_cons (ss_if (t_cmp C (SE.read (se_ref C Lk h__law_refused g41 (by decide +kernel) (by decide) rfl (fun _ _ _ _ _ => rfl) (fun _ _ C4 => (c_var C4 FT_2 (by decide +kernel) (u_cons (n_u C4 (by decide +kernel)) (u_cons (n_u C4 (by decide +kernel)) .nil)))))) (SE.read k_str)) (sb_cons (ss_ret k_bl)
  sb_nil) sb_nil)
  sb_nil)))
  sb_nil)))))))))))))
  (sb_cons (ss_ret (se_and _ (.cons (e_cmp C (SE.read (c_def C h_all_best g26 (u_cons (su_val (SE.val k_int)) (u_cons (su_val (SE.val k_int)) .nil)))) (SE.read (se_lst (si_of (v_cons (SE.val (se_tup (si_of (v_cons (SE.val k_int) .nil)))) (v_cons (SE.val (se_tup (si_of (v_cons (SE.val k_int) .nil)))) .nil)))))) (.cons (e_cmp C (SE.read (c_def C h_best_wide g33 (u_cons (su_val (SE.val k_int)) (u_cons (su_val (SE.val k_int)) .nil)))) (SE.read k_int)) (.cons (e_cmp C (SE.read (c_def C h_best_leaps g36 (u_cons (su_val (SE.val k_int)) (u_cons (su_val (SE.val k_int)) .nil)))) (SE.read (se_tup (si_of (v_cons (SE.val k_int) .nil))))) .nil))) (by simp)))
  sb_nil))
/-! ## together -/
theorem all_mk {l : PySem.W.OpenLaw} {w : World} {K : PySem.W.Frag} {h : Heap} {mg : Str → Option Value} {fa : Addr} (X : K.In h) (Gn : h.Ns mainGlobals mg) (hfa : mg "law" = some (.ref fa)) (own : LamX.OwnTab K fa h)
    (good : ∀ (v_all_best v_best_wide v_best_leaps : Addr) (ns : List Int), ns.length ≤ 63 → d_law v_all_best v_best_wide v_best_leaps [.val (.scr ns)] = .ok (.v (.bl true)))
    {f0 : Addr} {od0 an0 : Option Addr} {sl0 : Array (Option Value)} {oc0 kV0 dc0 pm0 ct0 : Value} {cd0 : Value}
    {f1 : Addr} {od1 an1 : Option Addr} {sl1 : Array (Option Value)} {oc1 kV1 dc1 pm1 ct1 : Value} {cd1 : Value}
    {f2 : Addr} {od2 an2 : Option Addr} {sl2 : Array (Option Value)} {oc2 kV2 dc2 pm2 ct2 : Value} {cd2 : Value}
    {f3 : Addr} {od3 an3 : Option Addr} {sl3 : Array (Option Value)} {oc3 kV3 dc3 pm3 ct3 : Value} {cd3 : Value}
    {f4 : Addr} {od4 an4 : Option Addr} {sl4 : Array (Option Value)} {oc4 kV4 dc4 pm4 ct4 : Value} {cd4 : Value}
    {f5 : Addr} {od5 an5 : Option Addr} {sl5 : Array (Option Value)} {oc5 kV5 dc5 pm5 ct5 : Value} {cd5 : Value}
    {f6 : Addr} {od6 an6 : Option Addr} {sl6 : Array (Option Value)} {oc6 kV6 dc6 pm6 ct6 : Value} {cd6 : Value}
    {f7 : Addr} {od7 an7 : Option Addr} {sl7 : Array (Option Value)} {oc7 kV7 dc7 pm7 ct7 : Value} {cd7 : Value}
    {f8 : Addr} {od8 an8 : Option Addr} {sl8 : Array (Option Value)} {oc8 kV8 dc8 pm8 ct8 : Value} {cd8 : Value}
    {f9 : Addr} {od9 an9 : Option Addr} {sl9 : Array (Option Value)} {oc9 kV9 dc9 pm9 ct9 : Value} {cd9 : Value}
    {f10 : Addr} {od10 an10 : Option Addr} {sl10 : Array (Option Value)} {oc10 kV10 dc10 pm10 ct10 : Value} {cd10 : Value}
    {f11 : Addr} {od11 an11 : Option Addr} {sl11 : Array (Option Value)} {oc11 kV11 dc11 pm11 ct11 : Value} {cd11 : Value}
    {f12 : Addr} {od12 an12 : Option Addr} {sl12 : Array (Option Value)} {oc12 kV12 dc12 pm12 ct12 : Value} {cd12 : Value}
    {f13 : Addr} {od13 an13 : Option Addr} {sl13 : Array (Option Value)} {oc13 kV13 dc13 pm13 ct13 : Value} {cd13 : Value}
    {f14 : Addr} {od14 an14 : Option Addr} {sl14 : Array (Option Value)} {oc14 kV14 dc14 pm14 ct14 : Value} {cd14 : Value}
    {f15 : Addr} {od15 an15 : Option Addr} {sl15 : Array (Option Value)} {oc15 kV15 dc15 pm15 ct15 : Value} {cd15 : Value}
    {f16 : Addr} {od16 an16 : Option Addr} {sl16 : Array (Option Value)} {oc16 kV16 dc16 pm16 ct16 : Value} {cd16 : Value}
    {f17 : Addr} {od17 an17 : Option Addr} {sl17 : Array (Option Value)} {oc17 kV17 dc17 pm17 ct17 : Value} {cd17 : Value}
    {f18 : Addr} {od18 an18 : Option Addr} {sl18 : Array (Option Value)} {oc18 kV18 dc18 pm18 ct18 : Value} {cd18 : Value}
    {f19 : Addr} {od19 an19 : Option Addr} {sl19 : Array (Option Value)} {oc19 kV19 dc19 pm19 ct19 : Value} {cL PL : Addr} {eL : Value} {ddL : Option Addr} {vsL : Array Value} {slL : Array (Option Value)}
    {t_MOST_TRIED : Tok}
    {t_MOST_TRIED_LEAPS : Tok}
    {C_LeapError : Addr}
    {C_NoRing : Addr}
    {C_NoPlace : Addr}
    {C_NoNumber : Addr}
    {C_NotWhole : Addr}
    {C_NoWay : Addr}
    {C_NoCounts : Addr}
    {C_NoPaper : Addr}
    {C_NoTies : Addr}
    {C_NoPlaces : Addr}
    {C_NotTwo : Addr}
    {C_NoCell : Addr}
    {C_NoText : Addr}
    {C_NoDeed : Addr}
    {C_NoLine : Addr}
    {bm_NoNumber : List Value}
    (a0 : PySem.W.nsIn K mainGlobals "is_number" = some (some (.ref f0)))
    (l0 : K.lookup f0 = some ⟨oc0, od0, .func (PySem.W.fnOf "is_number" "is_number" (L2.defArgs (topS 17)) (L2.defBody (topS 17)) (L2.defScope (topS 17)) .none kV0 dc0 pm0 an0 cd0 ct0), sl0⟩)
    (c0 : PySem.W.codeIn K cd0 "is_number" = true)
    (k0 : PySem.W.keepIn K (.ref f0) = true)
    (a1 : PySem.W.nsIn K mainGlobals "need_number" = some (some (.ref f1)))
    (l1 : K.lookup f1 = some ⟨oc1, od1, .func (PySem.W.fnOf "need_number" "need_number" (L2.defArgs (topS 18)) (L2.defBody (topS 18)) (L2.defScope (topS 18)) .none kV1 dc1 pm1 an1 cd1 ct1), sl1⟩)
    (c1 : PySem.W.codeIn K cd1 "need_number" = true)
    (k1 : PySem.W.keepIn K (.ref f1) = true)
    (a2 : PySem.W.nsIn K mainGlobals "beside" = some (some (.ref f2)))
    (l2 : K.lookup f2 = some ⟨oc2, od2, .func (PySem.W.fnOf "beside" "beside" (L2.defArgs (topS 19)) (L2.defBody (topS 19)) (L2.defScope (topS 19)) .none kV2 dc2 pm2 an2 cd2 ct2), sl2⟩)
    (c2 : PySem.W.codeIn K cd2 "beside" = true)
    (k2 : PySem.W.keepIn K (.ref f2) = true)
    (a3 : PySem.W.nsIn K mainGlobals "common" = some (some (.ref f3)))
    (l3 : K.lookup f3 = some ⟨oc3, od3, .func (PySem.W.fnOf "common" "common" (L2.defArgs (topS 20)) (L2.defBody (topS 20)) (L2.defScope (topS 20)) .none kV3 dc3 pm3 an3 cd3 ct3), sl3⟩)
    (c3 : PySem.W.codeIn K cd3 "common" = true)
    (k3 : PySem.W.keepIn K (.ref f3) = true)
    (a4 : PySem.W.nsIn K mainGlobals "pieces_of" = some (some (.ref f4)))
    (l4 : K.lookup f4 = some ⟨oc4, od4, .func (PySem.W.fnOf "pieces_of" "pieces_of" (L2.defArgs (topS 21)) (L2.defBody (topS 21)) (L2.defScope (topS 21)) .none kV4 dc4 pm4 an4 cd4 ct4), sl4⟩)
    (c4 : PySem.W.codeIn K cd4 "pieces_of" = true)
    (k4 : PySem.W.keepIn K (.ref f4) = true)
    (a5 : PySem.W.nsIn K mainGlobals "steps_of" = some (some (.ref f5)))
    (l5 : K.lookup f5 = some ⟨oc5, od5, .func (PySem.W.fnOf "steps_of" "steps_of" (L2.defArgs (topS 23)) (L2.defBody (topS 23)) (L2.defScope (topS 23)) .none kV5 dc5 pm5 an5 cd5 ct5), sl5⟩)
    (c5 : PySem.W.codeIn K cd5 "steps_of" = true)
    (k5 : PySem.W.keepIn K (.ref f5) = true)
    (a6 : PySem.W.nsIn K mainGlobals "picks" = some (some (.ref f6)))
    (l6 : K.lookup f6 = some ⟨oc6, od6, .func (PySem.W.fnOf "picks" "picks" (L2.defArgs (topS 27)) (L2.defBody (topS 27)) (L2.defScope (topS 27)) .none kV6 dc6 pm6 an6 cd6 ct6), sl6⟩)
    (c6 : PySem.W.codeIn K cd6 "picks" = true)
    (k6 : PySem.W.keepIn K (.ref f6) = true)
    (a7 : PySem.W.nsIn K mainGlobals "widths" = some (some (.ref f7)))
    (l7 : K.lookup f7 = some ⟨oc7, od7, .func (PySem.W.fnOf "widths" "widths" (L2.defArgs (topS 28)) (L2.defBody (topS 28)) (L2.defScope (topS 28)) .none kV7 dc7 pm7 an7 cd7 ct7), sl7⟩)
    (c7 : PySem.W.codeIn K cd7 "widths" = true)
    (k7 : PySem.W.keepIn K (.ref f7) = true)
    (a8 : PySem.W.nsIn K mainGlobals "best_wide" = some (some (.ref f8)))
    (l8 : K.lookup f8 = some ⟨oc8, od8, .func (PySem.W.fnOf "best_wide" "best_wide" (L2.defArgs (topS 29)) (L2.defBody (topS 29)) (L2.defScope (topS 29)) .none kV8 dc8 pm8 an8 cd8 ct8), sl8⟩)
    (c8 : PySem.W.codeIn K cd8 "best_wide" = true)
    (k8 : PySem.W.keepIn K (.ref f8) = true)
    (a9 : PySem.W.nsIn K mainGlobals "all_best" = some (some (.ref f9)))
    (l9 : K.lookup f9 = some ⟨oc9, od9, .func (PySem.W.fnOf "all_best" "all_best" (L2.defArgs (topS 30)) (L2.defBody (topS 30)) (L2.defScope (topS 30)) .none kV9 dc9 pm9 an9 cd9 ct9), sl9⟩)
    (c9 : PySem.W.codeIn K cd9 "all_best" = true)
    (k9 : PySem.W.keepIn K (.ref f9) = true)
    (a10 : PySem.W.nsIn K mainGlobals "best_leaps" = some (some (.ref f10)))
    (l10 : K.lookup f10 = some ⟨oc10, od10, .func (PySem.W.fnOf "best_leaps" "best_leaps" (L2.defArgs (topS 31)) (L2.defBody (topS 31)) (L2.defScope (topS 31)) .none kV10 dc10 pm10 an10 cd10 ct10), sl10⟩)
    (c10 : PySem.W.codeIn K cd10 "best_leaps" = true)
    (k10 : PySem.W.keepIn K (.ref f10) = true)
    (a11 : PySem.W.nsIn K mainGlobals "_law_cell_at" = some (some (.ref f11)))
    (l11 : K.lookup f11 = some ⟨oc11, od11, .func (PySem.W.fnOf "_law_cell_at" "_law_cell_at" (L2.defArgs (topS 33)) (L2.defBody (topS 33)) (L2.defScope (topS 33)) .none kV11 dc11 pm11 an11 cd11 ct11), sl11⟩)
    (c11 : PySem.W.codeIn K cd11 "_law_cell_at" = true)
    (k11 : PySem.W.keepIn K (.ref f11) = true)
    (a12 : PySem.W.nsIn K mainGlobals "_law_draw" = some (some (.ref f12)))
    (l12 : K.lookup f12 = some ⟨oc12, od12, .func (PySem.W.fnOf "_law_draw" "_law_draw" (L2.defArgs (topS 34)) (L2.defBody (topS 34)) (L2.defScope (topS 34)) .none kV12 dc12 pm12 an12 cd12 ct12), sl12⟩)
    (c12 : PySem.W.codeIn K cd12 "_law_draw" = true)
    (k12 : PySem.W.keepIn K (.ref f12) = true)
    (a13 : PySem.W.nsIn K mainGlobals "_law_near" = some (some (.ref f13)))
    (l13 : K.lookup f13 = some ⟨oc13, od13, .func (PySem.W.fnOf "_law_near" "_law_near" (L2.defArgs (topS 35)) (L2.defBody (topS 35)) (L2.defScope (topS 35)) .none kV13 dc13 pm13 an13 cd13 ct13), sl13⟩)
    (c13 : PySem.W.codeIn K cd13 "_law_near" = true)
    (k13 : PySem.W.keepIn K (.ref f13) = true)
    (a14 : PySem.W.nsIn K mainGlobals "_law_steps" = some (some (.ref f14)))
    (l14 : K.lookup f14 = some ⟨oc14, od14, .func (PySem.W.fnOf "_law_steps" "_law_steps" (L2.defArgs (topS 36)) (L2.defBody (topS 36)) (L2.defScope (topS 36)) .none kV14 dc14 pm14 an14 cd14 ct14), sl14⟩)
    (c14 : PySem.W.codeIn K cd14 "_law_steps" = true)
    (k14 : PySem.W.keepIn K (.ref f14) = true)
    (a15 : PySem.W.nsIn K mainGlobals "_law_no_number" = some (some (.ref f15)))
    (l15 : K.lookup f15 = some ⟨oc15, od15, .func (PySem.W.fnOf "_law_no_number" "_law_no_number" (L2.defArgs (topS 37)) (L2.defBody (topS 37)) (L2.defScope (topS 37)) .none kV15 dc15 pm15 an15 cd15 ct15), sl15⟩)
    (c15 : PySem.W.codeIn K cd15 "_law_no_number" = true)
    (k15 : PySem.W.keepIn K (.ref f15) = true)
    (a16 : PySem.W.nsIn K mainGlobals "_law_class" = some (some (.ref f16)))
    (l16 : K.lookup f16 = some ⟨oc16, od16, .func (PySem.W.fnOf "_law_class" "_law_class" (L2.defArgs (topS 38)) (L2.defBody (topS 38)) (L2.defScope (topS 38)) .none kV16 dc16 pm16 an16 cd16 ct16), sl16⟩)
    (c16 : PySem.W.codeIn K cd16 "_law_class" = true)
    (k16 : PySem.W.keepIn K (.ref f16) = true)
    (a17 : PySem.W.nsIn K mainGlobals "_law_refused" = some (some (.ref f17)))
    (l17 : K.lookup f17 = some ⟨oc17, od17, .func (PySem.W.fnOf "_law_refused" "_law_refused" (L2.defArgs (topS 39)) (L2.defBody (topS 39)) (L2.defScope (topS 39)) .none kV17 dc17 pm17 an17 cd17 ct17), sl17⟩)
    (c17 : PySem.W.codeIn K cd17 "_law_refused" = true)
    (k17 : PySem.W.keepIn K (.ref f17) = true)
    (a18 : PySem.W.nsIn K mainGlobals "_law_all" = some (some (.ref f18)))
    (l18 : K.lookup f18 = some ⟨oc18, od18, .func (PySem.W.fnOf "_law_all" "_law_all" (L2.defArgs (topS 40)) (L2.defBody (topS 40)) (L2.defScope (topS 40)) .none kV18 dc18 pm18 an18 cd18 ct18), sl18⟩)
    (c18 : PySem.W.codeIn K cd18 "_law_all" = true)
    (k18 : PySem.W.keepIn K (.ref f18) = true)
    (a19 : PySem.W.nsIn K mainGlobals "law" = some (some (.ref f19)))
    (l19 : K.lookup f19 = some ⟨oc19, od19, .func (PySem.W.fnOf "law" "law" (L2.defArgs (topS 41)) (L2.defBody (topS 41)) (L2.defScope (topS 41)) .none kV19 dc19 pm19 an19 (.ref cL) ct19), sl19⟩)
    (c19 : PySem.W.codeIn K (.ref cL) "law" = true)
    (k19 : PySem.W.keepIn K (.ref f19) = true)
    (lc : K.lookup cL = some ⟨eL, ddL, .fields vsL, slL⟩)
    (v11 : vsL[11]? = some (.ref PL))
    (hd : PySem.W.codeHdIn K cL PL = true)
    (nT : K.lookup PL = none)
    (zb_ValueError : PySem.W.nsIn K mainGlobals "ValueError" = some none)
    (zb_all : PySem.W.nsIn K mainGlobals "all" = some none)
    (zb_bool : PySem.W.nsIn K mainGlobals "bool" = some none)
    (zb_int : PySem.W.nsIn K mainGlobals "int" = some none)
    (zb_isinstance : PySem.W.nsIn K mainGlobals "isinstance" = some none)
    (zb_len : PySem.W.nsIn K mainGlobals "len" = some none)
    (zb_list : PySem.W.nsIn K mainGlobals "list" = some none)
    (zb_max : PySem.W.nsIn K mainGlobals "max" = some none)
    (zb_min : PySem.W.nsIn K mainGlobals "min" = some none)
    (zb_range : PySem.W.nsIn K mainGlobals "range" = some none)
    (zb_set : PySem.W.nsIn K mainGlobals "set" = some none)
    (zb_sorted : PySem.W.nsIn K mainGlobals "sorted" = some none)
    (zb_str : PySem.W.nsIn K mainGlobals "str" = some none)
    (zb_tuple : PySem.W.nsIn K mainGlobals "tuple" = some none)
    (zc_MOST_TRIED : PySem.W.nsIn K mainGlobals "MOST_TRIED" = some (some (.int 30 t_MOST_TRIED)))
    (zc_MOST_TRIED_LEAPS : PySem.W.nsIn K mainGlobals "MOST_TRIED_LEAPS" = some (some (.int 3 t_MOST_TRIED_LEAPS)))
    (xa_LeapError : PySem.W.nsIn K mainGlobals "LeapError" = some (some (.ref C_LeapError)))
    (xa_NoRing : PySem.W.nsIn K mainGlobals "NoRing" = some (some (.ref C_NoRing)))
    (xa_NoPlace : PySem.W.nsIn K mainGlobals "NoPlace" = some (some (.ref C_NoPlace)))
    (xa_NoNumber : PySem.W.nsIn K mainGlobals "NoNumber" = some (some (.ref C_NoNumber)))
    (xa_NotWhole : PySem.W.nsIn K mainGlobals "NotWhole" = some (some (.ref C_NotWhole)))
    (xa_NoWay : PySem.W.nsIn K mainGlobals "NoWay" = some (some (.ref C_NoWay)))
    (xa_NoCounts : PySem.W.nsIn K mainGlobals "NoCounts" = some (some (.ref C_NoCounts)))
    (xa_NoPaper : PySem.W.nsIn K mainGlobals "NoPaper" = some (some (.ref C_NoPaper)))
    (xa_NoTies : PySem.W.nsIn K mainGlobals "NoTies" = some (some (.ref C_NoTies)))
    (xa_NoPlaces : PySem.W.nsIn K mainGlobals "NoPlaces" = some (some (.ref C_NoPlaces)))
    (xa_NotTwo : PySem.W.nsIn K mainGlobals "NotTwo" = some (some (.ref C_NotTwo)))
    (xa_NoCell : PySem.W.nsIn K mainGlobals "NoCell" = some (some (.ref C_NoCell)))
    (xa_NoText : PySem.W.nsIn K mainGlobals "NoText" = some (some (.ref C_NoText)))
    (xa_NoDeed : PySem.W.nsIn K mainGlobals "NoDeed" = some (some (.ref C_NoDeed)))
    (xa_NoLine : PySem.W.nsIn K mainGlobals "NoLine" = some (some (.ref C_NoLine)))
    (xf_NoNumber : ExcBaseFacts "ValueError" "ValueError.__new__" "ValueError.__init__" bm_NoNumber)
    (xe_NoNumber : PySem.W.excIn K C_NoNumber bm_NoNumber "ValueError.__new__" = true)
    (xk_NoNumber : PySem.W.keepIn K (.ref C_NoNumber) = true)
    (xb_NoNumber : PySem.W.subIn K (.ref C_NoNumber) (.type "BaseException") = some true)
    (xt_NoNumber : PySem.W.typeIn K (.ref C_NoNumber) = some (.type "type"))
    (e1_NoNumber : PySem.W.findIn K (.ref C_NoNumber) "__getattribute__" = some (some (.builtin "BaseException.__getattribute__")))
    (e2_NoNumber : PySem.W.findIn K (.ref C_NoNumber) "__getattr__" = some none)
    (e4_NoNumber : PySem.W.hasDictIn K C_NoNumber = true)
    (e5_NoNumber : PySem.W.findIn K (.ref C_NoNumber) "__class__" = some (some (.builtin "object.__class__")))
    (e8_NoNumber : PySem.W.mroIn K C_NoNumber (.type "object") = some true)
    (w0_NoNumber : PySem.W.exmOne K (.ref C_NoNumber) (.ref C_LeapError) = some true)
    (wV_NoNumber : PySem.W.kitOne K (.ref C_NoNumber) (.type "ValueError") = some true)
    (wL_NoNumber : PySem.W.kitOne K (.ref C_NoNumber) (.ref C_LeapError) = some true)
    (w_NoNumber_NoRing : PySem.W.kitOne K (.ref C_NoNumber) (.ref C_NoRing) = some false)
    (w_NoNumber_NoPlace : PySem.W.kitOne K (.ref C_NoNumber) (.ref C_NoPlace) = some false)
    (w_NoNumber_NoNumber : PySem.W.kitOne K (.ref C_NoNumber) (.ref C_NoNumber) = some true)
    (w_NoNumber_NotWhole : PySem.W.kitOne K (.ref C_NoNumber) (.ref C_NotWhole) = some false)
    (w_NoNumber_NoWay : PySem.W.kitOne K (.ref C_NoNumber) (.ref C_NoWay) = some false)
    (w_NoNumber_NoCounts : PySem.W.kitOne K (.ref C_NoNumber) (.ref C_NoCounts) = some false)
    (w_NoNumber_NoPaper : PySem.W.kitOne K (.ref C_NoNumber) (.ref C_NoPaper) = some false)
    (w_NoNumber_NoTies : PySem.W.kitOne K (.ref C_NoNumber) (.ref C_NoTies) = some false)
    (w_NoNumber_NoPlaces : PySem.W.kitOne K (.ref C_NoNumber) (.ref C_NoPlaces) = some false)
    (w_NoNumber_NotTwo : PySem.W.kitOne K (.ref C_NoNumber) (.ref C_NotTwo) = some false)
    (w_NoNumber_NoCell : PySem.W.kitOne K (.ref C_NoNumber) (.ref C_NoCell) = some false)
    (w_NoNumber_NoText : PySem.W.kitOne K (.ref C_NoNumber) (.ref C_NoText) = some false)
    (w_NoNumber_NoDeed : PySem.W.kitOne K (.ref C_NoNumber) (.ref C_NoDeed) = some false)
    (w_NoNumber_NoLine : PySem.W.kitOne K (.ref C_NoNumber) (.ref C_NoLine) = some false)
    (e6 : PySem.W.specialIn K (.builtin "object.__class__") "__get__" = some (some (.builtin "getset_descriptor.__get__")))
    (e7 : PySem.W.takesIn K (.builtin "object.__class__") = some true)
    : LamX.LawAtS l w K (L2.CX l.prog w) 7 63 "_law_script" mg fa h := by
  have e := hfa.symm.trans (PySem.W.mg_of X Gn a19)
  cases e
  refine law_at (Pt := PL) X own l19 lc v11 hd nT (fun s v => .of_eq rfl) (good f9 f8 f10) fun base _ _ TB => ?_
  have b_ValueError : BltG ⟨l.prog, w, K, mg, base⟩ "ValueError" := PySem.W.mg_none_of X Gn zb_ValueError
  have b_all : BltG ⟨l.prog, w, K, mg, base⟩ "all" := PySem.W.mg_none_of X Gn zb_all
  have b_bool : BltG ⟨l.prog, w, K, mg, base⟩ "bool" := PySem.W.mg_none_of X Gn zb_bool
  have b_int : BltG ⟨l.prog, w, K, mg, base⟩ "int" := PySem.W.mg_none_of X Gn zb_int
  have b_isinstance : BltG ⟨l.prog, w, K, mg, base⟩ "isinstance" := PySem.W.mg_none_of X Gn zb_isinstance
  have b_len : BltG ⟨l.prog, w, K, mg, base⟩ "len" := PySem.W.mg_none_of X Gn zb_len
  have b_list : BltG ⟨l.prog, w, K, mg, base⟩ "list" := PySem.W.mg_none_of X Gn zb_list
  have b_max : BltG ⟨l.prog, w, K, mg, base⟩ "max" := PySem.W.mg_none_of X Gn zb_max
  have b_min : BltG ⟨l.prog, w, K, mg, base⟩ "min" := PySem.W.mg_none_of X Gn zb_min
  have b_range : BltG ⟨l.prog, w, K, mg, base⟩ "range" := PySem.W.mg_none_of X Gn zb_range
  have b_set : BltG ⟨l.prog, w, K, mg, base⟩ "set" := PySem.W.mg_none_of X Gn zb_set
  have b_sorted : BltG ⟨l.prog, w, K, mg, base⟩ "sorted" := PySem.W.mg_none_of X Gn zb_sorted
  have b_str : BltG ⟨l.prog, w, K, mg, base⟩ "str" := PySem.W.mg_none_of X Gn zb_str
  have b_tuple : BltG ⟨l.prog, w, K, mg, base⟩ "tuple" := PySem.W.mg_none_of X Gn zb_tuple
  have c_MOST_TRIED : CstG ⟨l.prog, w, K, mg, base⟩ "MOST_TRIED" (.int 30) := ⟨_, .int 30, PySem.W.mg_of X Gn zc_MOST_TRIED, ⟨_, rfl⟩, fun _ => .int _⟩
  have c_MOST_TRIED_LEAPS : CstG ⟨l.prog, w, K, mg, base⟩ "MOST_TRIED_LEAPS" (.int 3) := ⟨_, .int 3, PySem.W.mg_of X Gn zc_MOST_TRIED_LEAPS, ⟨_, rfl⟩, fun _ => .int _⟩
  have x_NoNumber : ExcG ⟨l.prog, w, K, mg, base⟩ "NoNumber" := ⟨C_NoNumber, _, _, _, bm_NoNumber, xf_NoNumber, xe_NoNumber, PySem.W.mg_of X Gn xa_NoNumber, xk_NoNumber, xb_NoNumber, xt_NoNumber⟩
  have F0 := L2.fun_mk (st := topS 17) l0 c0 k0
  have h_is_number : DefG ⟨l.prog, w, K, mg, base⟩ 1 "is_number" 3 d_is_number := def_g F0 (PySem.W.mg_of X Gn a0) (F0.binds (ps := ["thing", "least", "most"]) fun _ _ _ _ _ _ us hl => match us, hl with | [_, _, _], _ => rfl) fs_is_number rfl rfl (fun X T E C S => w_is_number C S b_bool b_int b_isinstance)
  have F1 := L2.fun_mk (st := topS 18) l1 c1 k1
  have h_need_number : DefG ⟨l.prog, w, K, mg, base⟩ 2 "need_number" 3 d_need_number := def_g F1 (PySem.W.mg_of X Gn a1) (F1.binds (ps := ["thing", "least", "most"]) fun _ _ _ _ _ _ us hl => match us, hl with | [_, _, _], _ => rfl) fs_need_number rfl rfl (fun X T E C S => w_need_number C S h_is_number x_NoNumber)
  have F2 := L2.fun_mk (st := topS 19) l2 c2 k2
  have h_beside : DefG ⟨l.prog, w, K, mg, base⟩ 1 "beside" 2 d_beside := def_g F2 (PySem.W.mg_of X Gn a2) (F2.binds (ps := ["ring", "place"]) fun _ _ _ _ _ _ us hl => match us, hl with | [_, _], _ => rfl) fs_beside rfl rfl (fun X T E C S => w_beside C S b_set b_sorted b_tuple)
  have F3 := L2.fun_mk (st := topS 20) l3 c3 k3
  have h_common : DefG ⟨l.prog, w, K, mg, base⟩ 1 "common" 2 d_common := def_g F3 (PySem.W.mg_of X Gn a3) (F3.binds (ps := ["one", "other"]) fun _ _ _ _ _ _ us hl => match us, hl with | [_, _], _ => rfl) fs_common rfl rfl (fun X T E C S => w_common C S )
  have F4 := L2.fun_mk (st := topS 21) l4 c4 k4
  have h_pieces_of : DefG ⟨l.prog, w, K, mg, base⟩ 2 "pieces_of" 1 d_pieces_of := def_g F4 (PySem.W.mg_of X Gn a4) (F4.binds (ps := ["ring"]) fun _ _ _ _ _ _ us hl => match us, hl with | [_], _ => rfl) fs_pieces_of rfl rfl (fun X T E C S => w_pieces_of C S h_common)
  have F5 := L2.fun_mk (st := topS 23) l5 c5 k5
  have h_steps_of : DefG ⟨l.prog, w, K, mg, base⟩ 2 "steps_of" 1 d_steps_of := def_g F5 (PySem.W.mg_of X Gn a5) (F5.binds (ps := ["ring"]) fun _ _ _ _ _ _ us hl => match us, hl with | [_], _ => rfl) fs_steps_of rfl rfl (fun X T E C S => w_steps_of C S h_beside b_len)
  have F6 := L2.fun_mk (st := topS 27) l6 c6 k6
  have h_picks : DefG ⟨l.prog, w, K, mg, base⟩ 1 "picks" 2 d_picks := def_g F6 (PySem.W.mg_of X Gn a6) (F6.binds (ps := ["most", "k"]) fun _ _ _ _ _ _ us hl => match us, hl with | [_, _], _ => rfl) fs_picks rfl rfl (fun X T E C S => w_picks C S b_range)
  have F7 := L2.fun_mk (st := topS 28) l7 c7 k7
  have h_widths : DefG ⟨l.prog, w, K, mg, base⟩ 3 "widths" 2 d_widths := def_g F7 (PySem.W.mg_of X Gn a7) (F7.binds (ps := ["many", "k"]) fun _ _ _ _ _ _ us hl => match us, hl with | [_, _], _ => rfl) fs_widths rfl rfl (fun X T E C S => w_widths C S h_need_number h_picks h_pieces_of h_steps_of b_max b_min c_MOST_TRIED c_MOST_TRIED_LEAPS)
  have F8 := L2.fun_mk (st := topS 29) l8 c8 k8
  have h_best_wide : DefG ⟨l.prog, w, K, mg, base⟩ 4 "best_wide" 2 d_best_wide := def_g F8 (PySem.W.mg_of X Gn a8) (F8.binds (ps := ["many", "k"]) fun _ _ _ _ _ _ us hl => match us, hl with | [_, _], _ => rfl) fs_best_wide rfl rfl (fun X T E C S => w_best_wide C S h_widths b_min)
  have F9 := L2.fun_mk (st := topS 30) l9 c9 k9
  have h_all_best : DefG ⟨l.prog, w, K, mg, base⟩ 4 "all_best" 2 d_all_best := def_g F9 (PySem.W.mg_of X Gn a9) (F9.binds (ps := ["many", "k"]) fun _ _ _ _ _ _ us hl => match us, hl with | [_, _], _ => rfl) fs_all_best rfl rfl (fun X T E C S => w_all_best C S h_widths b_min)
  have F10 := L2.fun_mk (st := topS 31) l10 c10 k10
  have h_best_leaps : DefG ⟨l.prog, w, K, mg, base⟩ 4 "best_leaps" 2 d_best_leaps := def_g F10 (PySem.W.mg_of X Gn a10) (F10.binds (ps := ["many", "k"]) fun _ _ _ _ _ _ us hl => match us, hl with | [_, _], _ => rfl) fs_best_leaps rfl rfl (fun X T E C S => w_best_leaps C S h_widths b_min)
  have F11 := L2.fun_mk (st := topS 33) l11 c11 k11
  have h__law_cell_at : DefG ⟨l.prog, w, K, mg, base⟩ 1 "_law_cell_at" 2 d__law_cell_at := def_g F11 (PySem.W.mg_of X Gn a11) (F11.binds (ps := ["_law_script", "_law_k"]) fun _ _ _ _ _ _ us hl => match us, hl with | [_, _], _ => rfl) fs__law_cell_at rfl rfl (fun X T E C S => w__law_cell_at C S b_len)
  have F12 := L2.fun_mk (st := topS 34) l12 c12 k12
  have h__law_draw : DefG ⟨l.prog, w, K, mg, base⟩ 1 "_law_draw" 3 d__law_draw := def_g F12 (PySem.W.mg_of X Gn a12) (F12.binds (ps := ["_law_cell", "_law_k", "_law_bound"]) fun _ _ _ _ _ _ us hl => match us, hl with | [_, _, _], _ => rfl) fs__law_draw rfl rfl (fun X T E C S => w__law_draw C S b_range)
  have F13 := L2.fun_mk (st := topS 35) l13 c13 k13
  have h__law_near : DefG ⟨l.prog, w, K, mg, base⟩ 1 "_law_near" 2 d__law_near := def_g F13 (PySem.W.mg_of X Gn a13) (F13.binds (ps := ["_law_ring", "_law_place"]) fun _ _ _ _ _ _ us hl => match us, hl with | [_, _], _ => rfl) fs__law_near rfl rfl (fun X T E C S => w__law_near C S b_sorted)
  have F14 := L2.fun_mk (st := topS 36) l14 c14 k14
  have h__law_steps : DefG ⟨l.prog, w, K, mg, base⟩ 2 "_law_steps" 2 d__law_steps := def_g F14 (PySem.W.mg_of X Gn a14) (F14.binds (ps := ["_law_ring", "_law_place"]) fun _ _ _ _ _ _ us hl => match us, hl with | [_, _], _ => rfl) fs__law_steps rfl rfl (fun X T E C S => w__law_steps C S h__law_near)
  have F15 := L2.fun_mk (st := topS 37) l15 c15 k15
  have h__law_no_number : DefG ⟨l.prog, w, K, mg, base⟩ 2 "_law_no_number" 4 d__law_no_number := def_g F15 (PySem.W.mg_of X Gn a15) (F15.binds (ps := ["_law_cell", "_law_at", "_law_least", "_law_most"]) fun _ _ _ _ _ _ us hl => match us, hl with | [_, _, _, _], _ => rfl) fs__law_no_number rfl rfl (fun X T E C S => w__law_no_number C S h__law_draw b_str)
  have F16 := L2.fun_mk (st := topS 38) l16 c16 k16
  have hot_NoNumber : HotP l.prog w K mg base 1 f16 _ ["_law_error"] C_NoNumber (.str "number") := hot_ok (fn := fun a => f__law_class a C_LeapError C_NoRing C_NoPlace C_NoNumber C_NotWhole C_NoWay C_NoCounts C_NoPaper C_NoTies C_NoPlaces C_NotTwo C_NoCell C_NoText C_NoDeed C_NoLine false false true false false false false false false false false false false false) F16 fs__law_class rfl rfl ⟨e1_NoNumber, e2_NoNumber, xb_NoNumber, e4_NoNumber, e5_NoNumber, e6, e7, e8_NoNumber⟩ (fun X T E a C => w__law_class C b_isinstance b_ValueError wV_NoNumber (PySem.W.mg_of ‹K.In h› Gn xa_LeapError) wL_NoNumber (PySem.W.mg_of ‹K.In h› Gn xa_NoRing) w_NoNumber_NoRing (PySem.W.mg_of ‹K.In h› Gn xa_NoPlace) w_NoNumber_NoPlace (PySem.W.mg_of ‹K.In h› Gn xa_NoNumber) w_NoNumber_NoNumber (PySem.W.mg_of ‹K.In h› Gn xa_NotWhole) w_NoNumber_NotWhole (PySem.W.mg_of ‹K.In h› Gn xa_NoWay) w_NoNumber_NoWay (PySem.W.mg_of ‹K.In h› Gn xa_NoCounts) w_NoNumber_NoCounts (PySem.W.mg_of ‹K.In h› Gn xa_NoPaper) w_NoNumber_NoPaper (PySem.W.mg_of ‹K.In h› Gn xa_NoTies) w_NoNumber_NoTies (PySem.W.mg_of ‹K.In h› Gn xa_NoPlaces) w_NoNumber_NoPlaces (PySem.W.mg_of ‹K.In h› Gn xa_NotTwo) w_NoNumber_NotTwo (PySem.W.mg_of ‹K.In h› Gn xa_NoCell) w_NoNumber_NoCell (PySem.W.mg_of ‹K.In h› Gn xa_NoText) w_NoNumber_NoText (PySem.W.mg_of ‹K.In h› Gn xa_NoDeed) w_NoNumber_NoDeed (PySem.W.mg_of ‹K.In h› Gn xa_NoLine) w_NoNumber_NoLine) (fun a => v_NoNumber a _ _ _ _ _ _ _ _ _ _ _ _ _ _ _)
  have F17 := L2.fun_mk (st := topS 39) l17 c17 k17
  have h__law_refused : RefG ⟨l.prog, w, K, mg, base⟩ 1 "_law_refused" "_law_call" "_law_word" "_law_error" "LeapError" "_law_class" (topS 39) word := by
    refine ⟨⟨f17, C_LeapError, f16, _, _, ["_law_error"], F17, F17.binds (ps := ["_law_call"]) (fun _ _ _ _ _ _ us hl => match us, hl with | [_], _ => rfl), fs__law_refused, PySem.W.mg_of X Gn a17, PySem.W.mg_of X Gn xa_LeapError, PySem.W.mg_of X Gn a16, k16, F16.binds (ps := ["_law_error"]) (fun _ _ _ _ _ _ us hl => match us, hl with | [_], _ => rfl), fun n wd hw => ?_⟩, ⟨_, _, _, _, _, _, _, _, _, _, _, _, _, _, _, _, _, rfl⟩, by decide +kernel⟩
    unfold word at hw
    split at hw
    · rename_i e; subst e; cases hw; exact ⟨C_NoNumber, PySem.W.mg_of X Gn xa_NoNumber, hot_NoNumber, w0_NoNumber⟩
    cases hw
  have F18 := L2.fun_mk (st := topS 40) l18 c18 k18
  have hr0__law_all : DefG ⟨l.prog, w, K, mg, base⟩ 1 "_law_all" 3 (r__law_all 0) := def_g F18 (PySem.W.mg_of X Gn a18) (F18.binds (ps := ["_law_most", "_law_k", "_law_least"]) fun _ _ _ _ _ _ us hl => match us, hl with | [_, _, _], _ => rfl) fs__law_all rfl rfl (fun X T E C S => sb_stuck)
  have hr1__law_all : DefG ⟨l.prog, w, K, mg, base⟩ 2 "_law_all" 3 (r__law_all 1) := def_g F18 (PySem.W.mg_of X Gn a18) (F18.binds (ps := ["_law_most", "_law_k", "_law_least"]) fun _ _ _ _ _ _ us hl => match us, hl with | [_, _, _], _ => rfl) fs__law_all rfl rfl (fun X T E C S => (w__law_all C S hr0__law_all b_range))
  have hr2__law_all : DefG ⟨l.prog, w, K, mg, base⟩ 3 "_law_all" 3 (r__law_all 2) := def_g F18 (PySem.W.mg_of X Gn a18) (F18.binds (ps := ["_law_most", "_law_k", "_law_least"]) fun _ _ _ _ _ _ us hl => match us, hl with | [_, _, _], _ => rfl) fs__law_all rfl rfl (fun X T E C S => (w__law_all C S hr1__law_all b_range))
  have hr3__law_all : DefG ⟨l.prog, w, K, mg, base⟩ 4 "_law_all" 3 (r__law_all 3) := def_g F18 (PySem.W.mg_of X Gn a18) (F18.binds (ps := ["_law_most", "_law_k", "_law_least"]) fun _ _ _ _ _ _ us hl => match us, hl with | [_, _, _], _ => rfl) fs__law_all rfl rfl (fun X T E C S => (w__law_all C S hr2__law_all b_range))
  have h__law_all : DefG ⟨l.prog, w, K, mg, base⟩ 5 "_law_all" 3 d__law_all := def_g F18 (PySem.W.mg_of X Gn a18) (F18.binds (ps := ["_law_most", "_law_k", "_law_least"]) fun _ _ _ _ _ _ us hl => match us, hl with | [_, _, _], _ => rfl) fs__law_all rfl rfl (fun X T E C S => (w__law_all C S hr3__law_all b_range))
  have cst_all_best : CstG ⟨l.prog, w, K, mg, base⟩ "all_best" (.ref f9) := cst_ref (PySem.W.mg_of X Gn a9)
  have cst_best_wide : CstG ⟨l.prog, w, K, mg, base⟩ "best_wide" (.ref f8) := cst_ref (PySem.W.mg_of X Gn a8)
  have cst_best_leaps : CstG ⟨l.prog, w, K, mg, base⟩ "best_leaps" (.ref f10) := cst_ref (PySem.W.mg_of X Gn a10)
  have FT_2 : FunT ⟨l.prog, w, K, mg, base⟩ 4 [(f9, d_all_best), (f8, d_best_wide), (f10, d_best_leaps)] 2 := (funT_cons h_all_best (PySem.W.mg_of X Gn a9) (funT_cons h_best_wide (PySem.W.mg_of X Gn a8) (funT_cons h_best_leaps (PySem.W.mg_of X Gn a10) funT_nil)))
  exact def_okT l19 c19 TB fs_law rfl rfl (fun X E C S Lk => w_law C S Lk h__law_refused h__law_cell_at h__law_draw h__law_all h__law_steps h_all_best h_best_wide h_best_leaps h__law_no_number b_all b_bool b_isinstance b_len b_list b_max b_min b_range b_tuple cst_all_best cst_best_wide cst_best_leaps FT_2)
end Lk41

namespace Lk41
open PySem PySem.Spec L2 Pd Pr
theorem held3 {a b c v : Addr} {φ ψ ω : List Sl → Pd.R O} {P : (List Sl → Pd.R O) → Prop} (hv : D.ref v ∈ [D.ref a, .ref b, .ref c]) (h1 : P φ) (h2 : P ψ) (h3 : P ω) : ∃ χ, findV [(a, φ), (b, ψ), (c, ω)] v = some χ ∧ P χ := by
  have hs : v = a ∨ v = b ∨ v = c := by
    simp only [List.mem_cons, List.not_mem_nil, or_false, D.ref.injEq] at hv
    exact hv
  have : ∃ χ, findV [(a, φ), (b, ψ), (c, ω)] v = some χ := by
    unfold findV
    rw [List.find?_cons]
    cases h : (a == v) with
    | true => exact ⟨_, rfl⟩
    | false =>
      dsimp only
      rw [List.find?_cons]
      cases h' : (b == v) with
      | true => exact ⟨_, rfl⟩
      | false =>
        dsimp only
        rw [List.find?_cons]
        rcases hs with rfl | rfl | rfl
        · rw [beq_self_eq_true] at h; cases h
        · rw [beq_self_eq_true] at h'; cases h'
        · rw [beq_self_eq_true]
          exact ⟨_, rfl⟩
  obtain ⟨χ, e⟩ := this
  refine ⟨χ, e, ?_⟩
  have hm := findV_mem e
  simp only [List.mem_cons, List.not_mem_nil, or_false, Prod.mk.injEq] at hm
  rcases hm with ⟨_, rfl⟩ | ⟨_, rfl⟩ | ⟨_, rfl⟩
  · exact h1
  · exact h2
  · exact h3
theorem oddn (c : Int) (k : Nat) (least most : Int) (hk : k < 1000000) (h1 : 0 ≤ least) (h2 : most ≤ 1000) (h3 : least ≤ 10) : ∃ d, d__law_no_number [.val (.int c), .val (.int k), .val (.int least), .val (.int most)] = .ok (.v d) ∧ d_need_number [.val d, .val (.int least), .val (.int most)] = .err "NoNumber" := by
  have hs : least.natAbs.log2 < 1920 := by
    rcases (show least = 0 ∨ least = 1 ∨ least = 2 ∨ least = 3 ∨ least = 4 ∨ least = 5 ∨ least = 6 ∨ least = 7 ∨ least = 8 ∨ least = 9 ∨ least = 10 by omega) with rfl | rfl | rfl | rfl | rfl | rfl | rfl | rfl | rfl | rfl | rfl <;> decide
  obtain ⟨d, m, e⟩ := odd_v c k least most hk hs
  obtain ⟨p, b⟩ := odd_bad (by omega) h2 (by omega) d m
  exact ⟨d, e, (need_v least most p).trans (if_neg (by rw [b]; exact Bool.false_ne_true))⟩
theorem wordN : word "NoNumber" = Option.some (α := Str) "number" := rfl
/-! ### three runs -/
theorem ring51 : Ring 5 [1] := ⟨by decide, by decide, by decide, by decide, by decide, by decide, by decide⟩
theorem ring52 : Ring 5 [2] := ⟨by decide, by decide, by decide, by decide, by decide, by decide, by decide⟩
theorem ring512 : Ring 5 [1, 2] := ⟨by decide, by decide, by decide, by decide, by decide, by decide, by decide⟩
theorem ring30 (x : Nat) (h : x = 1 ∨ x = 7 ∨ x = 11 ∨ x = 13) : Ring 30 [x] := by
  rcases h with rfl | rfl | rfl | rfl <;> exact ⟨by decide, by decide, by decide, by decide, by decide, by decide, by decide⟩
theorem wid_cert {m : Nat} {s : List Nat} (R : Ring m s) {g : Nat → Nat} (h : certB m s 0 g = true) {W : Nat} (hW : W ∈ (List.range m).map g) (hle : ∀ x ∈ (List.range m).map g, x ≤ W) : IsWid m s W := by
  obtain ⟨F, hF, _⟩ := steps_v R
  have e := dist_cert (fun l hl => by have := R.half l hl; omega) (by have := R.m3; omega) h hF
  refine ⟨(List.range m).map g, ?_, by rw [List.length_map, List.length_range], hW, hle⟩
  rw [List.map_map]
  rw [e] at hF
  exact hF
def gq (i q : Nat) : Nat := if 30 - q * i % 30 < q * i % 30 then 30 - q * i % 30 else q * i % 30
theorem wid30 (x : Nat) (h : x = 1 ∨ x = 7 ∨ x = 11 ∨ x = 13) : IsWid 30 [x] 15 := by
  have R := ring30 x h
  rcases h with rfl | rfl | rfl | rfl
  · exact wid_cert R (g := gq 1) (by decide +kernel) (by decide +kernel) (by decide +kernel)
  · exact wid_cert R (g := gq 13) (by decide +kernel) (by decide +kernel) (by decide +kernel)
  · exact wid_cert R (g := gq 11) (by decide +kernel) (by decide +kernel) (by decide +kernel)
  · exact wid_cert R (g := gq 7) (by decide +kernel) (by decide +kernel) (by decide +kernel)
theorem run1 : d_all_best [.val (.int 5), .val (.int 1)] = .ok (.o (.lst [.tup [.int 1], .tup [.int 2]])) := by
  obtain ⟨w, hw⟩ := wid_fun 5
  have ew := widths_v (m := 5) (k := 1) (by omega) (by omega) (by omega) (by omega) (by omega) hw
  obtain ⟨W, s0, h1, h2, _, _, e⟩ := best_ex (m := 5) (k := 1) (by omega) (by omega) w
  have g : gdN 5 1 = [[1], [2]] := by decide +kernel
  have w1 : w [1] = 2 := wid_uni (hw _ ring51 (by decide +kernel)) (wid_cert ring51 (g := fun q => if 5 - q < q then 5 - q else q) (by decide +kernel) (by decide +kernel) (by decide +kernel))
  have w2 : w [2] = 2 := wid_uni (hw _ ring52 (by decide +kernel)) (wid_cert ring52 (g := fun q => if 5 - q * 3 % 5 < q * 3 % 5 then 5 - q * 3 % 5 else q * 3 % 5) (by decide +kernel) (by decide +kernel) (by decide +kernel))
  have hW : W = 2 := by
    rw [g] at h1
    simp only [List.mem_cons, List.not_mem_nil, or_false] at h1
    rcases h1 with rfl | rfl
    · rw [← h2, w1]
    · rw [← h2, w2]
  have d : dueN 5 1 w W = [[1], [2]] := by
    unfold dueN
    rw [g, hW, List.filter_cons, w1, List.filter_cons, w2]
    rfl
  have h := all_best2_v ew e
  rw [d] at h
  exact h
theorem run2 : d_best_wide [.val (.int 5), .val (.int 2)] = .ok (.v (.int 1)) := by
  obtain ⟨w, hw⟩ := wid_fun 5
  have ew := widths_v (m := 5) (k := 2) (by omega) (by omega) (by omega) (by omega) (by omega) hw
  obtain ⟨W, s0, h1, h2, _, _, e⟩ := best_ex (m := 5) (k := 2) (by omega) (by omega) w
  have g : gdN 5 2 = [[1, 2]] := by decide +kernel
  have w1 : w [1, 2] = 1 := wid_uni (hw _ ring512 (by decide +kernel)) (wid_cert ring512 (g := fun q => if q = 0 then 0 else 1) (by decide +kernel) (by decide +kernel) (by decide +kernel))
  have hW : W = 1 := by
    rw [g] at h1
    simp only [List.mem_cons, List.not_mem_nil, or_false] at h1
    rw [← h2, h1, w1]
  have h := best_wide2_v ew e
  rw [hW] at h
  exact h
theorem run3 : d_best_leaps [.val (.int 30), .val (.int 1)] = .ok (.v (.tup [.int 1])) := by
  obtain ⟨w, hw⟩ := wid_fun 30
  have ew := widths_v (m := 30) (k := 1) (by omega) (by omega) (by omega) (by omega) (by omega) hw
  obtain ⟨W, s0, h1, h2, _, h4, e⟩ := best_ex (m := 30) (k := 1) (by omega) (by omega) w
  have g : gdN 30 1 = [[1], [7], [11], [13]] := by decide +kernel
  have wv : ∀ x, (x = 1 ∨ x = 7 ∨ x = 11 ∨ x = 13) → w [x] = 15 := fun x hx => by
    refine wid_uni (hw _ (ring30 x hx) ?_) (wid30 x hx)
    rcases hx with rfl | rfl | rfl | rfl <;> decide +kernel
  have hW : W = 15 := by
    rw [g] at h1
    simp only [List.mem_cons, List.not_mem_nil, or_false] at h1
    rcases h1 with rfl | rfl | rfl | rfl
    · rw [← h2, wv 1 (by omega)]
    · rw [← h2, wv 7 (by omega)]
    · rw [← h2, wv 11 (by omega)]
    · rw [← h2, wv 13 (by omega)]
  unfold dueN at h4
  rw [g, hW, List.filter_cons, wv 1 (by omega)] at h4
  have h5 : some [1] = some s0 := h4
  cases h5
  exact best_leaps2_v ew e
theorem good (v_all_best v_best_wide v_best_leaps : Addr) (ns : List Int) (hn : ns.length ≤ 63) : d_law v_all_best v_best_wide v_best_leaps [.val (.scr ns)] = .ok (.v (.bl true)) := by
  unfold d_law f_law
  refine def_rt ?_
  obtain ⟨n, en⟩ := head_v ns (K := 3) (by omega) (by omega) (List.replicate 16 .un)
  refine seq_go (fun Γ => ∃ s1 s2 s3 s4 s5 s6 s7 s8 s9 s10 s11 s12 s13 s14 s15 s16, Γ = [.val (.scr ns), s1, s2, s3, s4, s5, s6, s7, s8, s9, s10, s11, s12, s13, s14, s15, s16]) (go_for en ⟨_, _, _, _, _, _, _, _, _, _, _, _, _, _, _, _, rfl⟩ ?_) ?_
  · rintro Γ d hd ⟨s1, s2, s3, s4, s5, s6, s7, s8, s9, s10, s11, s12, s13, s14, s15, s16, rfl⟩
    obtain ⟨j, hj, rfl⟩ := mem_nD.mp hd
    obtain ⟨c, hc⟩ := cell_i ns j
    obtain ⟨r0, l0, h0⟩ := draw_i c (k := 0) (b := 4) (by omega) (by omega) (by omega) (by omega)
    obtain ⟨x, hx, ea⟩ := pick4 16 16 16 28 (r := r0) (by omega)
    obtain ⟨r1, l1, h1⟩ := draw_i c (k := 1) (b := x) (by omega) (by omega) (by omega) (by omega)
    refine go_seq (Γ1 := [.val (.scr ns), .val (.int j), .val (.int c), s3, s4, s5, s6, s7, s8, s9, s10, s11, s12, s13, s14, s15, s16]) (by simp (implicitDefEqProofs := false) (disch := omega) only [↓r_seq, ↓r_next, ↓r_if, ↓r_eif, ↓r_set, ↓r_ret, ↓r_retV, ↓r_expr, ↓r_asg, ↓r_par, ↓r_app, ↓r_ext, ↓r_sto, ↓r_or1, ↓r_or, ↓r_and1, ↓r_and, ↓r_vor1, ↓r_vor, ↓r_vand1, ↓r_vand, ↓r_not, ↓r_tru, ↓r_isB, ↓r_eC, ↓r_rd, ↓r_vl, ↓r_rV, ↓r_eV, ↓r_uV, ↓r_uVl, ↓r_sq0, ↓r_sq, ↓r_e2, ↓r_e3, ↓r_call, ↓r_user, ↓r_enot, ↓r_eneg, ↓r_tup, ↓r_lst, ↓r_sl, ↓r_noP, ↓r_aP, ↓r_iOf, ↓r_iF, ↓r_def, ↓r_ref, r_seqNx, r_seqRt, r_seqBk, r_seqCt, r_ifT, r_ifF, r_setV, r_setOt, r_setOl, r_setOd, r_setOs, r_retK, r_retVv, r_retVo, r_asgK, r_tgN, r_tgT, r_tgL, r_tgs0, r_tgs, r_parK, r_ownL, r_ownLo, r_ownD, r_ownDo, r_appK, r_appJ, r_extK, r_extJ, r_stoK, r_stoI, r_stoJ, r_stoL, r_orT, r_orF, r_andT, r_andF, r_vorK, r_vorT, r_vorF, r_vandK, r_vandT, r_vandF, r_notK, r_truK, r_truB, r_truI, r_truL, r_truT, r_truN, r_isBK, r_rdV, r_rdO, r_dV, r_dO, r_valV, r_valL, r_valD, r_rVv, r_rVo, r_rVb, r_eVv, r_uVv, r_uVo, r_uVb, r_uVlK, r_sqK, r_consK, r_opK, r_opJ, r_chK, r_chJ, r_chT, r_chF, r_clK, r_ntK, r_ngK, r_tpK, r_lsK, r_slK, r_slJ, r_slI, r_slL, r_slT, r_aPK, r_sqL, r_sqT, r_sqS, r_rtR, r_rtN, r_refO, r_refE, r_wdK, r_bAdd, r_bSub, r_bMul, r_bDiv, r_bMod, r_bPow, r_cLt, r_cLe, r_cGt, r_cGe, r_cEq, r_cNe, r_ixL, r_ixT, r_of, r_lenL, r_lenT, r_lenS, Pd.R.bind_ok, Pd.R.bind_err, Pd.R.bind_stuck, noE_ok', mul_r, div_i, mod_i, add_i, sub_i, lt_i, le_i, gt_i, ge_i, eq_i, ne_i, pow18, List.cons_append, List.nil_append, List.getElem?_cons_zero, List.getElem?_cons_succ, List.replicate_succ, List.replicate_zero, List.set_cons_zero, List.set_cons_succ, List.length_cons, List.length_nil, if_true, if_false, Bool.not_true, Bool.not_false, Bool.false_eq_true, ↓reduceIte, Nat.reduceAdd, Nat.reduceLeDiff, Nat.reduceLT, Nat.zero_add, Option.map_some, Int.cast_ofNat_Int, Int.natCast_one, Int.natCast_zero, Int.reduceBEq, Int.reduceLT, Int.reduceLE, Int.reduceAdd, Int.reduceSub, Int.reduceMul, Int.reduceNeg, Int.reduceDiv, Int.reduceMod, decide_true, decide_false, hc]) ?_
    have hm1 : (3 : Int) + (r1 : Int) = ((3 + r1 : Nat) : Int) := by omega
    have m3 : 3 ≤ 3 + r1 := by omega
    have m30 : 3 + r1 ≤ 30 := by omega
    refine go_seq (Γ1 := [.val (.scr ns), .val (.int j), .val (.int c), .val (.int ((3 + r1 : Nat) : Int)), s4, s5, s6, s7, s8, s9, s10, s11, s12, s13, s14, s15, s16]) (by simp (implicitDefEqProofs := false) (disch := omega) only [↓r_seq, ↓r_next, ↓r_if, ↓r_eif, ↓r_set, ↓r_ret, ↓r_retV, ↓r_expr, ↓r_asg, ↓r_par, ↓r_app, ↓r_ext, ↓r_sto, ↓r_or1, ↓r_or, ↓r_and1, ↓r_and, ↓r_vor1, ↓r_vor, ↓r_vand1, ↓r_vand, ↓r_not, ↓r_tru, ↓r_isB, ↓r_eC, ↓r_rd, ↓r_vl, ↓r_rV, ↓r_eV, ↓r_uV, ↓r_uVl, ↓r_sq0, ↓r_sq, ↓r_e2, ↓r_e3, ↓r_call, ↓r_user, ↓r_enot, ↓r_eneg, ↓r_tup, ↓r_lst, ↓r_sl, ↓r_noP, ↓r_aP, ↓r_iOf, ↓r_iF, ↓r_def, ↓r_ref, r_seqNx, r_seqRt, r_seqBk, r_seqCt, r_ifT, r_ifF, r_setV, r_setOt, r_setOl, r_setOd, r_setOs, r_retK, r_retVv, r_retVo, r_asgK, r_tgN, r_tgT, r_tgL, r_tgs0, r_tgs, r_parK, r_ownL, r_ownLo, r_ownD, r_ownDo, r_appK, r_appJ, r_extK, r_extJ, r_stoK, r_stoI, r_stoJ, r_stoL, r_orT, r_orF, r_andT, r_andF, r_vorK, r_vorT, r_vorF, r_vandK, r_vandT, r_vandF, r_notK, r_truK, r_truB, r_truI, r_truL, r_truT, r_truN, r_isBK, r_rdV, r_rdO, r_dV, r_dO, r_valV, r_valL, r_valD, r_rVv, r_rVo, r_rVb, r_eVv, r_uVv, r_uVo, r_uVb, r_uVlK, r_sqK, r_consK, r_opK, r_opJ, r_chK, r_chJ, r_chT, r_chF, r_clK, r_ntK, r_ngK, r_tpK, r_lsK, r_slK, r_slJ, r_slI, r_slL, r_slT, r_aPK, r_sqL, r_sqT, r_sqS, r_rtR, r_rtN, r_refO, r_refE, r_wdK, r_bAdd, r_bSub, r_bMul, r_bDiv, r_bMod, r_bPow, r_cLt, r_cLe, r_cGt, r_cGe, r_cEq, r_cNe, r_ixL, r_ixT, r_of, r_lenL, r_lenT, r_lenS, Pd.R.bind_ok, Pd.R.bind_err, Pd.R.bind_stuck, noE_ok', mul_r, div_i, mod_i, add_i, sub_i, lt_i, le_i, gt_i, ge_i, eq_i, ne_i, pow18, List.cons_append, List.nil_append, List.getElem?_cons_zero, List.getElem?_cons_succ, List.replicate_succ, List.replicate_zero, List.set_cons_zero, List.set_cons_succ, List.length_cons, List.length_nil, if_true, if_false, Bool.not_true, Bool.not_false, Bool.false_eq_true, ↓reduceIte, Nat.reduceAdd, Nat.reduceLeDiff, Nat.reduceLT, Nat.zero_add, Option.map_some, Int.cast_ofNat_Int, Int.natCast_one, Int.natCast_zero, Int.reduceBEq, Int.reduceLT, Int.reduceLE, Int.reduceAdd, Int.reduceSub, Int.reduceMul, Int.reduceNeg, Int.reduceDiv, Int.reduceMod, decide_true, decide_false, h0, ea, h1, hm1]) ?_
    clear hm1 h1 l1
    generalize 3 + r1 = m at m3 m30 ⊢
    have d2 : (m : Int) / 2 = ((m / 2 : Nat) : Int) := rfl
    have hmin : ∃ b : Nat, b = min 3 (m / 2) ∧ (if ((m / 2 : Nat) : Int) < 3 then ((m / 2 : Nat) : Int) else 3) = (b : Int) := by
      by_cases h : ((m / 2 : Nat) : Int) < 3
      · exact ⟨m / 2, by omega, if_pos h⟩
      · exact ⟨3, by omega, if_neg h⟩
    obtain ⟨b, hb, eb⟩ := hmin
    obtain ⟨r2, l2, h2⟩ := draw_i c (k := 2) (b := (b : Int)) (by omega) (by omega) (by omega) (by omega)
    have hk1 : (1 : Int) + (r2 : Int) = ((1 + r2 : Nat) : Int) := by omega
    have k1 : 1 ≤ 1 + r2 := by omega
    have k3 : 1 + r2 ≤ 3 := by omega
    have km : 1 + r2 ≤ m / 2 := by omega
    refine go_seq (Γ1 := [.val (.scr ns), .val (.int j), .val (.int c), .val (.int (m : Nat)), .val (.int ((1 + r2 : Nat) : Int)), s5, s6, s7, s8, s9, s10, s11, s12, s13, s14, s15, s16]) (by simp (implicitDefEqProofs := false) (disch := omega) only [↓r_seq, ↓r_next, ↓r_if, ↓r_eif, ↓r_set, ↓r_ret, ↓r_retV, ↓r_expr, ↓r_asg, ↓r_par, ↓r_app, ↓r_ext, ↓r_sto, ↓r_or1, ↓r_or, ↓r_and1, ↓r_and, ↓r_vor1, ↓r_vor, ↓r_vand1, ↓r_vand, ↓r_not, ↓r_tru, ↓r_isB, ↓r_eC, ↓r_rd, ↓r_vl, ↓r_rV, ↓r_eV, ↓r_uV, ↓r_uVl, ↓r_sq0, ↓r_sq, ↓r_e2, ↓r_e3, ↓r_call, ↓r_user, ↓r_enot, ↓r_eneg, ↓r_tup, ↓r_lst, ↓r_sl, ↓r_noP, ↓r_aP, ↓r_iOf, ↓r_iF, ↓r_def, ↓r_ref, r_seqNx, r_seqRt, r_seqBk, r_seqCt, r_ifT, r_ifF, r_setV, r_setOt, r_setOl, r_setOd, r_setOs, r_retK, r_retVv, r_retVo, r_asgK, r_tgN, r_tgT, r_tgL, r_tgs0, r_tgs, r_parK, r_ownL, r_ownLo, r_ownD, r_ownDo, r_appK, r_appJ, r_extK, r_extJ, r_stoK, r_stoI, r_stoJ, r_stoL, r_orT, r_orF, r_andT, r_andF, r_vorK, r_vorT, r_vorF, r_vandK, r_vandT, r_vandF, r_notK, r_truK, r_truB, r_truI, r_truL, r_truT, r_truN, r_isBK, r_rdV, r_rdO, r_dV, r_dO, r_valV, r_valL, r_valD, r_rVv, r_rVo, r_rVb, r_eVv, r_uVv, r_uVo, r_uVb, r_uVlK, r_sqK, r_consK, r_opK, r_opJ, r_chK, r_chJ, r_chT, r_chF, r_clK, r_ntK, r_ngK, r_tpK, r_lsK, r_slK, r_slJ, r_slI, r_slL, r_slT, r_aPK, r_sqL, r_sqT, r_sqS, r_rtR, r_rtN, r_refO, r_refE, r_wdK, r_bAdd, r_bSub, r_bMul, r_bDiv, r_bMod, r_bPow, r_cLt, r_cLe, r_cGt, r_cGe, r_cEq, r_cNe, r_ixL, r_ixT, r_of, r_lenL, r_lenT, r_lenS, Pd.R.bind_ok, Pd.R.bind_err, Pd.R.bind_stuck, noE_ok', mul_r, div_i, mod_i, add_i, sub_i, lt_i, le_i, gt_i, ge_i, eq_i, ne_i, pow18, List.cons_append, List.nil_append, List.getElem?_cons_zero, List.getElem?_cons_succ, List.replicate_succ, List.replicate_zero, List.set_cons_zero, List.set_cons_succ, List.length_cons, List.length_nil, if_true, if_false, Bool.not_true, Bool.not_false, Bool.false_eq_true, ↓reduceIte, Nat.reduceAdd, Nat.reduceLeDiff, Nat.reduceLT, Nat.zero_add, Option.map_some, Int.cast_ofNat_Int, Int.natCast_one, Int.natCast_zero, Int.reduceBEq, Int.reduceLT, Int.reduceLE, Int.reduceAdd, Int.reduceSub, Int.reduceMul, Int.reduceNeg, Int.reduceDiv, Int.reduceMod, decide_true, decide_false, d2, min_i, eb, h2, hk1]) ?_
    clear hk1 h2 l2
    generalize 1 + r2 = k at k1 k3 km ⊢
    obtain ⟨w, hw⟩ := wid_fun m
    have ew := widths_v m3 m30 k1 k3 km hw
    obtain ⟨W, s0, b1, b2, b3, b4, e⟩ := best_ex k1 km w
    have ewide : d_best_wide [.val (.int (m : Nat)), .val (.int (k : Nat))] = .ok (.v (.int (W : Nat))) := best_wide2_v ew e
    have eleaps : d_best_leaps [.val (.int (m : Nat)), .val (.int (k : Nat))] = .ok (.v (tN s0)) := best_leaps2_v ew e
    have eall : d_all_best [.val (.int (m : Nat)), .val (.int (k : Nat))] = .ok (.o (.lst ((dueN m k w W).map tN))) := all_best2_v ew e
    refine go_seq (Γ1 := [.val (.scr ns), .val (.int j), .val (.int c), .val (.int (m : Nat)), .val (.int (k : Nat)), .own (.lst []), s6, s7, s8, s9, s10, s11, s12, s13, s14, s15, s16]) (by simp (implicitDefEqProofs := false) (disch := omega) only [↓r_seq, ↓r_next, ↓r_if, ↓r_eif, ↓r_set, ↓r_ret, ↓r_retV, ↓r_expr, ↓r_asg, ↓r_par, ↓r_app, ↓r_ext, ↓r_sto, ↓r_or1, ↓r_or, ↓r_and1, ↓r_and, ↓r_vor1, ↓r_vor, ↓r_vand1, ↓r_vand, ↓r_not, ↓r_tru, ↓r_isB, ↓r_eC, ↓r_rd, ↓r_vl, ↓r_rV, ↓r_eV, ↓r_uV, ↓r_uVl, ↓r_sq0, ↓r_sq, ↓r_e2, ↓r_e3, ↓r_call, ↓r_user, ↓r_enot, ↓r_eneg, ↓r_tup, ↓r_lst, ↓r_sl, ↓r_noP, ↓r_aP, ↓r_iOf, ↓r_iF, ↓r_def, ↓r_ref, r_seqNx, r_seqRt, r_seqBk, r_seqCt, r_ifT, r_ifF, r_setV, r_setOt, r_setOl, r_setOd, r_setOs, r_retK, r_retVv, r_retVo, r_asgK, r_tgN, r_tgT, r_tgL, r_tgs0, r_tgs, r_parK, r_ownL, r_ownLo, r_ownD, r_ownDo, r_appK, r_appJ, r_extK, r_extJ, r_stoK, r_stoI, r_stoJ, r_stoL, r_orT, r_orF, r_andT, r_andF, r_vorK, r_vorT, r_vorF, r_vandK, r_vandT, r_vandF, r_notK, r_truK, r_truB, r_truI, r_truL, r_truT, r_truN, r_isBK, r_rdV, r_rdO, r_dV, r_dO, r_valV, r_valL, r_valD, r_rVv, r_rVo, r_rVb, r_eVv, r_uVv, r_uVo, r_uVb, r_uVlK, r_sqK, r_consK, r_opK, r_opJ, r_chK, r_chJ, r_chT, r_chF, r_clK, r_ntK, r_ngK, r_tpK, r_lsK, r_slK, r_slJ, r_slI, r_slL, r_slT, r_aPK, r_sqL, r_sqT, r_sqS, r_rtR, r_rtN, r_refO, r_refE, r_wdK, r_bAdd, r_bSub, r_bMul, r_bDiv, r_bMod, r_bPow, r_cLt, r_cLe, r_cGt, r_cGe, r_cEq, r_cNe, r_ixL, r_ixT, r_of, r_lenL, r_lenT, r_lenS, Pd.R.bind_ok, Pd.R.bind_err, Pd.R.bind_stuck, noE_ok', mul_r, div_i, mod_i, add_i, sub_i, lt_i, le_i, gt_i, ge_i, eq_i, ne_i, pow18, List.cons_append, List.nil_append, List.getElem?_cons_zero, List.getElem?_cons_succ, List.replicate_succ, List.replicate_zero, List.set_cons_zero, List.set_cons_succ, List.length_cons, List.length_nil, if_true, if_false, Bool.not_true, Bool.not_false, Bool.false_eq_true, ↓reduceIte, Nat.reduceAdd, Nat.reduceLeDiff, Nat.reduceLT, Nat.zero_add, Option.map_some, Int.cast_ofNat_Int, Int.natCast_one, Int.natCast_zero, Int.reduceBEq, Int.reduceLT, Int.reduceLE, Int.reduceAdd, Int.reduceSub, Int.reduceMul, Int.reduceNeg, Int.reduceDiv, Int.reduceMod, decide_true, decide_false]) ?_
    have la : d__law_all [.val (.int ((m / 2 : Nat) : Int)), .val (.int (k : Nat)), .val (.int 1)] = .ok (.o (.lst ((allN (m / 2) k 1).map tN))) := lall_v (r := r__law_all) (fun _ => rfl) (by omega) 4 k 1 (by omega) k3 (by omega) (by omega)
    refine go_seq' (fun Γ => ∃ s6 s13, Γ = [.val (.scr ns), .val (.int j), .val (.int c), .val (.int (m : Nat)), .val (.int (k : Nat)), .own (.lst ((gdN m k).map (wN w))), s6, s7, s8, s9, s10, s11, s12, s13, s14, s15, s16]) ?_ ?_
    · have key := go_st (fi := iF (vl (eUser d__law_all (seqR [uVal (vl (e2 (dBin .FloorDiv) (rVar 3) (rd (eC (.int 2))))), uVar 4, uVal (vl (eC (.int 1)))])))) (t := 6) (b := sSeq (sSet false 13 (eUser d__law_steps (seqR [uVal (vl (eTup (seqR [vl (eVar 3), vl (eVar 6)]))), uVal (vl (eC (.int 0)))]))) (sSeq (sIf (isB (e2 (dCmp .NotIn) (rd (eC .non)) (rVar 13))) (sSeq (sApp 5 (vl (eTup (seqR [vl (eCall fMax (seqR [rVar 13])), vl (eVar 6)])))) sNext) sNext) sNext))
        (fun pre Γ => ∃ (p : List (List Nat)) (s6 s13 : Sl), pre = p.map tN ∧ Γ = [.val (.scr ns), .val (.int j), .val (.int c), .val (.int (m : Nat)), .val (.int (k : Nat)), .own (.lst (((p).filter fun s => decide (gcdL m s = 1)).map (wN w))), s6, s7, s8, s9, s10, s11, s12, s13, s14, s15, s16]) (Γ := [.val (.scr ns), .val (.int j), .val (.int c), .val (.int (m : Nat)), .val (.int (k : Nat)), .own (.lst []), s6, s7, s8, s9, s10, s11, s12, s13, s14, s15, s16]) (ds := (allN (m / 2) k 1).map tN) (by simp (implicitDefEqProofs := false) (disch := omega) only [↓r_seq, ↓r_next, ↓r_if, ↓r_eif, ↓r_set, ↓r_ret, ↓r_retV, ↓r_expr, ↓r_asg, ↓r_par, ↓r_app, ↓r_ext, ↓r_sto, ↓r_or1, ↓r_or, ↓r_and1, ↓r_and, ↓r_vor1, ↓r_vor, ↓r_vand1, ↓r_vand, ↓r_not, ↓r_tru, ↓r_isB, ↓r_eC, ↓r_rd, ↓r_vl, ↓r_rV, ↓r_eV, ↓r_uV, ↓r_uVl, ↓r_sq0, ↓r_sq, ↓r_e2, ↓r_e3, ↓r_call, ↓r_user, ↓r_enot, ↓r_eneg, ↓r_tup, ↓r_lst, ↓r_sl, ↓r_noP, ↓r_aP, ↓r_iOf, ↓r_iF, ↓r_def, ↓r_ref, r_seqNx, r_seqRt, r_seqBk, r_seqCt, r_ifT, r_ifF, r_setV, r_setOt, r_setOl, r_setOd, r_setOs, r_retK, r_retVv, r_retVo, r_asgK, r_tgN, r_tgT, r_tgL, r_tgs0, r_tgs, r_parK, r_ownL, r_ownLo, r_ownD, r_ownDo, r_appK, r_appJ, r_extK, r_extJ, r_stoK, r_stoI, r_stoJ, r_stoL, r_orT, r_orF, r_andT, r_andF, r_vorK, r_vorT, r_vorF, r_vandK, r_vandT, r_vandF, r_notK, r_truK, r_truB, r_truI, r_truL, r_truT, r_truN, r_isBK, r_rdV, r_rdO, r_dV, r_dO, r_valV, r_valL, r_valD, r_rVv, r_rVo, r_rVb, r_eVv, r_uVv, r_uVo, r_uVb, r_uVlK, r_sqK, r_consK, r_opK, r_opJ, r_chK, r_chJ, r_chT, r_chF, r_clK, r_ntK, r_ngK, r_tpK, r_lsK, r_slK, r_slJ, r_slI, r_slL, r_slT, r_aPK, r_sqL, r_sqT, r_sqS, r_rtR, r_rtN, r_refO, r_refE, r_wdK, r_bAdd, r_bSub, r_bMul, r_bDiv, r_bMod, r_bPow, r_cLt, r_cLe, r_cGt, r_cGe, r_cEq, r_cNe, r_ixL, r_ixT, r_of, r_lenL, r_lenT, r_lenS, Pd.R.bind_ok, Pd.R.bind_err, Pd.R.bind_stuck, noE_ok', mul_r, div_i, mod_i, add_i, sub_i, lt_i, le_i, gt_i, ge_i, eq_i, ne_i, pow18, List.cons_append, List.nil_append, List.getElem?_cons_zero, List.getElem?_cons_succ, List.replicate_succ, List.replicate_zero, List.set_cons_zero, List.set_cons_succ, List.length_cons, List.length_nil, if_true, if_false, Bool.not_true, Bool.not_false, Bool.false_eq_true, ↓reduceIte, Nat.reduceAdd, Nat.reduceLeDiff, Nat.reduceLT, Nat.zero_add, Option.map_some, Int.cast_ofNat_Int, Int.natCast_one, Int.natCast_zero, Int.reduceBEq, Int.reduceLT, Int.reduceLE, Int.reduceAdd, Int.reduceSub, Int.reduceMul, Int.reduceNeg, Int.reduceDiv, Int.reduceMod, decide_true, decide_false, d2, la]) ⟨[], _, _, rfl, rfl⟩ (by
          rintro a z x Γ e ⟨p, s6, s13, rfl, rfl⟩
          obtain ⟨s, hs, rfl⟩ : ∃ s ∈ allN (m / 2) k 1, tN s = x := List.mem_map.mp (by rw [e]; exact List.mem_append_right _ (List.mem_cons_self ..))
          have R := ring_all m3 m30 k1 k3 hs
          have hpl : p.length ≤ 3375 := by
            have hl := congrArg List.length e
            rw [List.length_map, List.length_append, List.length_map] at hl
            have := all_small (M := m / 2) (k := k) (lo := 1) (by omega) (by omega) (by omega)
            omega
          have hfl : ((p.filter fun s => decide (gcdL m s = 1)).map (wN w)).length < 16777216 := by
            rw [List.length_map]
            have := List.length_filter_le (fun s => decide (gcdL m s = 1)) p
            omega
          by_cases hg : gcdL m s = 1
          · obtain ⟨G, _, el, eM⟩ := wid_steps R hg (hw s R hg)
            have el' : d__law_steps [.val (.tup [.int (m : Int), tN s]), .val (.int 0)] = .ok (.o (.lst (nD G))) := el
            have hin : dInO true .non (.lst (nD G)) = some (.v (.bl true)) := by
              have := none_fD (G.map some)
              rw [fD_some] at this
              rw [this, show (G.map some).all (fun o => o.isSome) = true from List.all_eq_true.mpr fun o ho => by obtain ⟨g, _, rfl⟩ := List.mem_map.mp ho; rfl]
            have e1 : (p ++ [s]).filter (fun s => decide (gcdL m s = 1)) = p.filter (fun s => decide (gcdL m s = 1)) ++ [s] := by
              rw [List.filter_append, List.filter_cons, if_pos (decide_eq_true hg)]
              rfl
            refine go_seq (Γ1 := [.val (.scr ns), .val (.int j), .val (.int c), .val (.int (m : Nat)), .val (.int (k : Nat)), .own (.lst (((p).filter fun s => decide (gcdL m s = 1)).map (wN w))), .val (tN s), s7, s8, s9, s10, s11, s12, .val (.lst (nD G)), s14, s15, s16]) (by simp (implicitDefEqProofs := false) (disch := omega) only [↓r_seq, ↓r_next, ↓r_if, ↓r_eif, ↓r_set, ↓r_ret, ↓r_retV, ↓r_expr, ↓r_asg, ↓r_par, ↓r_app, ↓r_ext, ↓r_sto, ↓r_or1, ↓r_or, ↓r_and1, ↓r_and, ↓r_vor1, ↓r_vor, ↓r_vand1, ↓r_vand, ↓r_not, ↓r_tru, ↓r_isB, ↓r_eC, ↓r_rd, ↓r_vl, ↓r_rV, ↓r_eV, ↓r_uV, ↓r_uVl, ↓r_sq0, ↓r_sq, ↓r_e2, ↓r_e3, ↓r_call, ↓r_user, ↓r_enot, ↓r_eneg, ↓r_tup, ↓r_lst, ↓r_sl, ↓r_noP, ↓r_aP, ↓r_iOf, ↓r_iF, ↓r_def, ↓r_ref, r_seqNx, r_seqRt, r_seqBk, r_seqCt, r_ifT, r_ifF, r_setV, r_setOt, r_setOl, r_setOd, r_setOs, r_retK, r_retVv, r_retVo, r_asgK, r_tgN, r_tgT, r_tgL, r_tgs0, r_tgs, r_parK, r_ownL, r_ownLo, r_ownD, r_ownDo, r_appK, r_appJ, r_extK, r_extJ, r_stoK, r_stoI, r_stoJ, r_stoL, r_orT, r_orF, r_andT, r_andF, r_vorK, r_vorT, r_vorF, r_vandK, r_vandT, r_vandF, r_notK, r_truK, r_truB, r_truI, r_truL, r_truT, r_truN, r_isBK, r_rdV, r_rdO, r_dV, r_dO, r_valV, r_valL, r_valD, r_rVv, r_rVo, r_rVb, r_eVv, r_uVv, r_uVo, r_uVb, r_uVlK, r_sqK, r_consK, r_opK, r_opJ, r_chK, r_chJ, r_chT, r_chF, r_clK, r_ntK, r_ngK, r_tpK, r_lsK, r_slK, r_slJ, r_slI, r_slL, r_slT, r_aPK, r_sqL, r_sqT, r_sqS, r_rtR, r_rtN, r_refO, r_refE, r_wdK, r_bAdd, r_bSub, r_bMul, r_bDiv, r_bMod, r_bPow, r_cLt, r_cLe, r_cGt, r_cGe, r_cEq, r_cNe, r_ixL, r_ixT, r_of, r_lenL, r_lenT, r_lenS, Pd.R.bind_ok, Pd.R.bind_err, Pd.R.bind_stuck, noE_ok', mul_r, div_i, mod_i, add_i, sub_i, lt_i, le_i, gt_i, ge_i, eq_i, ne_i, pow18, List.cons_append, List.nil_append, List.getElem?_cons_zero, List.getElem?_cons_succ, List.replicate_succ, List.replicate_zero, List.set_cons_zero, List.set_cons_succ, List.length_cons, List.length_nil, if_true, if_false, Bool.not_true, Bool.not_false, Bool.false_eq_true, ↓reduceIte, Nat.reduceAdd, Nat.reduceLeDiff, Nat.reduceLT, Nat.zero_add, Option.map_some, Int.cast_ofNat_Int, Int.natCast_one, Int.natCast_zero, Int.reduceBEq, Int.reduceLT, Int.reduceLE, Int.reduceAdd, Int.reduceSub, Int.reduceMul, Int.reduceNeg, Int.reduceDiv, Int.reduceMod, decide_true, decide_false, el']) ?_
            refine go_eq (Γ' := [.val (.scr ns), .val (.int j), .val (.int c), .val (.int (m : Nat)), .val (.int (k : Nat)), .own (.lst (((p ++ [s]).filter fun s => decide (gcdL m s = 1)).map (wN w))), .val (tN s), s7, s8, s9, s10, s11, s12, .val (.lst (nD G)), s14, s15, s16]) ?_ ⟨p ++ [s], _, _, by rw [List.map_append]; rfl, rfl⟩
            rw [e1, List.map_append]
            simp (implicitDefEqProofs := false) (disch := omega) only [↓r_seq, ↓r_next, ↓r_if, ↓r_eif, ↓r_set, ↓r_ret, ↓r_retV, ↓r_expr, ↓r_asg, ↓r_par, ↓r_app, ↓r_ext, ↓r_sto, ↓r_or1, ↓r_or, ↓r_and1, ↓r_and, ↓r_vor1, ↓r_vor, ↓r_vand1, ↓r_vand, ↓r_not, ↓r_tru, ↓r_isB, ↓r_eC, ↓r_rd, ↓r_vl, ↓r_rV, ↓r_eV, ↓r_uV, ↓r_uVl, ↓r_sq0, ↓r_sq, ↓r_e2, ↓r_e3, ↓r_call, ↓r_user, ↓r_enot, ↓r_eneg, ↓r_tup, ↓r_lst, ↓r_sl, ↓r_noP, ↓r_aP, ↓r_iOf, ↓r_iF, ↓r_def, ↓r_ref, r_seqNx, r_seqRt, r_seqBk, r_seqCt, r_ifT, r_ifF, r_setV, r_setOt, r_setOl, r_setOd, r_setOs, r_retK, r_retVv, r_retVo, r_asgK, r_tgN, r_tgT, r_tgL, r_tgs0, r_tgs, r_parK, r_ownL, r_ownLo, r_ownD, r_ownDo, r_appK, r_appJ, r_extK, r_extJ, r_stoK, r_stoI, r_stoJ, r_stoL, r_orT, r_orF, r_andT, r_andF, r_vorK, r_vorT, r_vorF, r_vandK, r_vandT, r_vandF, r_notK, r_truK, r_truB, r_truI, r_truL, r_truT, r_truN, r_isBK, r_rdV, r_rdO, r_dV, r_dO, r_valV, r_valL, r_valD, r_rVv, r_rVo, r_rVb, r_eVv, r_uVv, r_uVo, r_uVb, r_uVlK, r_sqK, r_consK, r_opK, r_opJ, r_chK, r_chJ, r_chT, r_chF, r_clK, r_ntK, r_ngK, r_tpK, r_lsK, r_slK, r_slJ, r_slI, r_slL, r_slT, r_aPK, r_sqL, r_sqT, r_sqS, r_rtR, r_rtN, r_refO, r_refE, r_wdK, r_bAdd, r_bSub, r_bMul, r_bDiv, r_bMod, r_bPow, r_cLt, r_cLe, r_cGt, r_cGe, r_cEq, r_cNe, r_ixL, r_ixT, r_of, r_lenL, r_lenT, r_lenS, Pd.R.bind_ok, Pd.R.bind_err, Pd.R.bind_stuck, noE_ok', mul_r, div_i, mod_i, add_i, sub_i, lt_i, le_i, gt_i, ge_i, eq_i, ne_i, pow18, List.cons_append, List.nil_append, List.getElem?_cons_zero, List.getElem?_cons_succ, List.replicate_succ, List.replicate_zero, List.set_cons_zero, List.set_cons_succ, List.length_cons, List.length_nil, if_true, if_false, Bool.not_true, Bool.not_false, Bool.false_eq_true, ↓reduceIte, Nat.reduceAdd, Nat.reduceLeDiff, Nat.reduceLT, Nat.zero_add, Option.map_some, Int.cast_ofNat_Int, Int.natCast_one, Int.natCast_zero, Int.reduceBEq, Int.reduceLT, Int.reduceLE, Int.reduceAdd, Int.reduceSub, Int.reduceMul, Int.reduceNeg, Int.reduceDiv, Int.reduceMod, decide_true, decide_false, r_cNi, hin, eM, r_appJ hfl]
            rfl
          · obtain ⟨F, hF, el⟩ := lsteps_d R (p := 0) (by omega)
            have el' : d__law_steps [.val (.tup [.int (m : Int), tN s]), .val (.int 0)] = .ok (.o (.lst (fD F))) := el
            have hin := none_fD F
            rw [all_isSome_whole R hF, decide_eq_false hg] at hin
            have e1 : (p ++ [s]).filter (fun s => decide (gcdL m s = 1)) = p.filter (fun s => decide (gcdL m s = 1)) := by
              rw [List.filter_append, List.filter_cons, if_neg (by rw [decide_eq_true_eq]; exact hg)]
              exact List.append_nil _
            refine go_seq (Γ1 := [.val (.scr ns), .val (.int j), .val (.int c), .val (.int (m : Nat)), .val (.int (k : Nat)), .own (.lst (((p).filter fun s => decide (gcdL m s = 1)).map (wN w))), .val (tN s), s7, s8, s9, s10, s11, s12, .val (.lst (fD F)), s14, s15, s16]) (by simp (implicitDefEqProofs := false) (disch := omega) only [↓r_seq, ↓r_next, ↓r_if, ↓r_eif, ↓r_set, ↓r_ret, ↓r_retV, ↓r_expr, ↓r_asg, ↓r_par, ↓r_app, ↓r_ext, ↓r_sto, ↓r_or1, ↓r_or, ↓r_and1, ↓r_and, ↓r_vor1, ↓r_vor, ↓r_vand1, ↓r_vand, ↓r_not, ↓r_tru, ↓r_isB, ↓r_eC, ↓r_rd, ↓r_vl, ↓r_rV, ↓r_eV, ↓r_uV, ↓r_uVl, ↓r_sq0, ↓r_sq, ↓r_e2, ↓r_e3, ↓r_call, ↓r_user, ↓r_enot, ↓r_eneg, ↓r_tup, ↓r_lst, ↓r_sl, ↓r_noP, ↓r_aP, ↓r_iOf, ↓r_iF, ↓r_def, ↓r_ref, r_seqNx, r_seqRt, r_seqBk, r_seqCt, r_ifT, r_ifF, r_setV, r_setOt, r_setOl, r_setOd, r_setOs, r_retK, r_retVv, r_retVo, r_asgK, r_tgN, r_tgT, r_tgL, r_tgs0, r_tgs, r_parK, r_ownL, r_ownLo, r_ownD, r_ownDo, r_appK, r_appJ, r_extK, r_extJ, r_stoK, r_stoI, r_stoJ, r_stoL, r_orT, r_orF, r_andT, r_andF, r_vorK, r_vorT, r_vorF, r_vandK, r_vandT, r_vandF, r_notK, r_truK, r_truB, r_truI, r_truL, r_truT, r_truN, r_isBK, r_rdV, r_rdO, r_dV, r_dO, r_valV, r_valL, r_valD, r_rVv, r_rVo, r_rVb, r_eVv, r_uVv, r_uVo, r_uVb, r_uVlK, r_sqK, r_consK, r_opK, r_opJ, r_chK, r_chJ, r_chT, r_chF, r_clK, r_ntK, r_ngK, r_tpK, r_lsK, r_slK, r_slJ, r_slI, r_slL, r_slT, r_aPK, r_sqL, r_sqT, r_sqS, r_rtR, r_rtN, r_refO, r_refE, r_wdK, r_bAdd, r_bSub, r_bMul, r_bDiv, r_bMod, r_bPow, r_cLt, r_cLe, r_cGt, r_cGe, r_cEq, r_cNe, r_ixL, r_ixT, r_of, r_lenL, r_lenT, r_lenS, Pd.R.bind_ok, Pd.R.bind_err, Pd.R.bind_stuck, noE_ok', mul_r, div_i, mod_i, add_i, sub_i, lt_i, le_i, gt_i, ge_i, eq_i, ne_i, pow18, List.cons_append, List.nil_append, List.getElem?_cons_zero, List.getElem?_cons_succ, List.replicate_succ, List.replicate_zero, List.set_cons_zero, List.set_cons_succ, List.length_cons, List.length_nil, if_true, if_false, Bool.not_true, Bool.not_false, Bool.false_eq_true, ↓reduceIte, Nat.reduceAdd, Nat.reduceLeDiff, Nat.reduceLT, Nat.zero_add, Option.map_some, Int.cast_ofNat_Int, Int.natCast_one, Int.natCast_zero, Int.reduceBEq, Int.reduceLT, Int.reduceLE, Int.reduceAdd, Int.reduceSub, Int.reduceMul, Int.reduceNeg, Int.reduceDiv, Int.reduceMod, decide_true, decide_false, el']) ?_
            refine go_eq (Γ' := [.val (.scr ns), .val (.int j), .val (.int c), .val (.int (m : Nat)), .val (.int (k : Nat)), .own (.lst (((p ++ [s]).filter fun s => decide (gcdL m s = 1)).map (wN w))), .val (tN s), s7, s8, s9, s10, s11, s12, .val (.lst (fD F)), s14, s15, s16]) ?_ ⟨p ++ [s], _, _, by rw [List.map_append]; rfl, rfl⟩
            rw [e1]
            simp (implicitDefEqProofs := false) (disch := omega) only [↓r_seq, ↓r_next, ↓r_if, ↓r_eif, ↓r_set, ↓r_ret, ↓r_retV, ↓r_expr, ↓r_asg, ↓r_par, ↓r_app, ↓r_ext, ↓r_sto, ↓r_or1, ↓r_or, ↓r_and1, ↓r_and, ↓r_vor1, ↓r_vor, ↓r_vand1, ↓r_vand, ↓r_not, ↓r_tru, ↓r_isB, ↓r_eC, ↓r_rd, ↓r_vl, ↓r_rV, ↓r_eV, ↓r_uV, ↓r_uVl, ↓r_sq0, ↓r_sq, ↓r_e2, ↓r_e3, ↓r_call, ↓r_user, ↓r_enot, ↓r_eneg, ↓r_tup, ↓r_lst, ↓r_sl, ↓r_noP, ↓r_aP, ↓r_iOf, ↓r_iF, ↓r_def, ↓r_ref, r_seqNx, r_seqRt, r_seqBk, r_seqCt, r_ifT, r_ifF, r_setV, r_setOt, r_setOl, r_setOd, r_setOs, r_retK, r_retVv, r_retVo, r_asgK, r_tgN, r_tgT, r_tgL, r_tgs0, r_tgs, r_parK, r_ownL, r_ownLo, r_ownD, r_ownDo, r_appK, r_appJ, r_extK, r_extJ, r_stoK, r_stoI, r_stoJ, r_stoL, r_orT, r_orF, r_andT, r_andF, r_vorK, r_vorT, r_vorF, r_vandK, r_vandT, r_vandF, r_notK, r_truK, r_truB, r_truI, r_truL, r_truT, r_truN, r_isBK, r_rdV, r_rdO, r_dV, r_dO, r_valV, r_valL, r_valD, r_rVv, r_rVo, r_rVb, r_eVv, r_uVv, r_uVo, r_uVb, r_uVlK, r_sqK, r_consK, r_opK, r_opJ, r_chK, r_chJ, r_chT, r_chF, r_clK, r_ntK, r_ngK, r_tpK, r_lsK, r_slK, r_slJ, r_slI, r_slL, r_slT, r_aPK, r_sqL, r_sqT, r_sqS, r_rtR, r_rtN, r_refO, r_refE, r_wdK, r_bAdd, r_bSub, r_bMul, r_bDiv, r_bMod, r_bPow, r_cLt, r_cLe, r_cGt, r_cGe, r_cEq, r_cNe, r_ixL, r_ixT, r_of, r_lenL, r_lenT, r_lenS, Pd.R.bind_ok, Pd.R.bind_err, Pd.R.bind_stuck, noE_ok', mul_r, div_i, mod_i, add_i, sub_i, lt_i, le_i, gt_i, ge_i, eq_i, ne_i, pow18, List.cons_append, List.nil_append, List.getElem?_cons_zero, List.getElem?_cons_succ, List.replicate_succ, List.replicate_zero, List.set_cons_zero, List.set_cons_succ, List.length_cons, List.length_nil, if_true, if_false, Bool.not_true, Bool.not_false, Bool.false_eq_true, ↓reduceIte, Nat.reduceAdd, Nat.reduceLeDiff, Nat.reduceLT, Nat.zero_add, Option.map_some, Int.cast_ofNat_Int, Int.natCast_one, Int.natCast_zero, Int.reduceBEq, Int.reduceLT, Int.reduceLE, Int.reduceAdd, Int.reduceSub, Int.reduceMul, Int.reduceNeg, Int.reduceDiv, Int.reduceMod, decide_true, decide_false, r_cNi, hin])
      exact go_mono key fun Γ ⟨p, s6, s13, e, h⟩ => by
        obtain rfl : p = allN (m / 2) k 1 := ((List.map_inj_right fun _ _ h => tN_inj h).mp e).symm
        exact ⟨s6, s13, h⟩
    rintro Γ ⟨s6, s13, rfl⟩
    have i0 : dIx (.tup [.int (W : Nat), tN s0]) (.int 0) = some (.v (.int (W : Nat))) := rfl
    refine go_seq (Γ1 := [.val (.scr ns), .val (.int j), .val (.int c), .val (.int (m : Nat)), .val (.int (k : Nat)), .own (.lst ((gdN m k).map (wN w))), s6, .val (.int (W : Nat)), s8, s9, s10, s11, s12, s13, s14, s15, s16]) (by simp (implicitDefEqProofs := false) (disch := omega) only [↓r_seq, ↓r_next, ↓r_if, ↓r_eif, ↓r_set, ↓r_ret, ↓r_retV, ↓r_expr, ↓r_asg, ↓r_par, ↓r_app, ↓r_ext, ↓r_sto, ↓r_or1, ↓r_or, ↓r_and1, ↓r_and, ↓r_vor1, ↓r_vor, ↓r_vand1, ↓r_vand, ↓r_not, ↓r_tru, ↓r_isB, ↓r_eC, ↓r_rd, ↓r_vl, ↓r_rV, ↓r_eV, ↓r_uV, ↓r_uVl, ↓r_sq0, ↓r_sq, ↓r_e2, ↓r_e3, ↓r_call, ↓r_user, ↓r_enot, ↓r_eneg, ↓r_tup, ↓r_lst, ↓r_sl, ↓r_noP, ↓r_aP, ↓r_iOf, ↓r_iF, ↓r_def, ↓r_ref, r_seqNx, r_seqRt, r_seqBk, r_seqCt, r_ifT, r_ifF, r_setV, r_setOt, r_setOl, r_setOd, r_setOs, r_retK, r_retVv, r_retVo, r_asgK, r_tgN, r_tgT, r_tgL, r_tgs0, r_tgs, r_parK, r_ownL, r_ownLo, r_ownD, r_ownDo, r_appK, r_appJ, r_extK, r_extJ, r_stoK, r_stoI, r_stoJ, r_stoL, r_orT, r_orF, r_andT, r_andF, r_vorK, r_vorT, r_vorF, r_vandK, r_vandT, r_vandF, r_notK, r_truK, r_truB, r_truI, r_truL, r_truT, r_truN, r_isBK, r_rdV, r_rdO, r_dV, r_dO, r_valV, r_valL, r_valD, r_rVv, r_rVo, r_rVb, r_eVv, r_uVv, r_uVo, r_uVb, r_uVlK, r_sqK, r_consK, r_opK, r_opJ, r_chK, r_chJ, r_chT, r_chF, r_clK, r_ntK, r_ngK, r_tpK, r_lsK, r_slK, r_slJ, r_slI, r_slL, r_slT, r_aPK, r_sqL, r_sqT, r_sqS, r_rtR, r_rtN, r_refO, r_refE, r_wdK, r_bAdd, r_bSub, r_bMul, r_bDiv, r_bMod, r_bPow, r_cLt, r_cLe, r_cGt, r_cGe, r_cEq, r_cNe, r_ixL, r_ixT, r_of, r_lenL, r_lenT, r_lenS, Pd.R.bind_ok, Pd.R.bind_err, Pd.R.bind_stuck, noE_ok', mul_r, div_i, mod_i, add_i, sub_i, lt_i, le_i, gt_i, ge_i, eq_i, ne_i, pow18, List.cons_append, List.nil_append, List.getElem?_cons_zero, List.getElem?_cons_succ, List.replicate_succ, List.replicate_zero, List.set_cons_zero, List.set_cons_succ, List.length_cons, List.length_nil, if_true, if_false, Bool.not_true, Bool.not_false, Bool.false_eq_true, ↓reduceIte, Nat.reduceAdd, Nat.reduceLeDiff, Nat.reduceLT, Nat.zero_add, Option.map_some, Int.cast_ofNat_Int, Int.natCast_one, Int.natCast_zero, Int.reduceBEq, Int.reduceLT, Int.reduceLE, Int.reduceAdd, Int.reduceSub, Int.reduceMul, Int.reduceNeg, Int.reduceDiv, Int.reduceMod, decide_true, decide_false, e, i0]) ?_
    obtain ⟨DL, hDL⟩ : ∃ DL, dueN m k w W = DL := ⟨_, rfl⟩
    have hlen : DL.length ≤ 3375 := by
      rw [← hDL]
      unfold dueN gdN
      have h1 := List.length_filter_le (fun s => decide (w s = W)) ((allN (m / 2) k 1).filter fun s => decide (gcdL m s = 1))
      have h2 := List.length_filter_le (fun s => decide (gcdL m s = 1)) (allN (m / 2) k 1)
      have := all_small (M := m / 2) (k := k) (lo := 1) (by omega) (by omega) (by omega)
      omega
    have el := lc_tg (fi := iF (rVar 5)) (t := .tp [.nm 15, .nm 6]) (tt := isB (e2 (dCmp .Eq) (rVar 15) (rVar 7))) (te := vl (eVar 6)) (vs := [15, 6]) (Γ := [.val (.scr ns), .val (.int j), .val (.int c), .val (.int (m : Nat)), .val (.int (k : Nat)), .own (.lst ((gdN m k).map (wN w))), s6, .val (.int (W : Nat)), s8, s9, s10, s11, s12, s13, s14, s15, s16]) (l := gdN m k) (φ := wN w) (fun s => decide (w s = W)) tN (by simp (implicitDefEqProofs := false) (disch := omega) only [↓r_seq, ↓r_next, ↓r_if, ↓r_eif, ↓r_set, ↓r_ret, ↓r_retV, ↓r_expr, ↓r_asg, ↓r_par, ↓r_app, ↓r_ext, ↓r_sto, ↓r_or1, ↓r_or, ↓r_and1, ↓r_and, ↓r_vor1, ↓r_vor, ↓r_vand1, ↓r_vand, ↓r_not, ↓r_tru, ↓r_isB, ↓r_eC, ↓r_rd, ↓r_vl, ↓r_rV, ↓r_eV, ↓r_uV, ↓r_uVl, ↓r_sq0, ↓r_sq, ↓r_e2, ↓r_e3, ↓r_call, ↓r_user, ↓r_enot, ↓r_eneg, ↓r_tup, ↓r_lst, ↓r_sl, ↓r_noP, ↓r_aP, ↓r_iOf, ↓r_iF, ↓r_def, ↓r_ref, r_seqNx, r_seqRt, r_seqBk, r_seqCt, r_ifT, r_ifF, r_setV, r_setOt, r_setOl, r_setOd, r_setOs, r_retK, r_retVv, r_retVo, r_asgK, r_tgN, r_tgT, r_tgL, r_tgs0, r_tgs, r_parK, r_ownL, r_ownLo, r_ownD, r_ownDo, r_appK, r_appJ, r_extK, r_extJ, r_stoK, r_stoI, r_stoJ, r_stoL, r_orT, r_orF, r_andT, r_andF, r_vorK, r_vorT, r_vorF, r_vandK, r_vandT, r_vandF, r_notK, r_truK, r_truB, r_truI, r_truL, r_truT, r_truN, r_isBK, r_rdV, r_rdO, r_dV, r_dO, r_valV, r_valL, r_valD, r_rVv, r_rVo, r_rVb, r_eVv, r_uVv, r_uVo, r_uVb, r_uVlK, r_sqK, r_consK, r_opK, r_opJ, r_chK, r_chJ, r_chT, r_chF, r_clK, r_ntK, r_ngK, r_tpK, r_lsK, r_slK, r_slJ, r_slI, r_slL, r_slT, r_aPK, r_sqL, r_sqT, r_sqS, r_rtR, r_rtN, r_refO, r_refE, r_wdK, r_bAdd, r_bSub, r_bMul, r_bDiv, r_bMod, r_bPow, r_cLt, r_cLe, r_cGt, r_cGe, r_cEq, r_cNe, r_ixL, r_ixT, r_of, r_lenL, r_lenT, r_lenS, Pd.R.bind_ok, Pd.R.bind_err, Pd.R.bind_stuck, noE_ok', mul_r, div_i, mod_i, add_i, sub_i, lt_i, le_i, gt_i, ge_i, eq_i, ne_i, pow18, List.cons_append, List.nil_append, List.getElem?_cons_zero, List.getElem?_cons_succ, List.replicate_succ, List.replicate_zero, List.set_cons_zero, List.set_cons_succ, List.length_cons, List.length_nil, if_true, if_false, Bool.not_true, Bool.not_false, Bool.false_eq_true, ↓reduceIte, Nat.reduceAdd, Nat.reduceLeDiff, Nat.reduceLT, Nat.zero_add, Option.map_some, Int.cast_ofNat_Int, Int.natCast_one, Int.natCast_zero, Int.reduceBEq, Int.reduceLT, Int.reduceLE, Int.reduceAdd, Int.reduceSub, Int.reduceMul, Int.reduceNeg, Int.reduceDiv, Int.reduceMod, decide_true, decide_false]) (fun s _ => by
      refine ⟨[.val (.scr ns), .val (.int j), .val (.int c), .val (.int (m : Nat)), .val (.int (k : Nat)), .own (.lst ((gdN m k).map (wN w))), .val (tN s), .val (.int (W : Nat)), s8, s9, s10, s11, s12, s13, s14, .val (.int (w s : Nat)), s16], rfl, ?_, fun _ => by simp (implicitDefEqProofs := false) (disch := omega) only [↓r_seq, ↓r_next, ↓r_if, ↓r_eif, ↓r_set, ↓r_ret, ↓r_retV, ↓r_expr, ↓r_asg, ↓r_par, ↓r_app, ↓r_ext, ↓r_sto, ↓r_or1, ↓r_or, ↓r_and1, ↓r_and, ↓r_vor1, ↓r_vor, ↓r_vand1, ↓r_vand, ↓r_not, ↓r_tru, ↓r_isB, ↓r_eC, ↓r_rd, ↓r_vl, ↓r_rV, ↓r_eV, ↓r_uV, ↓r_uVl, ↓r_sq0, ↓r_sq, ↓r_e2, ↓r_e3, ↓r_call, ↓r_user, ↓r_enot, ↓r_eneg, ↓r_tup, ↓r_lst, ↓r_sl, ↓r_noP, ↓r_aP, ↓r_iOf, ↓r_iF, ↓r_def, ↓r_ref, r_seqNx, r_seqRt, r_seqBk, r_seqCt, r_ifT, r_ifF, r_setV, r_setOt, r_setOl, r_setOd, r_setOs, r_retK, r_retVv, r_retVo, r_asgK, r_tgN, r_tgT, r_tgL, r_tgs0, r_tgs, r_parK, r_ownL, r_ownLo, r_ownD, r_ownDo, r_appK, r_appJ, r_extK, r_extJ, r_stoK, r_stoI, r_stoJ, r_stoL, r_orT, r_orF, r_andT, r_andF, r_vorK, r_vorT, r_vorF, r_vandK, r_vandT, r_vandF, r_notK, r_truK, r_truB, r_truI, r_truL, r_truT, r_truN, r_isBK, r_rdV, r_rdO, r_dV, r_dO, r_valV, r_valL, r_valD, r_rVv, r_rVo, r_rVb, r_eVv, r_uVv, r_uVo, r_uVb, r_uVlK, r_sqK, r_consK, r_opK, r_opJ, r_chK, r_chJ, r_chT, r_chF, r_clK, r_ntK, r_ngK, r_tpK, r_lsK, r_slK, r_slJ, r_slI, r_slL, r_slT, r_aPK, r_sqL, r_sqT, r_sqS, r_rtR, r_rtN, r_refO, r_refE, r_wdK, r_bAdd, r_bSub, r_bMul, r_bDiv, r_bMod, r_bPow, r_cLt, r_cLe, r_cGt, r_cGe, r_cEq, r_cNe, r_ixL, r_ixT, r_of, r_lenL, r_lenT, r_lenS, Pd.R.bind_ok, Pd.R.bind_err, Pd.R.bind_stuck, noE_ok', mul_r, div_i, mod_i, add_i, sub_i, lt_i, le_i, gt_i, ge_i, eq_i, ne_i, pow18, List.cons_append, List.nil_append, List.getElem?_cons_zero, List.getElem?_cons_succ, List.replicate_succ, List.replicate_zero, List.set_cons_zero, List.set_cons_succ, List.length_cons, List.length_nil, if_true, if_false, Bool.not_true, Bool.not_false, Bool.false_eq_true, ↓reduceIte, Nat.reduceAdd, Nat.reduceLeDiff, Nat.reduceLT, Nat.zero_add, Option.map_some, Int.cast_ofNat_Int, Int.natCast_one, Int.natCast_zero, Int.reduceBEq, Int.reduceLT, Int.reduceLE, Int.reduceAdd, Int.reduceSub, Int.reduceMul, Int.reduceNeg, Int.reduceDiv, Int.reduceMod, decide_true, decide_false]⟩
      have : ((w s : Int) == (W : Int)) = decide (w s = W) := by
        rw [Bool.eq_iff_iff, beq_iff_eq, decide_eq_true_eq]
        omega
      simp (implicitDefEqProofs := false) (disch := omega) only [↓r_seq, ↓r_next, ↓r_if, ↓r_eif, ↓r_set, ↓r_ret, ↓r_retV, ↓r_expr, ↓r_asg, ↓r_par, ↓r_app, ↓r_ext, ↓r_sto, ↓r_or1, ↓r_or, ↓r_and1, ↓r_and, ↓r_vor1, ↓r_vor, ↓r_vand1, ↓r_vand, ↓r_not, ↓r_tru, ↓r_isB, ↓r_eC, ↓r_rd, ↓r_vl, ↓r_rV, ↓r_eV, ↓r_uV, ↓r_uVl, ↓r_sq0, ↓r_sq, ↓r_e2, ↓r_e3, ↓r_call, ↓r_user, ↓r_enot, ↓r_eneg, ↓r_tup, ↓r_lst, ↓r_sl, ↓r_noP, ↓r_aP, ↓r_iOf, ↓r_iF, ↓r_def, ↓r_ref, r_seqNx, r_seqRt, r_seqBk, r_seqCt, r_ifT, r_ifF, r_setV, r_setOt, r_setOl, r_setOd, r_setOs, r_retK, r_retVv, r_retVo, r_asgK, r_tgN, r_tgT, r_tgL, r_tgs0, r_tgs, r_parK, r_ownL, r_ownLo, r_ownD, r_ownDo, r_appK, r_appJ, r_extK, r_extJ, r_stoK, r_stoI, r_stoJ, r_stoL, r_orT, r_orF, r_andT, r_andF, r_vorK, r_vorT, r_vorF, r_vandK, r_vandT, r_vandF, r_notK, r_truK, r_truB, r_truI, r_truL, r_truT, r_truN, r_isBK, r_rdV, r_rdO, r_dV, r_dO, r_valV, r_valL, r_valD, r_rVv, r_rVo, r_rVb, r_eVv, r_uVv, r_uVo, r_uVb, r_uVlK, r_sqK, r_consK, r_opK, r_opJ, r_chK, r_chJ, r_chT, r_chF, r_clK, r_ntK, r_ngK, r_tpK, r_lsK, r_slK, r_slJ, r_slI, r_slL, r_slT, r_aPK, r_sqL, r_sqT, r_sqS, r_rtR, r_rtN, r_refO, r_refE, r_wdK, r_bAdd, r_bSub, r_bMul, r_bDiv, r_bMod, r_bPow, r_cLt, r_cLe, r_cGt, r_cGe, r_cEq, r_cNe, r_ixL, r_ixT, r_of, r_lenL, r_lenT, r_lenS, Pd.R.bind_ok, Pd.R.bind_err, Pd.R.bind_stuck, noE_ok', mul_r, div_i, mod_i, add_i, sub_i, lt_i, le_i, gt_i, ge_i, eq_i, ne_i, pow18, List.cons_append, List.nil_append, List.getElem?_cons_zero, List.getElem?_cons_succ, List.replicate_succ, List.replicate_zero, List.set_cons_zero, List.set_cons_succ, List.length_cons, List.length_nil, if_true, if_false, Bool.not_true, Bool.not_false, Bool.false_eq_true, ↓reduceIte, Nat.reduceAdd, Nat.reduceLeDiff, Nat.reduceLT, Nat.zero_add, Option.map_some, Int.cast_ofNat_Int, Int.natCast_one, Int.natCast_zero, Int.reduceBEq, Int.reduceLT, Int.reduceLE, Int.reduceAdd, Int.reduceSub, Int.reduceMul, Int.reduceNeg, Int.reduceDiv, Int.reduceMod, decide_true, decide_false, this])
    have hDL' : ((gdN m k).filter fun s => decide (w s = W)) = DL := hDL
    rw [hDL'] at el
    rw [hDL] at eall b4
    refine go_seq (Γ1 := [.val (.scr ns), .val (.int j), .val (.int c), .val (.int (m : Nat)), .val (.int (k : Nat)), .own (.lst ((gdN m k).map (wN w))), s6, .val (.int (W : Nat)), .val (.lst (DL.map tN)), s9, s10, s11, s12, s13, s14, s15, s16]) (by simp (implicitDefEqProofs := false) (disch := omega) only [↓r_seq, ↓r_next, ↓r_if, ↓r_eif, ↓r_set, ↓r_ret, ↓r_retV, ↓r_expr, ↓r_asg, ↓r_par, ↓r_app, ↓r_ext, ↓r_sto, ↓r_or1, ↓r_or, ↓r_and1, ↓r_and, ↓r_vor1, ↓r_vor, ↓r_vand1, ↓r_vand, ↓r_not, ↓r_tru, ↓r_isB, ↓r_eC, ↓r_rd, ↓r_vl, ↓r_rV, ↓r_eV, ↓r_uV, ↓r_uVl, ↓r_sq0, ↓r_sq, ↓r_e2, ↓r_e3, ↓r_call, ↓r_user, ↓r_enot, ↓r_eneg, ↓r_tup, ↓r_lst, ↓r_sl, ↓r_noP, ↓r_aP, ↓r_iOf, ↓r_iF, ↓r_def, ↓r_ref, r_seqNx, r_seqRt, r_seqBk, r_seqCt, r_ifT, r_ifF, r_setV, r_setOt, r_setOl, r_setOd, r_setOs, r_retK, r_retVv, r_retVo, r_asgK, r_tgN, r_tgT, r_tgL, r_tgs0, r_tgs, r_parK, r_ownL, r_ownLo, r_ownD, r_ownDo, r_appK, r_appJ, r_extK, r_extJ, r_stoK, r_stoI, r_stoJ, r_stoL, r_orT, r_orF, r_andT, r_andF, r_vorK, r_vorT, r_vorF, r_vandK, r_vandT, r_vandF, r_notK, r_truK, r_truB, r_truI, r_truL, r_truT, r_truN, r_isBK, r_rdV, r_rdO, r_dV, r_dO, r_valV, r_valL, r_valD, r_rVv, r_rVo, r_rVb, r_eVv, r_uVv, r_uVo, r_uVb, r_uVlK, r_sqK, r_consK, r_opK, r_opJ, r_chK, r_chJ, r_chT, r_chF, r_clK, r_ntK, r_ngK, r_tpK, r_lsK, r_slK, r_slJ, r_slI, r_slL, r_slT, r_aPK, r_sqL, r_sqT, r_sqS, r_rtR, r_rtN, r_refO, r_refE, r_wdK, r_bAdd, r_bSub, r_bMul, r_bDiv, r_bMod, r_bPow, r_cLt, r_cLe, r_cGt, r_cGe, r_cEq, r_cNe, r_ixL, r_ixT, r_of, r_lenL, r_lenT, r_lenS, Pd.R.bind_ok, Pd.R.bind_err, Pd.R.bind_stuck, noE_ok', mul_r, div_i, mod_i, add_i, sub_i, lt_i, le_i, gt_i, ge_i, eq_i, ne_i, pow18, List.cons_append, List.nil_append, List.getElem?_cons_zero, List.getElem?_cons_succ, List.replicate_succ, List.replicate_zero, List.set_cons_zero, List.set_cons_succ, List.length_cons, List.length_nil, if_true, if_false, Bool.not_true, Bool.not_false, Bool.false_eq_true, ↓reduceIte, Nat.reduceAdd, Nat.reduceLeDiff, Nat.reduceLT, Nat.zero_add, Option.map_some, Int.cast_ofNat_Int, Int.natCast_one, Int.natCast_zero, Int.reduceBEq, Int.reduceLT, Int.reduceLE, Int.reduceAdd, Int.reduceSub, Int.reduceMul, Int.reduceNeg, Int.reduceDiv, Int.reduceMod, decide_true, decide_false, el]) ?_
    obtain ⟨lay1, lay2⟩ := lay_Z (DL.map zN)
    have eDL : (DL.map zN).map tupZ = DL.map tN := by
      rw [List.map_map]
      exact List.map_congr_left fun s _ => (tN_Z s).symm
    rw [eDL] at lay1 lay2
    have hsame := ne_same lay1 lay2
    have hap : (DL.map tN).length < 16777216 := by rw [List.length_map]; omega
    refine go_seq' (fun Γ => ∃ s9 s14 s16, Γ = [.val (.scr ns), .val (.int j), .val (.int c), .val (.int (m : Nat)), .val (.int (k : Nat)), .own (.lst ((gdN m k).map (wN w))), s6, .val (.int (W : Nat)), .val (.lst (DL.map tN)), s9, s10, s11, s12, s13, s14, s15, s16]) (go_for (ds := nD (List.range 2)) ?_ ⟨_, _, _, rfl⟩ ?_) ?_
    · have := rng1 (n := 2) (by omega)
      rw [Int.cast_ofNat_Int] at this
      simp (implicitDefEqProofs := false) (disch := omega) only [↓r_seq, ↓r_next, ↓r_if, ↓r_eif, ↓r_set, ↓r_ret, ↓r_retV, ↓r_expr, ↓r_asg, ↓r_par, ↓r_app, ↓r_ext, ↓r_sto, ↓r_or1, ↓r_or, ↓r_and1, ↓r_and, ↓r_vor1, ↓r_vor, ↓r_vand1, ↓r_vand, ↓r_not, ↓r_tru, ↓r_isB, ↓r_eC, ↓r_rd, ↓r_vl, ↓r_rV, ↓r_eV, ↓r_uV, ↓r_uVl, ↓r_sq0, ↓r_sq, ↓r_e2, ↓r_e3, ↓r_call, ↓r_user, ↓r_enot, ↓r_eneg, ↓r_tup, ↓r_lst, ↓r_sl, ↓r_noP, ↓r_aP, ↓r_iOf, ↓r_iF, ↓r_def, ↓r_ref, r_seqNx, r_seqRt, r_seqBk, r_seqCt, r_ifT, r_ifF, r_setV, r_setOt, r_setOl, r_setOd, r_setOs, r_retK, r_retVv, r_retVo, r_asgK, r_tgN, r_tgT, r_tgL, r_tgs0, r_tgs, r_parK, r_ownL, r_ownLo, r_ownD, r_ownDo, r_appK, r_appJ, r_extK, r_extJ, r_stoK, r_stoI, r_stoJ, r_stoL, r_orT, r_orF, r_andT, r_andF, r_vorK, r_vorT, r_vorF, r_vandK, r_vandT, r_vandF, r_notK, r_truK, r_truB, r_truI, r_truL, r_truT, r_truN, r_isBK, r_rdV, r_rdO, r_dV, r_dO, r_valV, r_valL, r_valD, r_rVv, r_rVo, r_rVb, r_eVv, r_uVv, r_uVo, r_uVb, r_uVlK, r_sqK, r_consK, r_opK, r_opJ, r_chK, r_chJ, r_chT, r_chF, r_clK, r_ntK, r_ngK, r_tpK, r_lsK, r_slK, r_slJ, r_slI, r_slL, r_slT, r_aPK, r_sqL, r_sqT, r_sqS, r_rtR, r_rtN, r_refO, r_refE, r_wdK, r_bAdd, r_bSub, r_bMul, r_bDiv, r_bMod, r_bPow, r_cLt, r_cLe, r_cGt, r_cGe, r_cEq, r_cNe, r_ixL, r_ixT, r_of, r_lenL, r_lenT, r_lenS, Pd.R.bind_ok, Pd.R.bind_err, Pd.R.bind_stuck, noE_ok', mul_r, div_i, mod_i, add_i, sub_i, lt_i, le_i, gt_i, ge_i, eq_i, ne_i, pow18, List.cons_append, List.nil_append, List.getElem?_cons_zero, List.getElem?_cons_succ, List.replicate_succ, List.replicate_zero, List.set_cons_zero, List.set_cons_succ, List.length_cons, List.length_nil, if_true, if_false, Bool.not_true, Bool.not_false, Bool.false_eq_true, ↓reduceIte, Nat.reduceAdd, Nat.reduceLeDiff, Nat.reduceLT, Nat.zero_add, Option.map_some, Int.cast_ofNat_Int, Int.natCast_one, Int.natCast_zero, Int.reduceBEq, Int.reduceLT, Int.reduceLE, Int.reduceAdd, Int.reduceSub, Int.reduceMul, Int.reduceNeg, Int.reduceDiv, Int.reduceMod, decide_true, decide_false, this]
    · rintro Γ d' _ ⟨s9, s14, s16, rfl⟩
      refine go_seq (Γ1 := [.val (.scr ns), .val (.int j), .val (.int c), .val (.int (m : Nat)), .val (.int (k : Nat)), .own (.lst ((gdN m k).map (wN w))), s6, .val (.int (W : Nat)), .val (.lst (DL.map tN)), .val d', s10, s11, s12, s13, .own (.lst (DL.map tN)), s15, s16]) (by simp (implicitDefEqProofs := false) (disch := omega) only [↓r_seq, ↓r_next, ↓r_if, ↓r_eif, ↓r_set, ↓r_ret, ↓r_retV, ↓r_expr, ↓r_asg, ↓r_par, ↓r_app, ↓r_ext, ↓r_sto, ↓r_or1, ↓r_or, ↓r_and1, ↓r_and, ↓r_vor1, ↓r_vor, ↓r_vand1, ↓r_vand, ↓r_not, ↓r_tru, ↓r_isB, ↓r_eC, ↓r_rd, ↓r_vl, ↓r_rV, ↓r_eV, ↓r_uV, ↓r_uVl, ↓r_sq0, ↓r_sq, ↓r_e2, ↓r_e3, ↓r_call, ↓r_user, ↓r_enot, ↓r_eneg, ↓r_tup, ↓r_lst, ↓r_sl, ↓r_noP, ↓r_aP, ↓r_iOf, ↓r_iF, ↓r_def, ↓r_ref, r_seqNx, r_seqRt, r_seqBk, r_seqCt, r_ifT, r_ifF, r_setV, r_setOt, r_setOl, r_setOd, r_setOs, r_retK, r_retVv, r_retVo, r_asgK, r_tgN, r_tgT, r_tgL, r_tgs0, r_tgs, r_parK, r_ownL, r_ownLo, r_ownD, r_ownDo, r_appK, r_appJ, r_extK, r_extJ, r_stoK, r_stoI, r_stoJ, r_stoL, r_orT, r_orF, r_andT, r_andF, r_vorK, r_vorT, r_vorF, r_vandK, r_vandT, r_vandF, r_notK, r_truK, r_truB, r_truI, r_truL, r_truT, r_truN, r_isBK, r_rdV, r_rdO, r_dV, r_dO, r_valV, r_valL, r_valD, r_rVv, r_rVo, r_rVb, r_eVv, r_uVv, r_uVo, r_uVb, r_uVlK, r_sqK, r_consK, r_opK, r_opJ, r_chK, r_chJ, r_chT, r_chF, r_clK, r_ntK, r_ngK, r_tpK, r_lsK, r_slK, r_slJ, r_slI, r_slL, r_slT, r_aPK, r_sqL, r_sqT, r_sqS, r_rtR, r_rtN, r_refO, r_refE, r_wdK, r_bAdd, r_bSub, r_bMul, r_bDiv, r_bMod, r_bPow, r_cLt, r_cLe, r_cGt, r_cGe, r_cEq, r_cNe, r_ixL, r_ixT, r_of, r_lenL, r_lenT, r_lenS, Pd.R.bind_ok, Pd.R.bind_err, Pd.R.bind_stuck, noE_ok', mul_r, div_i, mod_i, add_i, sub_i, lt_i, le_i, gt_i, ge_i, eq_i, ne_i, pow18, List.cons_append, List.nil_append, List.getElem?_cons_zero, List.getElem?_cons_succ, List.replicate_succ, List.replicate_zero, List.set_cons_zero, List.set_cons_succ, List.length_cons, List.length_nil, if_true, if_false, Bool.not_true, Bool.not_false, Bool.false_eq_true, ↓reduceIte, Nat.reduceAdd, Nat.reduceLeDiff, Nat.reduceLT, Nat.zero_add, Option.map_some, Int.cast_ofNat_Int, Int.natCast_one, Int.natCast_zero, Int.reduceBEq, Int.reduceLT, Int.reduceLE, Int.reduceAdd, Int.reduceSub, Int.reduceMul, Int.reduceNeg, Int.reduceDiv, Int.reduceMod, decide_true, decide_false, eall]) ?_
      have e2 := lc_of (fi := iF (rVar 14)) (i := 16) (te := vl (eCall fIsi (seqR [rVar 16, rd (eC (.ty "tuple"))]))) (vs := [16]) (Γ := [.val (.scr ns), .val (.int j), .val (.int c), .val (.int (m : Nat)), .val (.int (k : Nat)), .own (.lst ((gdN m k).map (wN w))), s6, .val (.int (W : Nat)), .val (.lst (DL.map tN)), .val d', s10, s11, s12, s13, .own (.lst (DL.map tN)), s15, s16]) (l := DL) (φ := tN) (fun _ => .bl true) (by simp (implicitDefEqProofs := false) (disch := omega) only [↓r_seq, ↓r_next, ↓r_if, ↓r_eif, ↓r_set, ↓r_ret, ↓r_retV, ↓r_expr, ↓r_asg, ↓r_par, ↓r_app, ↓r_ext, ↓r_sto, ↓r_or1, ↓r_or, ↓r_and1, ↓r_and, ↓r_vor1, ↓r_vor, ↓r_vand1, ↓r_vand, ↓r_not, ↓r_tru, ↓r_isB, ↓r_eC, ↓r_rd, ↓r_vl, ↓r_rV, ↓r_eV, ↓r_uV, ↓r_uVl, ↓r_sq0, ↓r_sq, ↓r_e2, ↓r_e3, ↓r_call, ↓r_user, ↓r_enot, ↓r_eneg, ↓r_tup, ↓r_lst, ↓r_sl, ↓r_noP, ↓r_aP, ↓r_iOf, ↓r_iF, ↓r_def, ↓r_ref, r_seqNx, r_seqRt, r_seqBk, r_seqCt, r_ifT, r_ifF, r_setV, r_setOt, r_setOl, r_setOd, r_setOs, r_retK, r_retVv, r_retVo, r_asgK, r_tgN, r_tgT, r_tgL, r_tgs0, r_tgs, r_parK, r_ownL, r_ownLo, r_ownD, r_ownDo, r_appK, r_appJ, r_extK, r_extJ, r_stoK, r_stoI, r_stoJ, r_stoL, r_orT, r_orF, r_andT, r_andF, r_vorK, r_vorT, r_vorF, r_vandK, r_vandT, r_vandF, r_notK, r_truK, r_truB, r_truI, r_truL, r_truT, r_truN, r_isBK, r_rdV, r_rdO, r_dV, r_dO, r_valV, r_valL, r_valD, r_rVv, r_rVo, r_rVb, r_eVv, r_uVv, r_uVo, r_uVb, r_uVlK, r_sqK, r_consK, r_opK, r_opJ, r_chK, r_chJ, r_chT, r_chF, r_clK, r_ntK, r_ngK, r_tpK, r_lsK, r_slK, r_slJ, r_slI, r_slL, r_slT, r_aPK, r_sqL, r_sqT, r_sqS, r_rtR, r_rtN, r_refO, r_refE, r_wdK, r_bAdd, r_bSub, r_bMul, r_bDiv, r_bMod, r_bPow, r_cLt, r_cLe, r_cGt, r_cGe, r_cEq, r_cNe, r_ixL, r_ixT, r_of, r_lenL, r_lenT, r_lenS, Pd.R.bind_ok, Pd.R.bind_err, Pd.R.bind_stuck, noE_ok', mul_r, div_i, mod_i, add_i, sub_i, lt_i, le_i, gt_i, ge_i, eq_i, ne_i, pow18, List.cons_append, List.nil_append, List.getElem?_cons_zero, List.getElem?_cons_succ, List.replicate_succ, List.replicate_zero, List.set_cons_zero, List.set_cons_succ, List.length_cons, List.length_nil, if_true, if_false, Bool.not_true, Bool.not_false, Bool.false_eq_true, ↓reduceIte, Nat.reduceAdd, Nat.reduceLeDiff, Nat.reduceLT, Nat.zero_add, Option.map_some, Int.cast_ofNat_Int, Int.natCast_one, Int.natCast_zero, Int.reduceBEq, Int.reduceLT, Int.reduceLE, Int.reduceAdd, Int.reduceSub, Int.reduceMul, Int.reduceNeg, Int.reduceDiv, Int.reduceMod, decide_true, decide_false]) (fun z _ => by
          have hi : fIsi [tN z, .ty "tuple"] = some (.v (.bl true)) := rfl
          simp (implicitDefEqProofs := false) (disch := omega) only [↓r_seq, ↓r_next, ↓r_if, ↓r_eif, ↓r_set, ↓r_ret, ↓r_retV, ↓r_expr, ↓r_asg, ↓r_par, ↓r_app, ↓r_ext, ↓r_sto, ↓r_or1, ↓r_or, ↓r_and1, ↓r_and, ↓r_vor1, ↓r_vor, ↓r_vand1, ↓r_vand, ↓r_not, ↓r_tru, ↓r_isB, ↓r_eC, ↓r_rd, ↓r_vl, ↓r_rV, ↓r_eV, ↓r_uV, ↓r_uVl, ↓r_sq0, ↓r_sq, ↓r_e2, ↓r_e3, ↓r_call, ↓r_user, ↓r_enot, ↓r_eneg, ↓r_tup, ↓r_lst, ↓r_sl, ↓r_noP, ↓r_aP, ↓r_iOf, ↓r_iF, ↓r_def, ↓r_ref, r_seqNx, r_seqRt, r_seqBk, r_seqCt, r_ifT, r_ifF, r_setV, r_setOt, r_setOl, r_setOd, r_setOs, r_retK, r_retVv, r_retVo, r_asgK, r_tgN, r_tgT, r_tgL, r_tgs0, r_tgs, r_parK, r_ownL, r_ownLo, r_ownD, r_ownDo, r_appK, r_appJ, r_extK, r_extJ, r_stoK, r_stoI, r_stoJ, r_stoL, r_orT, r_orF, r_andT, r_andF, r_vorK, r_vorT, r_vorF, r_vandK, r_vandT, r_vandF, r_notK, r_truK, r_truB, r_truI, r_truL, r_truT, r_truN, r_isBK, r_rdV, r_rdO, r_dV, r_dO, r_valV, r_valL, r_valD, r_rVv, r_rVo, r_rVb, r_eVv, r_uVv, r_uVo, r_uVb, r_uVlK, r_sqK, r_consK, r_opK, r_opJ, r_chK, r_chJ, r_chT, r_chF, r_clK, r_ntK, r_ngK, r_tpK, r_lsK, r_slK, r_slJ, r_slI, r_slL, r_slT, r_aPK, r_sqL, r_sqT, r_sqS, r_rtR, r_rtN, r_refO, r_refE, r_wdK, r_bAdd, r_bSub, r_bMul, r_bDiv, r_bMod, r_bPow, r_cLt, r_cLe, r_cGt, r_cGe, r_cEq, r_cNe, r_ixL, r_ixT, r_of, r_lenL, r_lenT, r_lenS, Pd.R.bind_ok, Pd.R.bind_err, Pd.R.bind_stuck, noE_ok', mul_r, div_i, mod_i, add_i, sub_i, lt_i, le_i, gt_i, ge_i, eq_i, ne_i, pow18, List.cons_append, List.nil_append, List.getElem?_cons_zero, List.getElem?_cons_succ, List.replicate_succ, List.replicate_zero, List.set_cons_zero, List.set_cons_succ, List.length_cons, List.length_nil, if_true, if_false, Bool.not_true, Bool.not_false, Bool.false_eq_true, ↓reduceIte, Nat.reduceAdd, Nat.reduceLeDiff, Nat.reduceLT, Nat.zero_add, Option.map_some, Int.cast_ofNat_Int, Int.natCast_one, Int.natCast_zero, Int.reduceBEq, Int.reduceLT, Int.reduceLE, Int.reduceAdd, Int.reduceSub, Int.reduceMul, Int.reduceNeg, Int.reduceDiv, Int.reduceMod, decide_true, decide_false, wipeG, hi])
      have ha1 : fAll [.lst (DL.map fun _ => .bl true)] = some (.v (.bl true)) := by
        have := all_b (fun _ : List Nat => true) DL
        rw [show DL.all (fun _ => true) = true from List.all_eq_true.mpr fun _ _ => rfl] at this
        exact this
      have hil : fIsi [.lst (DL.map tN), .ty "list"] = some (.v (.bl true)) := rfl
      refine go_seq (Γ1 := [.val (.scr ns), .val (.int j), .val (.int c), .val (.int (m : Nat)), .val (.int (k : Nat)), .own (.lst ((gdN m k).map (wN w))), s6, .val (.int (W : Nat)), .val (.lst (DL.map tN)), .val d', s10, s11, s12, s13, .own (.lst (DL.map tN)), s15, s16]) (if_no (by simp (implicitDefEqProofs := false) (disch := omega) only [↓r_seq, ↓r_next, ↓r_if, ↓r_eif, ↓r_set, ↓r_ret, ↓r_retV, ↓r_expr, ↓r_asg, ↓r_par, ↓r_app, ↓r_ext, ↓r_sto, ↓r_or1, ↓r_or, ↓r_and1, ↓r_and, ↓r_vor1, ↓r_vor, ↓r_vand1, ↓r_vand, ↓r_not, ↓r_tru, ↓r_isB, ↓r_eC, ↓r_rd, ↓r_vl, ↓r_rV, ↓r_eV, ↓r_uV, ↓r_uVl, ↓r_sq0, ↓r_sq, ↓r_e2, ↓r_e3, ↓r_call, ↓r_user, ↓r_enot, ↓r_eneg, ↓r_tup, ↓r_lst, ↓r_sl, ↓r_noP, ↓r_aP, ↓r_iOf, ↓r_iF, ↓r_def, ↓r_ref, r_seqNx, r_seqRt, r_seqBk, r_seqCt, r_ifT, r_ifF, r_setV, r_setOt, r_setOl, r_setOd, r_setOs, r_retK, r_retVv, r_retVo, r_asgK, r_tgN, r_tgT, r_tgL, r_tgs0, r_tgs, r_parK, r_ownL, r_ownLo, r_ownD, r_ownDo, r_appK, r_appJ, r_extK, r_extJ, r_stoK, r_stoI, r_stoJ, r_stoL, r_orT, r_orF, r_andT, r_andF, r_vorK, r_vorT, r_vorF, r_vandK, r_vandT, r_vandF, r_notK, r_truK, r_truB, r_truI, r_truL, r_truT, r_truN, r_isBK, r_rdV, r_rdO, r_dV, r_dO, r_valV, r_valL, r_valD, r_rVv, r_rVo, r_rVb, r_eVv, r_uVv, r_uVo, r_uVb, r_uVlK, r_sqK, r_consK, r_opK, r_opJ, r_chK, r_chJ, r_chT, r_chF, r_clK, r_ntK, r_ngK, r_tpK, r_lsK, r_slK, r_slJ, r_slI, r_slL, r_slT, r_aPK, r_sqL, r_sqT, r_sqS, r_rtR, r_rtN, r_refO, r_refE, r_wdK, r_bAdd, r_bSub, r_bMul, r_bDiv, r_bMod, r_bPow, r_cLt, r_cLe, r_cGt, r_cGe, r_cEq, r_cNe, r_ixL, r_ixT, r_of, r_lenL, r_lenT, r_lenS, Pd.R.bind_ok, Pd.R.bind_err, Pd.R.bind_stuck, noE_ok', mul_r, div_i, mod_i, add_i, sub_i, lt_i, le_i, gt_i, ge_i, eq_i, ne_i, pow18, List.cons_append, List.nil_append, List.getElem?_cons_zero, List.getElem?_cons_succ, List.replicate_succ, List.replicate_zero, List.set_cons_zero, List.set_cons_succ, List.length_cons, List.length_nil, if_true, if_false, Bool.not_true, Bool.not_false, Bool.false_eq_true, ↓reduceIte, Nat.reduceAdd, Nat.reduceLeDiff, Nat.reduceLT, Nat.zero_add, Option.map_some, Int.cast_ofNat_Int, Int.natCast_one, Int.natCast_zero, Int.reduceBEq, Int.reduceLT, Int.reduceLE, Int.reduceAdd, Int.reduceSub, Int.reduceMul, Int.reduceNeg, Int.reduceDiv, Int.reduceMod, decide_true, decide_false, hil, hsame, e2, ha1])) ?_
      exact go_seq (Γ1 := [.val (.scr ns), .val (.int j), .val (.int c), .val (.int (m : Nat)), .val (.int (k : Nat)), .own (.lst ((gdN m k).map (wN w))), s6, .val (.int (W : Nat)), .val (.lst (DL.map tN)), .val d', s10, s11, s12, s13, .own (.lst (DL.map tN ++ [.tup []])), s15, s16]) (by simp (implicitDefEqProofs := false) (disch := omega) only [↓r_seq, ↓r_next, ↓r_if, ↓r_eif, ↓r_set, ↓r_ret, ↓r_retV, ↓r_expr, ↓r_asg, ↓r_par, ↓r_app, ↓r_ext, ↓r_sto, ↓r_or1, ↓r_or, ↓r_and1, ↓r_and, ↓r_vor1, ↓r_vor, ↓r_vand1, ↓r_vand, ↓r_not, ↓r_tru, ↓r_isB, ↓r_eC, ↓r_rd, ↓r_vl, ↓r_rV, ↓r_eV, ↓r_uV, ↓r_uVl, ↓r_sq0, ↓r_sq, ↓r_e2, ↓r_e3, ↓r_call, ↓r_user, ↓r_enot, ↓r_eneg, ↓r_tup, ↓r_lst, ↓r_sl, ↓r_noP, ↓r_aP, ↓r_iOf, ↓r_iF, ↓r_def, ↓r_ref, r_seqNx, r_seqRt, r_seqBk, r_seqCt, r_ifT, r_ifF, r_setV, r_setOt, r_setOl, r_setOd, r_setOs, r_retK, r_retVv, r_retVo, r_asgK, r_tgN, r_tgT, r_tgL, r_tgs0, r_tgs, r_parK, r_ownL, r_ownLo, r_ownD, r_ownDo, r_appK, r_appJ, r_extK, r_extJ, r_stoK, r_stoI, r_stoJ, r_stoL, r_orT, r_orF, r_andT, r_andF, r_vorK, r_vorT, r_vorF, r_vandK, r_vandT, r_vandF, r_notK, r_truK, r_truB, r_truI, r_truL, r_truT, r_truN, r_isBK, r_rdV, r_rdO, r_dV, r_dO, r_valV, r_valL, r_valD, r_rVv, r_rVo, r_rVb, r_eVv, r_uVv, r_uVo, r_uVb, r_uVlK, r_sqK, r_consK, r_opK, r_opJ, r_chK, r_chJ, r_chT, r_chF, r_clK, r_ntK, r_ngK, r_tpK, r_lsK, r_slK, r_slJ, r_slI, r_slL, r_slT, r_aPK, r_sqL, r_sqT, r_sqS, r_rtR, r_rtN, r_refO, r_refE, r_wdK, r_bAdd, r_bSub, r_bMul, r_bDiv, r_bMod, r_bPow, r_cLt, r_cLe, r_cGt, r_cGe, r_cEq, r_cNe, r_ixL, r_ixT, r_of, r_lenL, r_lenT, r_lenS, Pd.R.bind_ok, Pd.R.bind_err, Pd.R.bind_stuck, noE_ok', mul_r, div_i, mod_i, add_i, sub_i, lt_i, le_i, gt_i, ge_i, eq_i, ne_i, pow18, List.cons_append, List.nil_append, List.getElem?_cons_zero, List.getElem?_cons_succ, List.replicate_succ, List.replicate_zero, List.set_cons_zero, List.set_cons_succ, List.length_cons, List.length_nil, if_true, if_false, Bool.not_true, Bool.not_false, Bool.false_eq_true, ↓reduceIte, Nat.reduceAdd, Nat.reduceLeDiff, Nat.reduceLT, Nat.zero_add, Option.map_some, Int.cast_ofNat_Int, Int.natCast_one, Int.natCast_zero, Int.reduceBEq, Int.reduceLT, Int.reduceLE, Int.reduceAdd, Int.reduceSub, Int.reduceMul, Int.reduceNeg, Int.reduceDiv, Int.reduceMod, decide_true, decide_false, r_appJ hap]) (go_next ⟨_, _, _, rfl⟩)
    rintro Γ ⟨s9, s14, s16, rfl⟩
    have hd0 : dIx (.lst (DL.map tN)) (.int 0) = some (.v (tN s0)) := by
      cases DL with
      | nil => cases b4
      | cons x r =>
        cases b4
        have h0 : atI ((s0 :: r).map tN) (0 : Int) = some (tN s0) := L2.atI_nat (j := 0) rfl
        unfold dIx
        dsimp only
        rw [h0]
        rfl
    have hs0 := ne_same (pur_tN s0) (dep_tN s0)
    refine go_seq (if_no (by simp (implicitDefEqProofs := false) (disch := omega) only [↓r_seq, ↓r_next, ↓r_if, ↓r_eif, ↓r_set, ↓r_ret, ↓r_retV, ↓r_expr, ↓r_asg, ↓r_par, ↓r_app, ↓r_ext, ↓r_sto, ↓r_or1, ↓r_or, ↓r_and1, ↓r_and, ↓r_vor1, ↓r_vor, ↓r_vand1, ↓r_vand, ↓r_not, ↓r_tru, ↓r_isB, ↓r_eC, ↓r_rd, ↓r_vl, ↓r_rV, ↓r_eV, ↓r_uV, ↓r_uVl, ↓r_sq0, ↓r_sq, ↓r_e2, ↓r_e3, ↓r_call, ↓r_user, ↓r_enot, ↓r_eneg, ↓r_tup, ↓r_lst, ↓r_sl, ↓r_noP, ↓r_aP, ↓r_iOf, ↓r_iF, ↓r_def, ↓r_ref, r_seqNx, r_seqRt, r_seqBk, r_seqCt, r_ifT, r_ifF, r_setV, r_setOt, r_setOl, r_setOd, r_setOs, r_retK, r_retVv, r_retVo, r_asgK, r_tgN, r_tgT, r_tgL, r_tgs0, r_tgs, r_parK, r_ownL, r_ownLo, r_ownD, r_ownDo, r_appK, r_appJ, r_extK, r_extJ, r_stoK, r_stoI, r_stoJ, r_stoL, r_orT, r_orF, r_andT, r_andF, r_vorK, r_vorT, r_vorF, r_vandK, r_vandT, r_vandF, r_notK, r_truK, r_truB, r_truI, r_truL, r_truT, r_truN, r_isBK, r_rdV, r_rdO, r_dV, r_dO, r_valV, r_valL, r_valD, r_rVv, r_rVo, r_rVb, r_eVv, r_uVv, r_uVo, r_uVb, r_uVlK, r_sqK, r_consK, r_opK, r_opJ, r_chK, r_chJ, r_chT, r_chF, r_clK, r_ntK, r_ngK, r_tpK, r_lsK, r_slK, r_slJ, r_slI, r_slL, r_slT, r_aPK, r_sqL, r_sqT, r_sqS, r_rtR, r_rtN, r_refO, r_refE, r_wdK, r_bAdd, r_bSub, r_bMul, r_bDiv, r_bMod, r_bPow, r_cLt, r_cLe, r_cGt, r_cGe, r_cEq, r_cNe, r_ixL, r_ixT, r_of, r_lenL, r_lenT, r_lenS, Pd.R.bind_ok, Pd.R.bind_err, Pd.R.bind_stuck, noE_ok', mul_r, div_i, mod_i, add_i, sub_i, lt_i, le_i, gt_i, ge_i, eq_i, ne_i, pow18, List.cons_append, List.nil_append, List.getElem?_cons_zero, List.getElem?_cons_succ, List.replicate_succ, List.replicate_zero, List.set_cons_zero, List.set_cons_succ, List.length_cons, List.length_nil, if_true, if_false, Bool.not_true, Bool.not_false, Bool.false_eq_true, ↓reduceIte, Nat.reduceAdd, Nat.reduceLeDiff, Nat.reduceLT, Nat.zero_add, Option.map_some, Int.cast_ofNat_Int, Int.natCast_one, Int.natCast_zero, Int.reduceBEq, Int.reduceLT, Int.reduceLE, Int.reduceAdd, Int.reduceSub, Int.reduceMul, Int.reduceNeg, Int.reduceDiv, Int.reduceMod, decide_true, decide_false, ewide, eleaps, isi_int_bool, hd0, hs0, beq_self_eq_true])) ?_
    obtain ⟨bad, eb1, nb1⟩ := oddn c 10 3 30 (by omega) (by omega) (by omega) (by omega)
    obtain ⟨wo, eb2, nb2⟩ := oddn c 11 1 (b : Int) (by omega) (by omega) (by omega) (by omega)
    have eb1' : d__law_no_number [.val (.int c), .val (.int 10), .val (.int 3), .val (.int 30)] = .ok (.v bad) := eb1
    have eb2' : d__law_no_number [.val (.int c), .val (.int 11), .val (.int 1), .val (.int (b : Int))] = .ok (.v wo) := eb2
    refine go_seq (Γ1 := [.val (.scr ns), .val (.int j), .val (.int c), .val (.int (m : Nat)), .val (.int (k : Nat)), .own (.lst ((gdN m k).map (wN w))), s6, .val (.int (W : Nat)), .val (.lst (DL.map tN)), s9, .val bad, s11, s12, s13, s14, s15, s16]) (by simp (implicitDefEqProofs := false) (disch := omega) only [↓r_seq, ↓r_next, ↓r_if, ↓r_eif, ↓r_set, ↓r_ret, ↓r_retV, ↓r_expr, ↓r_asg, ↓r_par, ↓r_app, ↓r_ext, ↓r_sto, ↓r_or1, ↓r_or, ↓r_and1, ↓r_and, ↓r_vor1, ↓r_vor, ↓r_vand1, ↓r_vand, ↓r_not, ↓r_tru, ↓r_isB, ↓r_eC, ↓r_rd, ↓r_vl, ↓r_rV, ↓r_eV, ↓r_uV, ↓r_uVl, ↓r_sq0, ↓r_sq, ↓r_e2, ↓r_e3, ↓r_call, ↓r_user, ↓r_enot, ↓r_eneg, ↓r_tup, ↓r_lst, ↓r_sl, ↓r_noP, ↓r_aP, ↓r_iOf, ↓r_iF, ↓r_def, ↓r_ref, r_seqNx, r_seqRt, r_seqBk, r_seqCt, r_ifT, r_ifF, r_setV, r_setOt, r_setOl, r_setOd, r_setOs, r_retK, r_retVv, r_retVo, r_asgK, r_tgN, r_tgT, r_tgL, r_tgs0, r_tgs, r_parK, r_ownL, r_ownLo, r_ownD, r_ownDo, r_appK, r_appJ, r_extK, r_extJ, r_stoK, r_stoI, r_stoJ, r_stoL, r_orT, r_orF, r_andT, r_andF, r_vorK, r_vorT, r_vorF, r_vandK, r_vandT, r_vandF, r_notK, r_truK, r_truB, r_truI, r_truL, r_truT, r_truN, r_isBK, r_rdV, r_rdO, r_dV, r_dO, r_valV, r_valL, r_valD, r_rVv, r_rVo, r_rVb, r_eVv, r_uVv, r_uVo, r_uVb, r_uVlK, r_sqK, r_consK, r_opK, r_opJ, r_chK, r_chJ, r_chT, r_chF, r_clK, r_ntK, r_ngK, r_tpK, r_lsK, r_slK, r_slJ, r_slI, r_slL, r_slT, r_aPK, r_sqL, r_sqT, r_sqS, r_rtR, r_rtN, r_refO, r_refE, r_wdK, r_bAdd, r_bSub, r_bMul, r_bDiv, r_bMod, r_bPow, r_cLt, r_cLe, r_cGt, r_cGe, r_cEq, r_cNe, r_ixL, r_ixT, r_of, r_lenL, r_lenT, r_lenS, Pd.R.bind_ok, Pd.R.bind_err, Pd.R.bind_stuck, noE_ok', mul_r, div_i, mod_i, add_i, sub_i, lt_i, le_i, gt_i, ge_i, eq_i, ne_i, pow18, List.cons_append, List.nil_append, List.getElem?_cons_zero, List.getElem?_cons_succ, List.replicate_succ, List.replicate_zero, List.set_cons_zero, List.set_cons_succ, List.length_cons, List.length_nil, if_true, if_false, Bool.not_true, Bool.not_false, Bool.false_eq_true, ↓reduceIte, Nat.reduceAdd, Nat.reduceLeDiff, Nat.reduceLT, Nat.zero_add, Option.map_some, Int.cast_ofNat_Int, Int.natCast_one, Int.natCast_zero, Int.reduceBEq, Int.reduceLT, Int.reduceLE, Int.reduceAdd, Int.reduceSub, Int.reduceMul, Int.reduceNeg, Int.reduceDiv, Int.reduceMod, decide_true, decide_false, eb1']) ?_
    refine go_seq (Γ1 := [.val (.scr ns), .val (.int j), .val (.int c), .val (.int (m : Nat)), .val (.int (k : Nat)), .own (.lst ((gdN m k).map (wN w))), s6, .val (.int (W : Nat)), .val (.lst (DL.map tN)), s9, .val bad, .val wo, s12, s13, s14, s15, s16]) (by simp (implicitDefEqProofs := false) (disch := omega) only [↓r_seq, ↓r_next, ↓r_if, ↓r_eif, ↓r_set, ↓r_ret, ↓r_retV, ↓r_expr, ↓r_asg, ↓r_par, ↓r_app, ↓r_ext, ↓r_sto, ↓r_or1, ↓r_or, ↓r_and1, ↓r_and, ↓r_vor1, ↓r_vor, ↓r_vand1, ↓r_vand, ↓r_not, ↓r_tru, ↓r_isB, ↓r_eC, ↓r_rd, ↓r_vl, ↓r_rV, ↓r_eV, ↓r_uV, ↓r_uVl, ↓r_sq0, ↓r_sq, ↓r_e2, ↓r_e3, ↓r_call, ↓r_user, ↓r_enot, ↓r_eneg, ↓r_tup, ↓r_lst, ↓r_sl, ↓r_noP, ↓r_aP, ↓r_iOf, ↓r_iF, ↓r_def, ↓r_ref, r_seqNx, r_seqRt, r_seqBk, r_seqCt, r_ifT, r_ifF, r_setV, r_setOt, r_setOl, r_setOd, r_setOs, r_retK, r_retVv, r_retVo, r_asgK, r_tgN, r_tgT, r_tgL, r_tgs0, r_tgs, r_parK, r_ownL, r_ownLo, r_ownD, r_ownDo, r_appK, r_appJ, r_extK, r_extJ, r_stoK, r_stoI, r_stoJ, r_stoL, r_orT, r_orF, r_andT, r_andF, r_vorK, r_vorT, r_vorF, r_vandK, r_vandT, r_vandF, r_notK, r_truK, r_truB, r_truI, r_truL, r_truT, r_truN, r_isBK, r_rdV, r_rdO, r_dV, r_dO, r_valV, r_valL, r_valD, r_rVv, r_rVo, r_rVb, r_eVv, r_uVv, r_uVo, r_uVb, r_uVlK, r_sqK, r_consK, r_opK, r_opJ, r_chK, r_chJ, r_chT, r_chF, r_clK, r_ntK, r_ngK, r_tpK, r_lsK, r_slK, r_slJ, r_slI, r_slL, r_slT, r_aPK, r_sqL, r_sqT, r_sqS, r_rtR, r_rtN, r_refO, r_refE, r_wdK, r_bAdd, r_bSub, r_bMul, r_bDiv, r_bMod, r_bPow, r_cLt, r_cLe, r_cGt, r_cGe, r_cEq, r_cNe, r_ixL, r_ixT, r_of, r_lenL, r_lenT, r_lenS, Pd.R.bind_ok, Pd.R.bind_err, Pd.R.bind_stuck, noE_ok', mul_r, div_i, mod_i, add_i, sub_i, lt_i, le_i, gt_i, ge_i, eq_i, ne_i, pow18, List.cons_append, List.nil_append, List.getElem?_cons_zero, List.getElem?_cons_succ, List.replicate_succ, List.replicate_zero, List.set_cons_zero, List.set_cons_succ, List.length_cons, List.length_nil, if_true, if_false, Bool.not_true, Bool.not_false, Bool.false_eq_true, ↓reduceIte, Nat.reduceAdd, Nat.reduceLeDiff, Nat.reduceLT, Nat.zero_add, Option.map_some, Int.cast_ofNat_Int, Int.natCast_one, Int.natCast_zero, Int.reduceBEq, Int.reduceLT, Int.reduceLE, Int.reduceAdd, Int.reduceSub, Int.reduceMul, Int.reduceNeg, Int.reduceDiv, Int.reduceMod, decide_true, decide_false, d2, min_i, eb, eb2']) ?_
    have w1 := widths_no1 (e := .int 1) nb1
    have w2 := widths_no2 m3 m30 (by rw [eb]; exact nb2)
    refine go_seq' (fun Γ => ∃ s12, Γ = [.val (.scr ns), .val (.int j), .val (.int c), .val (.int (m : Nat)), .val (.int (k : Nat)), .own (.lst ((gdN m k).map (wN w))), s6, .val (.int (W : Nat)), .val (.lst (DL.map tN)), s9, .val bad, .val wo, s12, s13, s14, s15, s16]) (go_for (ds := [.ref v_all_best, .ref v_best_wide, .ref v_best_leaps]) (by simp (implicitDefEqProofs := false) (disch := omega) only [↓r_seq, ↓r_next, ↓r_if, ↓r_eif, ↓r_set, ↓r_ret, ↓r_retV, ↓r_expr, ↓r_asg, ↓r_par, ↓r_app, ↓r_ext, ↓r_sto, ↓r_or1, ↓r_or, ↓r_and1, ↓r_and, ↓r_vor1, ↓r_vor, ↓r_vand1, ↓r_vand, ↓r_not, ↓r_tru, ↓r_isB, ↓r_eC, ↓r_rd, ↓r_vl, ↓r_rV, ↓r_eV, ↓r_uV, ↓r_uVl, ↓r_sq0, ↓r_sq, ↓r_e2, ↓r_e3, ↓r_call, ↓r_user, ↓r_enot, ↓r_eneg, ↓r_tup, ↓r_lst, ↓r_sl, ↓r_noP, ↓r_aP, ↓r_iOf, ↓r_iF, ↓r_def, ↓r_ref, r_seqNx, r_seqRt, r_seqBk, r_seqCt, r_ifT, r_ifF, r_setV, r_setOt, r_setOl, r_setOd, r_setOs, r_retK, r_retVv, r_retVo, r_asgK, r_tgN, r_tgT, r_tgL, r_tgs0, r_tgs, r_parK, r_ownL, r_ownLo, r_ownD, r_ownDo, r_appK, r_appJ, r_extK, r_extJ, r_stoK, r_stoI, r_stoJ, r_stoL, r_orT, r_orF, r_andT, r_andF, r_vorK, r_vorT, r_vorF, r_vandK, r_vandT, r_vandF, r_notK, r_truK, r_truB, r_truI, r_truL, r_truT, r_truN, r_isBK, r_rdV, r_rdO, r_dV, r_dO, r_valV, r_valL, r_valD, r_rVv, r_rVo, r_rVb, r_eVv, r_uVv, r_uVo, r_uVb, r_uVlK, r_sqK, r_consK, r_opK, r_opJ, r_chK, r_chJ, r_chT, r_chF, r_clK, r_ntK, r_ngK, r_tpK, r_lsK, r_slK, r_slJ, r_slI, r_slL, r_slT, r_aPK, r_sqL, r_sqT, r_sqS, r_rtR, r_rtN, r_refO, r_refE, r_wdK, r_bAdd, r_bSub, r_bMul, r_bDiv, r_bMod, r_bPow, r_cLt, r_cLe, r_cGt, r_cGe, r_cEq, r_cNe, r_ixL, r_ixT, r_of, r_lenL, r_lenT, r_lenS, Pd.R.bind_ok, Pd.R.bind_err, Pd.R.bind_stuck, noE_ok', mul_r, div_i, mod_i, add_i, sub_i, lt_i, le_i, gt_i, ge_i, eq_i, ne_i, pow18, List.cons_append, List.nil_append, List.getElem?_cons_zero, List.getElem?_cons_succ, List.replicate_succ, List.replicate_zero, List.set_cons_zero, List.set_cons_succ, List.length_cons, List.length_nil, if_true, if_false, Bool.not_true, Bool.not_false, Bool.false_eq_true, ↓reduceIte, Nat.reduceAdd, Nat.reduceLeDiff, Nat.reduceLT, Nat.zero_add, Option.map_some, Int.cast_ofNat_Int, Int.natCast_one, Int.natCast_zero, Int.reduceBEq, Int.reduceLT, Int.reduceLE, Int.reduceAdd, Int.reduceSub, Int.reduceMul, Int.reduceNeg, Int.reduceDiv, Int.reduceMod, decide_true, decide_false]) ⟨_, rfl⟩ ?_) ?_
    · rintro Γ d hd ⟨s12, rfl⟩
      obtain ⟨v, rfl⟩ : ∃ v, d = .ref v := by
        simp only [List.mem_cons, List.not_mem_nil, or_false] at hd
        rcases hd with rfl | rfl | rfl <;> exact ⟨_, rfl⟩
      obtain ⟨χ, hv, hχ1, hχ2⟩ := held3 (P := fun φ => φ [.val bad, .val (.int 1)] = .err "NoNumber" ∧ φ [.val (.int (m : Nat)), .val wo] = .err "NoNumber") hd (φ := d_all_best) (ψ := d_best_wide) (ω := d_best_leaps)
        ⟨all_best2_no w1, all_best2_no w2⟩ ⟨best_wide2_no w1, best_wide2_no w2⟩ ⟨best_leaps2_no w1, best_leaps2_no w2⟩
      have h1 := @call_v _ _ _ (seqR [uVar 10, uVal (vl (eC (.int 1)))]) [.val (.scr ns), .val (.int j), .val (.int c), .val (.int (m : Nat)), .val (.int (k : Nat)), .own (.lst ((gdN m k).map (wN w))), s6, .val (.int (W : Nat)), .val (.lst (DL.map tN)), s9, .val bad, .val wo, .val (.ref v), s13, s14, s15, s16] hv
      have h2 := @call_v _ _ _ (seqR [uVar 3, uVar 11]) [.val (.scr ns), .val (.int j), .val (.int c), .val (.int (m : Nat)), .val (.int (k : Nat)), .own (.lst ((gdN m k).map (wN w))), s6, .val (.int (W : Nat)), .val (.lst (DL.map tN)), s9, .val bad, .val wo, .val (.ref v), s13, s14, s15, s16] hv
      refine go_seq (Γ1 := [.val (.scr ns), .val (.int j), .val (.int c), .val (.int (m : Nat)), .val (.int (k : Nat)), .own (.lst ((gdN m k).map (wN w))), s6, .val (.int (W : Nat)), .val (.lst (DL.map tN)), s9, .val bad, .val wo, .val (.ref v), s13, s14, s15, s16]) (if_no (by simp (implicitDefEqProofs := false) (disch := omega) only [↓r_seq, ↓r_next, ↓r_if, ↓r_eif, ↓r_set, ↓r_ret, ↓r_retV, ↓r_expr, ↓r_asg, ↓r_par, ↓r_app, ↓r_ext, ↓r_sto, ↓r_or1, ↓r_or, ↓r_and1, ↓r_and, ↓r_vor1, ↓r_vor, ↓r_vand1, ↓r_vand, ↓r_not, ↓r_tru, ↓r_isB, ↓r_eC, ↓r_rd, ↓r_vl, ↓r_rV, ↓r_eV, ↓r_uV, ↓r_uVl, ↓r_sq0, ↓r_sq, ↓r_e2, ↓r_e3, ↓r_call, ↓r_user, ↓r_enot, ↓r_eneg, ↓r_tup, ↓r_lst, ↓r_sl, ↓r_noP, ↓r_aP, ↓r_iOf, ↓r_iF, ↓r_def, ↓r_ref, r_seqNx, r_seqRt, r_seqBk, r_seqCt, r_ifT, r_ifF, r_setV, r_setOt, r_setOl, r_setOd, r_setOs, r_retK, r_retVv, r_retVo, r_asgK, r_tgN, r_tgT, r_tgL, r_tgs0, r_tgs, r_parK, r_ownL, r_ownLo, r_ownD, r_ownDo, r_appK, r_appJ, r_extK, r_extJ, r_stoK, r_stoI, r_stoJ, r_stoL, r_orT, r_orF, r_andT, r_andF, r_vorK, r_vorT, r_vorF, r_vandK, r_vandT, r_vandF, r_notK, r_truK, r_truB, r_truI, r_truL, r_truT, r_truN, r_isBK, r_rdV, r_rdO, r_dV, r_dO, r_valV, r_valL, r_valD, r_rVv, r_rVo, r_rVb, r_eVv, r_uVv, r_uVo, r_uVb, r_uVlK, r_sqK, r_consK, r_opK, r_opJ, r_chK, r_chJ, r_chT, r_chF, r_clK, r_ntK, r_ngK, r_tpK, r_lsK, r_slK, r_slJ, r_slI, r_slL, r_slT, r_aPK, r_sqL, r_sqT, r_sqS, r_rtR, r_rtN, r_refO, r_refE, r_wdK, r_bAdd, r_bSub, r_bMul, r_bDiv, r_bMod, r_bPow, r_cLt, r_cLe, r_cGt, r_cGe, r_cEq, r_cNe, r_ixL, r_ixT, r_of, r_lenL, r_lenT, r_lenS, Pd.R.bind_ok, Pd.R.bind_err, Pd.R.bind_stuck, noE_ok', mul_r, div_i, mod_i, add_i, sub_i, lt_i, le_i, gt_i, ge_i, eq_i, ne_i, pow18, List.cons_append, List.nil_append, List.getElem?_cons_zero, List.getElem?_cons_succ, List.replicate_succ, List.replicate_zero, List.set_cons_zero, List.set_cons_succ, List.length_cons, List.length_nil, if_true, if_false, Bool.not_true, Bool.not_false, Bool.false_eq_true, ↓reduceIte, Nat.reduceAdd, Nat.reduceLeDiff, Nat.reduceLT, Nat.zero_add, Option.map_some, Int.cast_ofNat_Int, Int.natCast_one, Int.natCast_zero, Int.reduceBEq, Int.reduceLT, Int.reduceLE, Int.reduceAdd, Int.reduceSub, Int.reduceMul, Int.reduceNeg, Int.reduceDiv, Int.reduceMod, decide_true, decide_false, r_callV, h1, hχ1, eRef, wordN, eq_nn])) ?_
      refine go_seq (Γ1 := [.val (.scr ns), .val (.int j), .val (.int c), .val (.int (m : Nat)), .val (.int (k : Nat)), .own (.lst ((gdN m k).map (wN w))), s6, .val (.int (W : Nat)), .val (.lst (DL.map tN)), s9, .val bad, .val wo, .val (.ref v), s13, s14, s15, s16]) (if_no (by simp (implicitDefEqProofs := false) (disch := omega) only [↓r_seq, ↓r_next, ↓r_if, ↓r_eif, ↓r_set, ↓r_ret, ↓r_retV, ↓r_expr, ↓r_asg, ↓r_par, ↓r_app, ↓r_ext, ↓r_sto, ↓r_or1, ↓r_or, ↓r_and1, ↓r_and, ↓r_vor1, ↓r_vor, ↓r_vand1, ↓r_vand, ↓r_not, ↓r_tru, ↓r_isB, ↓r_eC, ↓r_rd, ↓r_vl, ↓r_rV, ↓r_eV, ↓r_uV, ↓r_uVl, ↓r_sq0, ↓r_sq, ↓r_e2, ↓r_e3, ↓r_call, ↓r_user, ↓r_enot, ↓r_eneg, ↓r_tup, ↓r_lst, ↓r_sl, ↓r_noP, ↓r_aP, ↓r_iOf, ↓r_iF, ↓r_def, ↓r_ref, r_seqNx, r_seqRt, r_seqBk, r_seqCt, r_ifT, r_ifF, r_setV, r_setOt, r_setOl, r_setOd, r_setOs, r_retK, r_retVv, r_retVo, r_asgK, r_tgN, r_tgT, r_tgL, r_tgs0, r_tgs, r_parK, r_ownL, r_ownLo, r_ownD, r_ownDo, r_appK, r_appJ, r_extK, r_extJ, r_stoK, r_stoI, r_stoJ, r_stoL, r_orT, r_orF, r_andT, r_andF, r_vorK, r_vorT, r_vorF, r_vandK, r_vandT, r_vandF, r_notK, r_truK, r_truB, r_truI, r_truL, r_truT, r_truN, r_isBK, r_rdV, r_rdO, r_dV, r_dO, r_valV, r_valL, r_valD, r_rVv, r_rVo, r_rVb, r_eVv, r_uVv, r_uVo, r_uVb, r_uVlK, r_sqK, r_consK, r_opK, r_opJ, r_chK, r_chJ, r_chT, r_chF, r_clK, r_ntK, r_ngK, r_tpK, r_lsK, r_slK, r_slJ, r_slI, r_slL, r_slT, r_aPK, r_sqL, r_sqT, r_sqS, r_rtR, r_rtN, r_refO, r_refE, r_wdK, r_bAdd, r_bSub, r_bMul, r_bDiv, r_bMod, r_bPow, r_cLt, r_cLe, r_cGt, r_cGe, r_cEq, r_cNe, r_ixL, r_ixT, r_of, r_lenL, r_lenT, r_lenS, Pd.R.bind_ok, Pd.R.bind_err, Pd.R.bind_stuck, noE_ok', mul_r, div_i, mod_i, add_i, sub_i, lt_i, le_i, gt_i, ge_i, eq_i, ne_i, pow18, List.cons_append, List.nil_append, List.getElem?_cons_zero, List.getElem?_cons_succ, List.replicate_succ, List.replicate_zero, List.set_cons_zero, List.set_cons_succ, List.length_cons, List.length_nil, if_true, if_false, Bool.not_true, Bool.not_false, Bool.false_eq_true, ↓reduceIte, Nat.reduceAdd, Nat.reduceLeDiff, Nat.reduceLT, Nat.zero_add, Option.map_some, Int.cast_ofNat_Int, Int.natCast_one, Int.natCast_zero, Int.reduceBEq, Int.reduceLT, Int.reduceLE, Int.reduceAdd, Int.reduceSub, Int.reduceMul, Int.reduceNeg, Int.reduceDiv, Int.reduceMod, decide_true, decide_false, r_callV, h2, hχ2, eRef, wordN, eq_nn])) (go_next ⟨_, rfl⟩)
    rintro Γ ⟨s12, rfl⟩
    exact go_next ⟨_, _, _, _, _, _, _, _, _, _, _, _, _, _, _, _, rfl⟩
  rintro Γ ⟨s1, s2, s3, s4, s5, s6, s7, s8, s9, s10, s11, s12, s13, s14, s15, s16, rfl⟩
  have r1 := run1
  have r2 := run2
  have r3 := run3
  have q3 : dEq (.lst [.tup [.int 1], .tup [.int 2]]) (.lst [.tup [.int 1], .tup [.int 2]]) = some (.v (.bl true)) := eq_same rfl (by decide)
  have q4 : dEq (.tup [.int 1]) (.tup [.int 1]) = some (.v (.bl true)) := eq_same rfl (by decide)
  simp (implicitDefEqProofs := false) (disch := omega) only [↓r_seq, ↓r_next, ↓r_if, ↓r_eif, ↓r_set, ↓r_ret, ↓r_retV, ↓r_expr, ↓r_asg, ↓r_par, ↓r_app, ↓r_ext, ↓r_sto, ↓r_or1, ↓r_or, ↓r_and1, ↓r_and, ↓r_vor1, ↓r_vor, ↓r_vand1, ↓r_vand, ↓r_not, ↓r_tru, ↓r_isB, ↓r_eC, ↓r_rd, ↓r_vl, ↓r_rV, ↓r_eV, ↓r_uV, ↓r_uVl, ↓r_sq0, ↓r_sq, ↓r_e2, ↓r_e3, ↓r_call, ↓r_user, ↓r_enot, ↓r_eneg, ↓r_tup, ↓r_lst, ↓r_sl, ↓r_noP, ↓r_aP, ↓r_iOf, ↓r_iF, ↓r_def, ↓r_ref, r_seqNx, r_seqRt, r_seqBk, r_seqCt, r_ifT, r_ifF, r_setV, r_setOt, r_setOl, r_setOd, r_setOs, r_retK, r_retVv, r_retVo, r_asgK, r_tgN, r_tgT, r_tgL, r_tgs0, r_tgs, r_parK, r_ownL, r_ownLo, r_ownD, r_ownDo, r_appK, r_appJ, r_extK, r_extJ, r_stoK, r_stoI, r_stoJ, r_stoL, r_orT, r_orF, r_andT, r_andF, r_vorK, r_vorT, r_vorF, r_vandK, r_vandT, r_vandF, r_notK, r_truK, r_truB, r_truI, r_truL, r_truT, r_truN, r_isBK, r_rdV, r_rdO, r_dV, r_dO, r_valV, r_valL, r_valD, r_rVv, r_rVo, r_rVb, r_eVv, r_uVv, r_uVo, r_uVb, r_uVlK, r_sqK, r_consK, r_opK, r_opJ, r_chK, r_chJ, r_chT, r_chF, r_clK, r_ntK, r_ngK, r_tpK, r_lsK, r_slK, r_slJ, r_slI, r_slL, r_slT, r_aPK, r_sqL, r_sqT, r_sqS, r_rtR, r_rtN, r_refO, r_refE, r_wdK, r_bAdd, r_bSub, r_bMul, r_bDiv, r_bMod, r_bPow, r_cLt, r_cLe, r_cGt, r_cGe, r_cEq, r_cNe, r_ixL, r_ixT, r_of, r_lenL, r_lenT, r_lenS, Pd.R.bind_ok, Pd.R.bind_err, Pd.R.bind_stuck, noE_ok', mul_r, div_i, mod_i, add_i, sub_i, lt_i, le_i, gt_i, ge_i, eq_i, ne_i, pow18, List.cons_append, List.nil_append, List.getElem?_cons_zero, List.getElem?_cons_succ, List.replicate_succ, List.replicate_zero, List.set_cons_zero, List.set_cons_succ, List.length_cons, List.length_nil, if_true, if_false, Bool.not_true, Bool.not_false, Bool.false_eq_true, ↓reduceIte, Nat.reduceAdd, Nat.reduceLeDiff, Nat.reduceLT, Nat.zero_add, Option.map_some, Int.cast_ofNat_Int, Int.natCast_one, Int.natCast_zero, Int.reduceBEq, Int.reduceLT, Int.reduceLE, Int.reduceAdd, Int.reduceSub, Int.reduceMul, Int.reduceNeg, Int.reduceDiv, Int.reduceMod, decide_true, decide_false, r1, r2, r3, q3, q4]
end Lk41

open PySem PySem.W PyProof.Rows
set_option maxRecDepth 100000 in
set_option maxHeartbeats 0 in
theorem PySem.Challenge.cw_leaprings_k41_best_leaps_holds : PySem.Challenge.rw_leaprings_k41_best_leaps.Holds := by
  w_on; o_law; k_head; (case hw => w_witness2)
  k_fill
  refine LamX.walk_ofOwn (l := PySem.Challenge.rw_leaprings_k41_best_leaps) (n := 63) (k := 7) (x := "_law_script") (CX := fun w => L2.CX PySem.Challenge.pw_leaprings_k41_best_leaps w) rfl (by decide) rfl ⟨rfl, by decide, by decide⟩ (by decide +kernel) (fun w h Y => by first | exact PySem.W.km_in_of Y | exact PySem.W.kIn_of Y) ?F (fun _ _ _ _ _ h => by obtain ⟨_, _, _, _, _, _, _, _, _, _, _, _, z⟩ := h; exact z)
  case F =>
    intro w mg fa h Y KX G hmg own
    refine' Lk41.all_mk KX G hmg own Lk41.good ?a0 ?l0 ?c0 ?k0 ?a1 ?l1 ?c1 ?k1 ?a2 ?l2 ?c2 ?k2 ?a3 ?l3 ?c3 ?k3 ?a4 ?l4 ?c4 ?k4 ?a5 ?l5 ?c5 ?k5 ?a6 ?l6 ?c6 ?k6 ?a7 ?l7 ?c7 ?k7 ?a8 ?l8 ?c8 ?k8 ?a9 ?l9 ?c9 ?k9 ?a10 ?l10 ?c10 ?k10 ?a11 ?l11 ?c11 ?k11 ?a12 ?l12 ?c12 ?k12 ?a13 ?l13 ?c13 ?k13 ?a14 ?l14 ?c14 ?k14 ?a15 ?l15 ?c15 ?k15 ?a16 ?l16 ?c16 ?k16 ?a17 ?l17 ?c17 ?k17 ?a18 ?l18 ?c18 ?k18 ?a19 ?l19 ?c19 ?k19 ?lc ?v11 ?hd ?nT ?zb_ValueError ?zb_all ?zb_bool ?zb_int ?zb_isinstance ?zb_len ?zb_list ?zb_max ?zb_min ?zb_range ?zb_set ?zb_sorted ?zb_str ?zb_tuple ?zc_MOST_TRIED ?zc_MOST_TRIED_LEAPS ?xa_LeapError ?xa_NoRing ?xa_NoPlace ?xa_NoNumber ?xa_NotWhole ?xa_NoWay ?xa_NoCounts ?xa_NoPaper ?xa_NoTies ?xa_NoPlaces ?xa_NotTwo ?xa_NoCell ?xa_NoText ?xa_NoDeed ?xa_NoLine ?xf_NoNumber ?xe_NoNumber ?xk_NoNumber ?xb_NoNumber ?xt_NoNumber ?e1_NoNumber ?e2_NoNumber ?e4_NoNumber ?e5_NoNumber ?e8_NoNumber ?w0_NoNumber ?wV_NoNumber ?wL_NoNumber ?w_NoNumber_NoRing ?w_NoNumber_NoPlace ?w_NoNumber_NoNumber ?w_NoNumber_NotWhole ?w_NoNumber_NoWay ?w_NoNumber_NoCounts ?w_NoNumber_NoPaper ?w_NoNumber_NoTies ?w_NoNumber_NoPlaces ?w_NoNumber_NotTwo ?w_NoNumber_NoCell ?w_NoNumber_NoText ?w_NoNumber_NoDeed ?w_NoNumber_NoLine ?e6 ?e7
    (case a0 => k_is)
    (case l0 => k_is)
    (case c0 => k_is)
    (case k0 => k_is)
    (case a1 => k_is)
    (case l1 => k_is)
    (case c1 => k_is)
    (case k1 => k_is)
    (case a2 => k_is)
    (case l2 => k_is)
    (case c2 => k_is)
    (case k2 => k_is)
    (case a3 => k_is)
    (case l3 => k_is)
    (case c3 => k_is)
    (case k3 => k_is)
    (case a4 => k_is)
    (case l4 => k_is)
    (case c4 => k_is)
    (case k4 => k_is)
    (case a5 => k_is)
    (case l5 => k_is)
    (case c5 => k_is)
    (case k5 => k_is)
    (case a6 => k_is)
    (case l6 => k_is)
    (case c6 => k_is)
    (case k6 => k_is)
    (case a7 => k_is)
    (case l7 => k_is)
    (case c7 => k_is)
    (case k7 => k_is)
    (case a8 => k_is)
    (case l8 => k_is)
    (case c8 => k_is)
    (case k8 => k_is)
    (case a9 => k_is)
    (case l9 => k_is)
    (case c9 => k_is)
    (case k9 => k_is)
    (case a10 => k_is)
    (case l10 => k_is)
    (case c10 => k_is)
    (case k10 => k_is)
    (case a11 => k_is)
    (case l11 => k_is)
    (case c11 => k_is)
    (case k11 => k_is)
    (case a12 => k_is)
    (case l12 => k_is)
    (case c12 => k_is)
    (case k12 => k_is)
    (case a13 => k_is)
    (case l13 => k_is)
    (case c13 => k_is)
    (case k13 => k_is)
    (case a14 => k_is)
    (case l14 => k_is)
    (case c14 => k_is)
    (case k14 => k_is)
    (case a15 => k_is)
    (case l15 => k_is)
    (case c15 => k_is)
    (case k15 => k_is)
    (case a16 => k_is)
    (case l16 => k_is)
    (case c16 => k_is)
    (case k16 => k_is)
    (case a17 => k_is)
    (case l17 => k_is)
    (case c17 => k_is)
    (case k17 => k_is)
    (case a18 => k_is)
    (case l18 => k_is)
    (case c18 => k_is)
    (case k18 => k_is)
    (case a19 => k_is)
    (case l19 => k_is)
    (case c19 => k_is)
    (case k19 => k_is)
    (case lc => k_is)
    (case v11 => first | rfl | k_is)
    (case hd => first | rfl | kernel_rfl)
    (case nT => first | rfl | kernel_rfl)
    (case zb_ValueError => k_is)
    (case zb_all => k_is)
    (case zb_bool => k_is)
    (case zb_int => k_is)
    (case zb_isinstance => k_is)
    (case zb_len => k_is)
    (case zb_list => k_is)
    (case zb_max => k_is)
    (case zb_min => k_is)
    (case zb_range => k_is)
    (case zb_set => k_is)
    (case zb_sorted => k_is)
    (case zb_str => k_is)
    (case zb_tuple => k_is)
    (case zc_MOST_TRIED => k_is)
    (case zc_MOST_TRIED_LEAPS => k_is)
    (case xa_LeapError => k_is)
    (case xa_NoRing => k_is)
    (case xa_NoPlace => k_is)
    (case xa_NoNumber => k_is)
    (case xa_NotWhole => k_is)
    (case xa_NoWay => k_is)
    (case xa_NoCounts => k_is)
    (case xa_NoPaper => k_is)
    (case xa_NoTies => k_is)
    (case xa_NoPlaces => k_is)
    (case xa_NotTwo => k_is)
    (case xa_NoCell => k_is)
    (case xa_NoText => k_is)
    (case xa_NoDeed => k_is)
    (case xa_NoLine => k_is)
    (case xf_NoNumber => exact PySem.F.excBase_ValueError)
    (case xe_NoNumber => k_exc)
    (case xk_NoNumber => k_is)
    (case xb_NoNumber => k_is)
    (case xt_NoNumber => k_is)
    (case e1_NoNumber => k_is)
    (case e2_NoNumber => k_is)
    (case e4_NoNumber => k_is)
    (case e5_NoNumber => k_is)
    (case e8_NoNumber => k_is)
    (case w0_NoNumber => first | kts_exm | k_is | k_exc)
    (case wV_NoNumber => first | kit_is | k_is)
    (case wL_NoNumber => first | kit_is | k_is)
    (case w_NoNumber_NoRing => first | kit_is | k_is)
    (case w_NoNumber_NoPlace => first | kit_is | k_is)
    (case w_NoNumber_NoNumber => first | kit_is | k_is)
    (case w_NoNumber_NotWhole => first | kit_is | k_is)
    (case w_NoNumber_NoWay => first | kit_is | k_is)
    (case w_NoNumber_NoCounts => first | kit_is | k_is)
    (case w_NoNumber_NoPaper => first | kit_is | k_is)
    (case w_NoNumber_NoTies => first | kit_is | k_is)
    (case w_NoNumber_NoPlaces => first | kit_is | k_is)
    (case w_NoNumber_NotTwo => first | kit_is | k_is)
    (case w_NoNumber_NoCell => first | kit_is | k_is)
    (case w_NoNumber_NoText => first | kit_is | k_is)
    (case w_NoNumber_NoDeed => first | kit_is | k_is)
    (case w_NoNumber_NoLine => first | kit_is | k_is)
    (case e6 => k_is)
    (case e7 => k_is)

