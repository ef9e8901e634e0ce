import PyProof.Rows.All
import Wide.All
import OpenK.AllK
import Wide.FinOn
import PySem.Challenge.RW_priceblind_k76_whole_thrifty_by_every_pr
import HandS.ForMost
import HandS.Evl
import HandS.Star
import HandS.Style
import HandS.IsInst
import HandS.Codes
import HandS.Defaults
import HandS.DictComp
import HandS.WideBits
import HandS.Deep
import HandS.TupAny
import HandS.SortRule
import HandS.SortInts
import HandS.SortKw
import HandS.Zip
import HandS.Walk
import HandS.More
import HandS.Lambda
import KE.GoesNew
import KE.DatumOrd
import PyProof.ReprRoads
import HandS.SetFor
import HandS.Strs
import HandS.TupSets
import KE.KSuper
import HandS.ClsMeth
import HandS.Small
import KE.KDictSum
import KE.SortKeyHeap
import KE.KLam
import HandS.ExcValue
import HandS.Dict
import HandS.EndBits
import HandS.EndTab
import KE.KStateDown
import HandS.Base
import HandS.Call
import HandS.Ends
import HandS.Words
import HandS.WordsExc
import HandS.Head0
import HandS.Head1
import HandS.Head2
import HandS.HeadEnd
import HandS.HeadHook1
import HandS.HeadHook2
import Lean
set_option Elab.async false
set_option linter.all false
set_option maxRecDepth 100000
set_option maxHeartbeats 4000000
namespace K76
open PySem PySem.Spec PyProof.Rows L2

/-- plain data -/
inductive D where
  | non | bl (b : Bool) | int (i : Int) | str (x : Str) | tup (ds : List D) | lst (ds : List D)
  | obj (c : Str) (fs : List (Str × D))
  | dct (kvs : List (Int × D))
  /-- a tuple of the module's -/
  | kst (ds : List D)
  /-- a list that nobody here may change -/
  | kls (ds : List D)

mutual
inductive Rep (K : PySem.W.Frag) (mg : Str → Option Value) (H : Hp) : V → D → Prop
  | non : Rep K mg H .non .non
  | bl (b : Bool) : Rep K mg H (.bl b) (.bl b)
  | int (i : Int) : Rep K mg H (.int i) (.int i)
  | str (x : Str) : Rep K mg H (.str x) (.str x)
  | tup {a : Addr} {vs : List V} {ds : List D} : H a = some (.tup vs) → Reps K mg H vs ds → Rep K mg H (.ref a) (.tup ds)
  | kst {a : Addr} {vs : List V} {ds : List D} : SqT K H a vs → Reps K mg H vs ds → Rep K mg H (.ref a) (.kst ds)
  | kls {a : Addr} {vs : List V} {ds : List D} : SqL K H a vs → Reps K mg H vs ds → Rep K mg H (.ref a) (.kls ds)
  | lst {a : Addr} {vs : List V} {ds : List D} : H a = some (.lst vs) → Reps K mg H vs ds → Rep K mg H (.ref a) (.lst ds)
  | obj {a C dx : Addr} {c : Str} {fvs : List (Str × V)} {fs : List (Str × D)} : mg c = some (.ref C) → H a = some (.ins C dx fvs) → RepF K mg H fvs fs → Rep K mg H (.ref a) (.obj c fs)
  | dct {a : Addr} {kvs : List (Key × V)} {ks : List (Int × D)} : H a = some (.dK kvs) → RepK K mg H kvs ks → Rep K mg H (.ref a) (.dct ks)
inductive Reps (K : PySem.W.Frag) (mg : Str → Option Value) (H : Hp) : List V → List D → Prop
  | nil : Reps K mg H [] []
  | cons {v : V} {d : D} {vs : List V} {ds : List D} : Rep K mg H v d → Reps K mg H vs ds → Reps K mg H (v :: vs) (d :: ds)
inductive RepF (K : PySem.W.Frag) (mg : Str → Option Value) (H : Hp) : List (Str × V) → List (Str × D) → Prop
  | nil : RepF K mg H [] []
  | cons {f : Str} {v : V} {d : D} {vs : List (Str × V)} {ds : List (Str × D)} : Rep K mg H v d → RepF K mg H vs ds → RepF K mg H ((f, v) :: vs) ((f, d) :: ds)
inductive RepK (K : PySem.W.Frag) (mg : Str → Option Value) (H : Hp) : List (Key × V) → List (Int × D) → Prop
  | nil : RepK K mg H [] []
  | cons {k : Int} {v : V} {d : D} {vs : List (Key × V)} {ds : List (Int × D)} : Rep K mg H v d → RepK K mg H vs ds → RepK K mg H ((Sum.inl k, v) :: vs) ((k, d) :: ds)
end

theorem sm_rd {H H' : Hp} {a : Addr} {u : HO} (e : Same H H') (h : Rd H a u) : Rd H' a u := by
  rcases h with h | ⟨o, h⟩
  · exact .inl (e _ _ h)
  · exact .inr ⟨o, e _ _ h⟩
theorem sm_lsq {K : PySem.W.Frag} {H H' : Hp} {a : Addr} {xs : List V} (e : Same H H') (h : SqL K H a xs) : SqL K H' a xs := h.imp (sm_rd e) id
theorem sm_tup {K : PySem.W.Frag} {H H' : Hp} {a : Addr} {xs : List V} (e : Same H H') (h : SqT K H a xs) : SqT K H' a xs := by
  rcases h with h | h
  · exact .inl (sm_rd e h)
  · exact .inr h

section
variable {K : PySem.W.Frag} {mg : Str → Option Value} {H H' : Hp}
mutual
theorem Rep.mono (e : Same H H') : ∀ {v : V} {d : D}, Rep K mg H v d → Rep K mg H' v d
  | _, _, .non => .non
  | _, _, .bl b => .bl b
  | _, _, .int i => .int i
  | _, _, .str x => .str x
  | _, _, .tup h r => .tup (e _ _ h) (Reps.mono e r)
  | _, _, .kst h r => .kst (sm_tup e h) (Reps.mono e r)
  | _, _, .kls h r => .kls (sm_lsq e h) (Reps.mono e r)
  | _, _, .lst h r => .lst (e _ _ h) (Reps.mono e r)
  | _, _, .obj m h r => .obj m (e _ _ h) (RepF.mono e r)
  | _, _, .dct h r => .dct (e _ _ h) (RepK.mono e r)
theorem Reps.mono (e : Same H H') : ∀ {v : List V} {d : List D}, Reps K mg H v d → Reps K mg H' v d
  | _, _, .nil => .nil
  | _, _, .cons h r => .cons (Rep.mono e h) (Reps.mono e r)
theorem RepF.mono (e : Same H H') : ∀ {v : List (Str × V)} {d : List (Str × D)}, RepF K mg H v d → RepF K mg H' v d
  | _, _, .nil => .nil
  | _, _, .cons h r => .cons (Rep.mono e h) (RepF.mono e r)
theorem RepK.mono (e : Same H H') : ∀ {v : List (Key × V)} {d : List (Int × D)}, RepK K mg H v d → RepK K mg H' v d
  | _, _, .nil => .nil
  | _, _, .cons h r => .cons (Rep.mono e h) (RepK.mono e r)
end
theorem Reps.length : ∀ {vs : List V} {ds : List D}, Reps K mg H vs ds → vs.length = ds.length
  | _, _, .nil => rfl
  | _, _, .cons _ r => congrArg Nat.succ (Reps.length r)
theorem Reps.append : ∀ {vs ws : List V} {ds es : List D}, Reps K mg H vs ds → Reps K mg H ws es → Reps K mg H (vs ++ ws) (ds ++ es)
  | _, _, _, _, .nil, s => s
  | _, _, _, _, .cons h r, s => .cons h (Reps.append r s)
theorem Reps.take : ∀ {vs : List V} {ds : List D} (n : Nat), Reps K mg H vs ds → Reps K mg H (vs.take n) (ds.take n)
  | _, _, 0, _ => .nil
  | _, _, _ + 1, .nil => .nil
  | _, _, n + 1, .cons h r => .cons h (Reps.take n r)
theorem Reps.drop : ∀ {vs : List V} {ds : List D} (n : Nat), Reps K mg H vs ds → Reps K mg H (vs.drop n) (ds.drop n)
  | _, _, 0, h => h
  | _, _, _ + 1, .nil => .nil
  | _, _, n + 1, .cons h r => Reps.drop n r
theorem Reps.reverse {vs : List V} {ds : List D} (h : Reps K mg H vs ds) : Reps K mg H vs.reverse ds.reverse := by
  induction vs generalizing ds with
  | nil => cases h; exact .nil
  | cons v vs ih =>
    cases h with
    | cons h r => rw [List.reverse_cons, List.reverse_cons]; exact (ih r).append (.cons h .nil)
theorem Reps.get : ∀ {vs : List V} {ds : List D} {i : Nat} {d : D}, Reps K mg H vs ds → ds[i]? = some d → ∃ v, vs[i]? = some v ∧ Rep K mg H v d
  | _, _, _, _, .nil, e => by simp at e
  | _, _, 0, _, .cons h r, e => by simp at e; subst e; exact ⟨_, rfl, h⟩
  | _, _, i + 1, d, .cons h r, e => by
    obtain ⟨v, h1, h2⟩ := Reps.get (i := i) (d := d) r (by simpa using e)
    exact ⟨v, by simpa using h1, h2⟩
theorem Reps.getV : ∀ {vs : List V} {ds : List D} {i : Nat} {v : V}, Reps K mg H vs ds → vs[i]? = some v → ∃ d, ds[i]? = some d ∧ Rep K mg H v d
  | _, _, _, _, .nil, e => by simp at e
  | _, _, 0, _, .cons h r, e => by simp at e; subst e; exact ⟨_, rfl, h⟩
  | _, _, i + 1, d, .cons h r, e => by
    obtain ⟨v, h1, h2⟩ := Reps.getV (i := i) (v := d) r (by simpa using e)
    exact ⟨v, by simpa using h1, h2⟩
theorem Reps.set {v : V} {d : D} (h : Rep K mg H v d) : ∀ {vs : List V} {ds : List D} (i : Nat), Reps K mg H vs ds → Reps K mg H (vs.set i v) (ds.set i d)
  | _, _, _, .nil => .nil
  | _, _, 0, .cons _ r => .cons h r
  | _, _, i + 1, .cons q r => .cons q (Reps.set h i r)
theorem Reps.ints : ∀ (ns : List Int), Reps K mg H (ns.map V.int) (ns.map D.int)
  | [] => .nil
  | n :: ns => .cons (.int n) (Reps.ints ns)
theorem Reps.ofInts : ∀ {vs : List V} {ns : List Int}, Reps K mg H vs (ns.map D.int) → vs = ns.map V.int
  | _, [], h => by cases h; rfl
  | _, n :: ns, h => by cases h with | cons h r => cases h; rw [Reps.ofInts r]; rfl
theorem Reps.ofBls : ∀ {vs : List V} {ns : List Bool}, Reps K mg H vs (ns.map D.bl) → vs = ns.map V.bl
  | _, [], h => by cases h; rfl
  | _, n :: ns, h => by cases h with | cons h r => cases h; rw [Reps.ofBls r]; rfl
theorem Rep.int_inv {v : V} {i : Int} (h : Rep K mg H v (.int i)) : v = .int i := by cases h; rfl
theorem Rep.bl_inv {v : V} {i : Bool} (h : Rep K mg H v (.bl i)) : v = .bl i := by cases h; rfl
theorem Rep.str_inv {v : V} {i : Str} (h : Rep K mg H v (.str i)) : v = .str i := by cases h; rfl
theorem Rep.non_inv {v : V} (h : Rep K mg H v .non) : v = .non := by cases h; rfl
theorem Rep.tup_inv {v : V} {ds : List D} (h : Rep K mg H v (.tup ds)) : ∃ a vs, v = .ref a ∧ SqT K H a vs ∧ Reps K mg H vs ds := by cases h with | tup h r => exact ⟨_, _, rfl, SqT.of h, r⟩
theorem Rep.tup_at {v : V} {ds : List D} (h : Rep K mg H v (.tup ds)) : ∃ a vs, v = .ref a ∧ H a = some (.tup vs) ∧ Reps K mg H vs ds := by cases h with | tup h r => exact ⟨_, _, rfl, h, r⟩
theorem Rep.kst_inv {v : V} {ds : List D} (h : Rep K mg H v (.kst ds)) : ∃ a vs, v = .ref a ∧ SqT K H a vs ∧ Reps K mg H vs ds := by cases h with | kst h r => exact ⟨_, _, rfl, h, r⟩
theorem Rep.kls_inv {v : V} {ds : List D} (h : Rep K mg H v (.kls ds)) : ∃ a vs, v = .ref a ∧ SqL K H a vs ∧ Reps K mg H vs ds := by cases h with | kls h r => exact ⟨_, _, rfl, h, r⟩
theorem Rep.lst_inv {v : V} {ds : List D} (h : Rep K mg H v (.lst ds)) : ∃ a vs, v = .ref a ∧ H a = some (.lst vs) ∧ Reps K mg H vs ds := by cases h with | lst h r => exact ⟨_, _, rfl, h, r⟩
theorem Rep.obj_inv {v : V} {c : Str} {fs : List (Str × D)} (h : Rep K mg H v (.obj c fs)) : ∃ a C dx fvs, v = .ref a ∧ mg c = some (.ref C) ∧ H a = some (.ins C dx fvs) ∧ RepF K mg H fvs fs := by cases h with | obj m h r => exact ⟨_, _, _, _, rfl, m, h, r⟩
theorem Rep.dct_inv {v : V} {ks : List (Int × D)} (h : Rep K mg H v (.dct ks)) : ∃ a kvs, v = .ref a ∧ H a = some (.dK kvs) ∧ RepK K mg H kvs ks := by cases h with | dct h r => exact ⟨_, _, rfl, h, r⟩
theorem RepF.lookup : ∀ {fvs : List (Str × V)} {fs : List (Str × D)} {f : Str} {d : D}, RepF K mg H fvs fs → fs.lookup f = some d → ∃ v, fvs.lookup f = some v ∧ Rep K mg H v d
  | _, _, _, _, .nil, e => by simp at e
  | _, _, f, d, @RepF.cons _ _ _ g v d' vs ds h r, e => by
    simp only [List.lookup_cons] at e ⊢
    cases q : (f == g) with
    | true => rw [q] at e; cases e; exact ⟨v, rfl, h⟩
    | false => rw [q] at e; exact RepF.lookup r e
end

/-! ### growth -/
/-- the table of copies_of's code -/
def tabP : Addr := 577
def lamQ : Str := "copies_of.<locals>.<lambda>"
def NT (o : HO) : Prop := ∀ ps, o ≠ .tbl ps
/-- the table is tracked; the codes that it tells are known -/
def TabOk (Hb H : Hp) : Prop := Hb tabP = none ∧ ∃ ps : Array Value, H tabP = some (.tbl ps) ∧ TriplesOk ps.toList ∧ ∀ pos cv, codeAmong pos ps.toList = some cv → ∃ c, cv = .ref c ∧ Hb c = some (LamX.CodeO c lamQ)
theorem TabOk.ne {Hb H : Hp} {a : Addr} (t : TabOk Hb H) (h : H a = none) : tabP ≠ a := fun e => by
  obtain ⟨_, ps, h1, _⟩ := t
  rw [e, h] at h1
  cases h1
theorem TabOk.nt {Hb H : Hp} {a : Addr} {o : HO} (t : TabOk Hb H) (h : H a = some o) (n : NT o) : tabP ≠ a := fun e => by
  obtain ⟨_, ps, h1, _⟩ := t
  rw [e, h] at h1
  cases h1
  exact n ps rfl
theorem TabOk.updH {Hb H : Hp} {a : Addr} {o : HO} (t : TabOk Hb H) (ne : tabP ≠ a) : TabOk Hb (upd H a o) := by
  obtain ⟨h0, ps, h1, h2, h3⟩ := t
  exact ⟨h0, ps, by rw [upd_ne ne]; exact h1, h2, h3⟩
theorem TabOk.updB {Hb H : Hp} {a : Addr} {o : HO} (t : TabOk Hb H) (ne : tabP ≠ a) (hb : Hb a = none) : TabOk (upd Hb a o) H := by
  obtain ⟨h0, ps, h1, h2, h3⟩ := t
  refine ⟨by rw [upd_ne ne]; exact h0, ps, h1, h2, fun pos cv hc => ?_⟩
  obtain ⟨c, e1, e2⟩ := h3 pos cv hc
  exact ⟨c, e1, by rw [upd_ne (ne_of_none e2 hb)]; exact e2⟩
theorem TabOk.mono {Hb Hb2 H : Hp} (t : TabOk Hb H) (b : Same Hb Hb2) (e : Hb2 tabP = Hb tabP) : TabOk Hb2 H := by
  obtain ⟨h0, ps, h1, h2, h3⟩ := t
  refine ⟨e.trans h0, ps, h1, h2, fun pos cv hc => ?_⟩
  obtain ⟨c, e1, e2⟩ := h3 pos cv hc
  exact ⟨c, e1, b _ _ e2⟩
structure Gd (Hb H : Hp) : Prop where
  s : Same Hb H
  t : TabOk Hb H
/-- what the objects of H become: all but tables stay -/
structure Gr (H H2 : Hp) : Prop where
  s : ∀ a o, H a = some o → NT o → H2 a = some o
  k : ∀ a, H a ≠ none → H2 a ≠ none
theorem Gr.of {H H2 : Hp} (e : Same H H2) : Gr H H2 := ⟨fun a o h _ => e a o h, fun a ha h => ha (Same.free e h)⟩
theorem Gr.trans {H H1 H2 : Hp} (x : Gr H H1) (y : Gr H1 H2) : Gr H H2 := ⟨fun a o h n => y.s a o (x.s a o h n) n, fun a h => y.k a (x.k a h)⟩
theorem Gr.no {H H2 : Hp} (x : Gr H H2) {a : Addr} (h : H2 a = none) : H a = none := by
  cases q : H a with
  | none => rfl
  | some o => exact absurd h (x.k a (by rw [q]; exact Option.some_ne_none _))
/-- Hb: what is known; H: all. Behind: more is known, all that was new -/
structure Nw (Hb H Hb2 H2 : Hp) : Prop where
  b : Same Hb Hb2
  i : Same Hb2 H2
  g : Gr H H2
  f : ∀ a, H a ≠ none → Hb2 a = Hb a
  t : TabOk Hb H → TabOk Hb2 H2
theorem Nw.h {Hb H Hb2 H2 : Hp} (n : Nw Hb H Hb2 H2) (a : Addr) (o : HO) (e : H a = some o) (nt : NT o := by exact fun _ z => nomatch z) : H2 a = some o := n.g.s a o e nt
theorem Nw.no {Hb H Hb2 H2 : Hp} (n : Nw Hb H Hb2 H2) {a : Addr} (e : H2 a = none) : H a = none := n.g.no e
theorem Nw.refl {Hb H : Hp} (e : Same Hb H) : Nw Hb H Hb H := ⟨Same.refl _, e, Gr.of (Same.refl _), fun _ _ => rfl, fun t => t⟩
theorem Nw.trans {Hb H Hb1 H1 Hb2 H2 : Hp} (x : Nw Hb H Hb1 H1) (y : Nw Hb1 H1 Hb2 H2) : Nw Hb H Hb2 H2 :=
  ⟨x.b.trans y.b, y.i, x.g.trans y.g, fun a ha => by rw [y.f a (x.g.k a ha), x.f a ha], fun t => y.t (x.t t)⟩
theorem sm_none {H H' : Hp} (e : Same H H') {p : Addr} (h : H' p = none) : H p = none := Same.free e h
theorem sm_upd {H H' : Hp} (e : Same H H') (p : Addr) (o : HO) : Same (upd H p o) (upd H' p o) := fun a u h => by
  by_cases q : a = p
  · subst q; rw [upd_same] at h ⊢; exact h
  · rw [upd_ne q] at h ⊢; exact e a u h
theorem sm_new {H : Hp} {p : Addr} {o : HO} (h : H p = none) : Same H (upd H p o) := fun a u e => by rw [upd_ne (ne_of_none e h)]; exact e
/-- a new known object -/
theorem Nw.new {Hb H : Hp} {p : Addr} {o : HO} (e : Same Hb H) (hp : H p = none) : Nw Hb H (upd Hb p o) (upd H p o) :=
  ⟨sm_new (sm_none e hp), sm_upd e p o, Gr.of (sm_new hp), fun a ha => by rw [upd_ne (fun q => ha (by rw [q]; exact hp))], fun t => (t.updH (t.ne hp)).updB (t.ne hp) (sm_none e hp)⟩
/-- a new object that is not told -/
theorem Nw.more {Hb H : Hp} {p : Addr} {o : HO} (e : Same Hb H) (hp : H p = none) : Nw Hb H Hb (upd H p o) :=
  ⟨Same.refl _, e.trans (sm_new hp), Gr.of (sm_new hp), fun _ _ => rfl, fun t => t.updH (t.ne hp)⟩
/-- an own new object is told from now on -/
theorem Nw.tell {Hb H Hb2 H2 : Hp} {l : Addr} {o : HO} (n : Nw Hb H Hb2 H2) (h : H l = none) (hb : Hb2 l = none) (h2 : H2 l = some o) (nt : NT o := by exact fun _ z => nomatch z) : Nw Hb H (upd Hb2 l o) H2 :=
  ⟨n.b.trans (sm_new hb), fun a u ha => by
      by_cases e : a = l
      · subst e; rw [upd_same] at ha; cases ha; exact h2
      · rw [upd_ne e] at ha; exact n.i a u ha, n.g, fun a ha => by rw [upd_ne (fun z => ha (by rw [z]; exact h))]; exact n.f a ha,
    fun t => (n.t t).updB ((n.t t).nt h2 nt) hb⟩

/-! ### slots -/
inductive Sl where
  | val (d : D)
  /-- a list of the def's own, not shared -/
  | ml (ds : List D)
  /-- a dict of the def's own -/
  | md (kvs : List (Int × D))
  /-- an instance that is being made -/
  | ins (l : Addr) (c : Str) (fs : List (Str × D))
  /-- a list that the caller owns, at l -/
  | pu (l : Addr) (ds : List D)
abbrev Env := List (Option Sl)

/-- an own object at l -/
def Own (K : PySem.W.Frag) (mg : Str → Option Value) (Hb H : Hp) (l : Addr) : Sl → Prop
  | .val _ => False
  | .ml ds => ∃ vs, H l = some (.lst vs) ∧ Reps K mg Hb vs ds
  | .md kvs => ∃ vs, H l = some (.dK vs) ∧ RepK K mg Hb vs kvs
  | .ins l' c fs => l = l' ∧ ∃ C dx fvs, mg c = some (.ref C) ∧ H l = some (.ins C dx fvs) ∧ RepF K mg Hb fvs fs
  | .pu l' ds => l = l' ∧ ∃ vs, H l = some (.lst vs) ∧ Reps K mg Hb vs ds

structure En (K : PySem.W.Frag) (mg : Str → Option Value) (ρ : Env) (σ : L2.St) (Hb H : Hp) : Prop where
  s : Same Hb H
  t : TabOk Hb H
  len : σ.length = ρ.length
  val : ∀ (i : Nat) d, ρ[i]? = some (some (.val d)) → ∃ v, σ[i]? = some (some v) ∧ Rep K mg Hb v d
  own : ∀ (i : Nat) x, ρ[i]? = some (some x) → (∀ d, x ≠ .val d) → ∃ l, σ[i]? = some (some (.ref l)) ∧ Hb l = none ∧ Own K mg Hb H l x
  apart : ∀ (i j : Nat) x y l, ρ[i]? = some (some x) → ρ[j]? = some (some y) → (∀ d, x ≠ .val d) → (∀ d, y ≠ .val d) → σ[i]? = some (some (.ref l)) → σ[j]? = some (some (.ref l)) → i = j
section
variable {K : PySem.W.Frag} {mg : Str → Option Value} {ρ : Env} {σ : L2.St} {Hb H Hb2 H2 : Hp}
theorem Own.mono {l : Addr} {x : Sl} (n : Nw Hb H Hb2 H2) (h : Own K mg Hb H l x) : Own K mg Hb2 H2 l x := by
  cases x with
  | val d => exact h
  | ml ds => obtain ⟨vs, h1, h2⟩ := h; exact ⟨vs, n.h _ _ h1, h2.mono n.b⟩
  | md ds => obtain ⟨vs, h1, h2⟩ := h; exact ⟨vs, n.h _ _ h1, h2.mono n.b⟩
  | ins l' c fs =>
    obtain ⟨e, C, dx, fvs, m, h1, h4⟩ := h
    exact ⟨e, C, dx, fvs, m, n.h _ _ h1, h4.mono n.b⟩
  | pu l' ds => obtain ⟨e, vs, h1, h2⟩ := h; exact ⟨e, vs, n.h _ _ h1, h2.mono n.b⟩
theorem Own.there {l : Addr} {x : Sl} (h : Own K mg Hb H l x) : H l ≠ none := by
  cases x with
  | val d => exact h.elim
  | ml ds => obtain ⟨vs, h1, h2⟩ := h; rw [h1]; exact Option.some_ne_none _
  | md ds => obtain ⟨vs, h1, h2⟩ := h; rw [h1]; exact Option.some_ne_none _
  | ins l' c fs => obtain ⟨_, C, dx, fvs, m, h1, _⟩ := h; rw [h1]; exact Option.some_ne_none _
  | pu l' ds => obtain ⟨_, vs, h1, h2⟩ := h; rw [h1]; exact Option.some_ne_none _
theorem Own.nt {l : Addr} {x : Sl} (h : Own K mg Hb H l x) : ∃ o, H l = some o ∧ NT o := by
  cases x with
  | val d => exact h.elim
  | ml ds => obtain ⟨vs, h1, h2⟩ := h; exact ⟨_, h1, fun _ z => nomatch z⟩
  | md ds => obtain ⟨vs, h1, h2⟩ := h; exact ⟨_, h1, fun _ z => nomatch z⟩
  | ins l' c fs => obtain ⟨_, C, dx, fvs, m, h1, _⟩ := h; exact ⟨_, h1, fun _ z => nomatch z⟩
  | pu l' ds => obtain ⟨_, vs, h1, h2⟩ := h; exact ⟨_, h1, fun _ z => nomatch z⟩
theorem Own.ne {l : Addr} {x : Sl} (h : Own K mg Hb H l x) (t : TabOk Hb H) : tabP ≠ l := let ⟨_, h1, h2⟩ := h.nt; t.nt h1 h2
theorem En.mono (n : Nw Hb H Hb2 H2) (E : En K mg ρ σ Hb H) : En K mg ρ σ Hb2 H2 where
  s := n.i
  t := n.t E.t
  len := E.len
  val := fun i d h => let ⟨v, h1, h2⟩ := E.val i d h; ⟨v, h1, h2.mono n.b⟩
  own := fun i x h hx => let ⟨l, h1, h2, h3⟩ := E.own i x h hx; ⟨l, h1, (n.f l h3.there).trans h2, h3.mono n⟩
  apart := E.apart
end
end K76
set_option maxRecDepth 100000
set_option maxHeartbeats 4000000
namespace K76
open PySem PySem.Spec PyProof.Rows L2

/-! ### the weakest readings -/
def wpE (X : Cx) (e : Expr) : TE := fun σ H Q => ∀ (pins : List (Addr × Obj)) (s : Shared), Inv X pins σ H s → wpAny (model X.prog X.w) X.A (eval e X.env) (EP X pins σ Q) X.xe s
def wpT (X : Cx) (e : Expr) : TT := fun σ H Q => ∀ (pins : List (Addr × Obj)) (s : Shared), Inv X pins σ H s → wpAny (model X.prog X.w) X.A (isTrue e X.env (eval e X.env)) (TP X pins σ Q) X.xe s
def wpW (X : Cx) (e : Expr) : TT := fun σ H Q => ∀ (whole : Sem Value) (pins : List (Addr × Obj)) (s : Shared), Inv X pins σ H s → wpAny (model X.prog X.w) X.A (isTrue e X.env whole) (TP X pins σ Q) X.xe s
def wpA (X : Cx) (es : List Expr) : TA := fun σ H Q => ∀ (pos : Pos) (pins : List (Addr × Obj)) (s : Shared), Inv X pins σ H s → wpAny (model X.prog X.w) X.A (spliced (backTo pos (starEach es X.env))) (AP X pins σ Q) X.xe s
def wpS (X : Cx) (st : Stmt) : TS := fun D σ H => ∀ (pins : List (Addr × Obj)) (s : Shared), Inv X pins σ H s → wpAny (model X.prog X.w) X.A (exec st X.env) (SP X pins D) X.xe s
def wpSs (X : Cx) (st : List Stmt) : TS := fun D σ H => ∀ (pins : List (Addr × Obj)) (s : Shared), Inv X pins σ H s → wpAny (model X.prog X.w) X.A (execs st X.env) (SP X pins D) X.xe s
def wpI (X : Cx) (tg iter : Expr) : TI := fun σ H R => ∀ (pins : List (Addr × Obj)) (s : Shared), Inv X pins σ H s →
  wpAny (model X.prog X.w) X.A (eval iter X.env) (fun v s1 => wpAny (model X.prog X.w) X.A (pyIter v) (PIE X pins σ tg R) X.xe s1) X.xe s
section
variable {X : Cx} {e : Expr} {es : List Expr} {st : Stmt} {sts : List Stmt} {tg iter : Expr} {te : TE} {tt : TT} {ta : TA} {ts : TS} {wi : TI}
theorem peE : PE X e (wpE X e) := ⟨fun pins s _ _ _ I h => h pins s I⟩
theorem peT : PT X e (wpT X e) := ⟨fun pins s _ _ _ I h => h pins s I⟩
theorem peW : PW X e (wpW X e) := ⟨fun w pins s _ _ _ I h => h w pins s I⟩
theorem peA : PA X es (wpA X es) := ⟨fun pos pins s _ _ _ I h => h pos pins s I⟩
theorem peS : PS X st (wpS X st) := ⟨fun pins s _ _ _ I h => h pins s I⟩
theorem peSs : PSs X sts (wpSs X sts) := ⟨fun pins s _ _ _ I h => h pins s I⟩
theorem peI : PI X tg iter (wpI X tg iter) := ⟨fun pins s _ _ _ I h => h pins s I⟩
theorem ofE {σ H Q} (h : PE X e te) (q : te σ H Q) : wpE X e σ H Q := fun pins s I => h.run pins s σ H Q I q
theorem ofT {σ H Q} (h : PT X e tt) (q : tt σ H Q) : wpT X e σ H Q := fun pins s I => h.run pins s σ H Q I q
theorem ofW {σ H Q} (h : PW X e tt) (q : tt σ H Q) : wpW X e σ H Q := fun w pins s I => h.run w pins s σ H Q I q
theorem ofA {σ H Q} (h : PA X es ta) (q : ta σ H Q) : wpA X es σ H Q := fun pos pins s I => h.run pos pins s σ H Q I q
theorem ofS {D σ H} (h : PS X st ts) (q : ts D σ H) : wpS X st D σ H := fun pins s I => h.run pins s σ H D I q
theorem ofSs {D σ H} (h : PSs X sts ts) (q : ts D σ H) : wpSs X sts D σ H := fun pins s I => h.run pins s σ H D I q
theorem ofI {σ H R} (h : PI X tg iter wi) (q : wi σ H R) : wpI X tg iter σ H R := fun pins s I => h.run pins s σ H R I q
end

/-! ### what an expression is worth, over the environment alone -/
section
variable (X : Cx)
def DE (e : Expr) (ρ : Env) (d : D) : Prop := ∀ σ Hb H, En X.K X.mg ρ σ Hb H → ∀ Q : VK, (∀ v Hb2 H2, Nw Hb H Hb2 H2 → Rep X.K X.mg Hb2 v d → Q v H2) → wpE X e σ H Q
/-- a new list -/
def DF (e : Expr) (ρ : Env) (ds : List D) : Prop := ∀ σ Hb H, En X.K X.mg ρ σ Hb H → ∀ Q : VK, (∀ l vs Hb2 H2, Nw Hb H Hb2 H2 → H l = none → Hb2 l = none → H2 l = some (.lst vs) → Reps X.K X.mg Hb2 vs ds → Q (.ref l) H2) → wpE X e σ H Q
def DT (e : Expr) (ρ : Env) (b : Bool) : Prop := ∀ σ Hb H, En X.K X.mg ρ σ Hb H → ∀ Q : Bool → Hp → Prop, (∀ Hb2 H2, Nw Hb H Hb2 H2 → Q b H2) → wpT X e σ H Q
def DW (e : Expr) (ρ : Env) (b : Bool) : Prop := ∀ σ Hb H, En X.K X.mg ρ σ Hb H → ∀ Q : Bool → Hp → Prop, (∀ Hb2 H2, Nw Hb H Hb2 H2 → Q b H2) → wpW X e σ H Q
def DA (es : List Expr) (ρ : Env) (ds : List D) : Prop := ∀ σ Hb H, En X.K X.mg ρ σ Hb H → ∀ Q : List V → Hp → Prop, (∀ vs Hb2 H2, Nw Hb H Hb2 H2 → Reps X.K X.mg Hb2 vs ds → Q vs H2) → wpA X es σ H Q
end
/-- an operation by values -/
def OpD (K : PySem.W.Frag) (mg : Str → Option Value) (r : R2) (x y z : D) : Prop := ∀ Hb H v u, Same Hb H → Rep K mg Hb v x → Rep K mg Hb u y → ∀ Q : VK, (∀ v Hb2 H2, Nw Hb H Hb2 H2 → Rep K mg Hb2 v z → Q v H2) → r v u H Q
/-- a call by values -/
def ClD (K : PySem.W.Frag) (mg : Str → Option Value) (r : List V → Hp → VK → Prop) (xs : List D) (z : D) : Prop := ∀ Hb H vs, Same Hb H → Reps K mg Hb vs xs → ∀ Q : VK, (∀ v Hb2 H2, Nw Hb H Hb2 H2 → Rep K mg Hb2 v z → Q v H2) → r vs H Q

section
variable {X : Cx} {ρ : Env} {a b c e : Expr} {es : List Expr} {pos : Pos} {x y z d : D} {ds : List D} {i j : Int} {p q : Bool}
theorem DE.eq (h : DE X e ρ x) (hx : x = y) : DE X e ρ y := hx ▸ h
theorem DT.eq (h : DT X e ρ p) (hx : p = q) : DT X e ρ q := hx ▸ h
theorem DA.eq {es' : List D} (h : DA X es ρ ds) (hx : ds = es') : DA X es ρ es' := hx ▸ h
theorem DF.eq {es' : List D} (h : DF X e ρ ds) (hx : ds = es') : DF X e ρ es' := hx ▸ h
theorem DF.de (h : DF X e ρ ds) : DE X e ρ (.lst ds) := fun σ Hb H E Q q => h σ Hb H E Q fun l vs Hb2 H2 n hl hb hv r =>
  q (.ref l) (upd Hb2 l (.lst vs)) H2 (n.tell hl hb hv) (.lst upd_same (r.mono (sm_new hb)))
theorem d_var (i : Nat) {x : Str} (hN : X.N[i]? = some x := by rfl) (hv : Vis X.env.scope x := by first | exact Or.inl rfl | exact Or.inr (Or.inl rfl) | exact Or.inr (Or.inr rfl)) (h : ρ[i]? = some (some (.val d)) := by rfl)
    (hd : (x == ("__debug__" : Str)) = false := by decide) (hcd : (x == ("__classdict__" : Str)) = false := by decide) : DE X (.Name x pos) ρ d := fun σ Hb H E Q q => by
  obtain ⟨v, h1, h2⟩ := E.val i d h
  exact ofE (pe_var hN hv hd hcd) ⟨v, h1, q v Hb H (Nw.refl E.s) h2⟩
theorem d_int {k} : DE X (.Constant (.int i) k pos) ρ (.int i) := fun σ Hb H E Q q => ofE pe_int (q _ Hb H (Nw.refl E.s) (.int i))
theorem d_bl {k} : DE X (.Constant (.bool p) k pos) ρ (.bl p) := fun σ Hb H E Q q => ofE pe_bl (q _ Hb H (Nw.refl E.s) (.bl p))
theorem d_non {k} : DE X (.Constant .none k pos) ρ .non := fun σ Hb H E Q q => ofE pe_non (q _ Hb H (Nw.refl E.s) .non)
theorem d_str {x k} : DE X (.Constant (.str x) k pos) ρ (.str x) := fun σ Hb H E Q q => ofE pe_str (q _ Hb H (Nw.refl E.s) (.str x))
/-- a constant of the module -/
def GlD (X : Cx) (x : Str) (d : D) : Prop := ∃ u v, X.mg x = some u ∧ RelV v u ∧ ∀ H, Rep X.K X.mg H v d
theorem d_glob {x : Str} (g : GlD X x d) (hg : Gl X x := by rfl) (hd : (x == ("__debug__" : Str)) = false := by decide) : DE X (.Name x pos) ρ d := fun σ Hb H E Q q => by
  obtain ⟨u, v, h1, h2, h3⟩ := g
  exact ofE (pe_glob hg h1 h2 hd) (q v Hb H (Nw.refl E.s) (h3 Hb))

/-! ### operators -/
theorem d_op {op : Operator} {r : R2} (ho : OpR X (binaryOp op) r) (ha : DE X a ρ x) (hb : DE X b ρ y) (hr : OpD X.K X.mg r x y z) : DE X (.BinOp a op b pos) ρ z := fun σ Hb H E Q q =>
  ofE (pe_op ho peE peE) (ha σ Hb H E _ fun v Hb2 H2 n r => hb σ Hb2 H2 (E.mono n) _ fun u Hb3 H3 n2 r2 => hr Hb3 H3 v u n2.i (r.mono n2.b) r2 Q fun z Hb4 H4 n3 r3 => q z Hb4 H4 (n.trans (n2.trans n3)) r3)
theorem d_cmp {op : CmpOp} {r : R2} (ho : OpR X (compareOp op) r) (ha : DE X a ρ x) (hb : DE X b ρ y) (hr : OpD X.K X.mg r x y z) (hm : behindInMarks op b = false := by first | exact nomark _ | rfl) : DE X (.Compare a [op] [b] pos) ρ z := fun σ Hb H E Q q =>
  ofE (pe_cmpR ho peE peE hm) (ha σ Hb H E _ fun v Hb2 H2 n r => hb σ Hb2 H2 (E.mono n) _ fun u Hb3 H3 n2 r2 => hr Hb3 H3 v u n2.i (r.mono n2.b) r2 Q fun z Hb4 H4 n3 r3 => q z Hb4 H4 (n.trans (n2.trans n3)) r3)
theorem t_cmp {op : CmpOp} {r : R2} (ho : OpR X (compareOp op) r) (ha : DE X a ρ x) (hb : DE X b ρ y) (hr : OpD X.K X.mg r x y (.bl p)) (hm : behindInMarks op b = false := by first | exact nomark _ | rfl) : DT X (.Compare a [op] [b] pos) ρ p := fun σ Hb H E Q q =>
  ofT (pt_cmpR ho peE peE hm) (ha σ Hb H E _ fun v Hb2 H2 n r => hb σ Hb2 H2 (E.mono n) _ fun u Hb3 H3 n2 r2 => hr Hb3 H3 v u n2.i (r.mono n2.b) r2 _ fun z Hb4 H4 n3 r3 => ⟨p, r3.bl_inv, q Hb4 H4 (n.trans (n2.trans n3))⟩)
theorem t_val (h : DE X e ρ (.bl p)) (he : ∀ whole, isTrue e X.env whole = (do let v ← whole; standAt e.pos; holding [v] (truthy v)) := by intro _; rfl) : DT X e ρ p := fun σ Hb H E Q q =>
  ofT (pt_val peE he) (h σ Hb H E _ fun v Hb2 H2 n r => ⟨p, r.bl_inv, q Hb2 H2 n⟩)
theorem t_not (h : DT X e ρ p) : DT X (.UnaryOp .Not e pos) ρ (!p) := fun σ Hb H E Q q => ofT (pt_not peT) (h σ Hb H E _ fun Hb2 H2 n => q Hb2 H2 n)
theorem DW.t (h : DW X e ρ p) : DT X e ρ p := fun σ Hb H E Q q => ofT (PW.pt peW) (h σ Hb H E Q q)
theorem w_and1 (h : DT X a ρ p) : DW X (.BoolOp .And [a] pos) ρ p := fun σ Hb H E Q q => ofW (pw_and1 peT) (h σ Hb H E Q q)
theorem w_or1 (h : DT X a ρ p) : DW X (.BoolOp .Or [a] pos) ρ p := fun σ Hb H E Q q => ofW (pw_or1 peT) (h σ Hb H E Q q)
theorem w_and {rest : List Expr} (h : DT X a ρ p) (h2 : p = true → DW X (.BoolOp .And (b :: rest) pos) ρ q) : DW X (.BoolOp .And (a :: b :: rest) pos) ρ (p && q) := fun σ Hb H E Q k =>
  ofW (pw_and peT peW) (h σ Hb H E _ fun Hb2 H2 n => by
    cases p with
    | true => exact h2 rfl σ Hb2 H2 (E.mono n) Q fun Hb3 H3 n2 => k Hb3 H3 (n.trans n2)
    | false => exact k Hb2 H2 n)
theorem w_or {rest : List Expr} (h : DT X a ρ p) (h2 : p = false → DW X (.BoolOp .Or (b :: rest) pos) ρ q) : DW X (.BoolOp .Or (a :: b :: rest) pos) ρ (p || q) := fun σ Hb H E Q k =>
  ofW (pw_or peT peW) (h σ Hb H E _ fun Hb2 H2 n => by
    cases p with
    | false => exact h2 rfl σ Hb2 H2 (E.mono n) Q fun Hb3 H3 n2 => k Hb3 H3 (n.trans n2)
    | true => exact k Hb2 H2 n)
theorem d_one {op} (h : DE X a ρ d) : DE X (.BoolOp op [a] pos) ρ d := fun σ Hb H E Q q => ofE (pe_one peE) (h σ Hb H E Q q)
theorem d_and {rest : List Expr} (h : DE X a ρ (.bl p)) (h2 : p = true → DE X (.BoolOp .And (b :: rest) pos) ρ (.bl q)) : DE X (.BoolOp .And (a :: b :: rest) pos) ρ (.bl (p && q)) := fun σ Hb H E Q k =>
  ofE (pe_and peE peE) (h σ Hb H E _ fun v Hb2 H2 n r => ⟨p, r.bl_inv, by
    cases p with
    | true => exact h2 rfl σ Hb2 H2 (E.mono n) Q fun v Hb3 H3 n2 r => k v Hb3 H3 (n.trans n2) r
    | false => exact k _ Hb2 H2 n (.bl false)⟩)
theorem d_or {rest : List Expr} (h : DE X a ρ (.bl p)) (h2 : p = false → DE X (.BoolOp .Or (b :: rest) pos) ρ (.bl q)) : DE X (.BoolOp .Or (a :: b :: rest) pos) ρ (.bl (p || q)) := fun σ Hb H E Q k =>
  ofE (pe_or peE peE) (h σ Hb H E _ fun v Hb2 H2 n r => ⟨p, r.bl_inv, by
    cases p with
    | false => exact h2 rfl σ Hb2 H2 (E.mono n) Q fun v Hb3 H3 n2 r => k v Hb3 H3 (n.trans n2) r
    | true => exact k _ Hb2 H2 n (.bl true)⟩)
theorem d_not (h : DE X a ρ (.bl p)) : DE X (.UnaryOp .Not a pos) ρ (.bl (!p)) := fun σ Hb H E Q q => ofE (pe_not peE) (h σ Hb H E _ fun v Hb2 H2 n r => ⟨p, r.bl_inv, q _ Hb2 H2 n (.bl _)⟩)
theorem d_if (hc : DT X c ρ p) (h1 : p = true → DE X a ρ d) (h2 : p = false → DE X b ρ d) : DE X (.IfExp c a b pos) ρ d := fun σ Hb H E Q q => ofE (pe_ifExp peT peE peE) (hc σ Hb H E _ fun Hb2 H2 n => by
  cases p with
  | true => exact h1 rfl σ Hb2 H2 (E.mono n) Q fun v Hb3 H3 n2 r => q v Hb3 H3 (n.trans n2) r
  | false => exact h2 rfl σ Hb2 H2 (E.mono n) Q fun v Hb3 H3 n2 r => q v Hb3 H3 (n.trans n2) r)
/-- ints -/
theorem od_I0 {g : Int → Int → Int} : OpD X.K X.mg (rI0 fun i j => .int (g i j)) (.int i) (.int j) (.int (g i j)) := fun Hb H v u s rv ru Q q => ⟨i, j, rv.int_inv, ru.int_inv, q _ Hb H (Nw.refl s) (.int _)⟩
theorem od_B0 {g : Int → Int → Bool} : OpD X.K X.mg (rI0 fun i j => .bl (g i j)) (.int i) (.int j) (.bl (g i j)) := fun Hb H v u s rv ru Q q => ⟨i, j, rv.int_inv, ru.int_inv, q _ Hb H (Nw.refl s) (.bl _)⟩
theorem od_I {C : Int → Int → Prop} {g : Int → Int → Int} (h : C i j) : OpD X.K X.mg (rI C fun i j => .int (g i j)) (.int i) (.int j) (.int (g i j)) := fun Hb H v u s rv ru Q q => ⟨i, j, rv.int_inv, ru.int_inv, h, q _ Hb H (Nw.refl s) (.int _)⟩
theorem d_add (ha : DE X a ρ (.int i)) (hb : DE X b ρ (.int j)) : DE X (.BinOp a .Add b pos) ρ (.int (i + j)) := d_op op_add ha hb (od_I0 (X := X))
theorem d_sub (ha : DE X a ρ (.int i)) (hb : DE X b ρ (.int j)) : DE X (.BinOp a .Sub b pos) ρ (.int (i - j)) := d_op op_sub ha hb (od_I0 (X := X))
theorem d_mul (ha : DE X a ρ (.int i)) (hb : DE X b ρ (.int j)) (h : CMul i j) : DE X (.BinOp a .Mult b pos) ρ (.int (i * j)) := d_op op_mul ha hb (od_I (X := X) h)
theorem d_fdiv (ha : DE X a ρ (.int i)) (hb : DE X b ρ (.int j)) (h : CDiv i j) : DE X (.BinOp a .FloorDiv b pos) ρ (.int (i / j)) := d_op op_fdiv ha hb (od_I (X := X) h)
theorem d_mod (ha : DE X a ρ (.int i)) (hb : DE X b ρ (.int j)) (h : 0 < j) : DE X (.BinOp a .Mod b pos) ρ (.int (i % j)) := d_op op_mod ha hb (od_I (X := X) (C := fun _ j => 0 < j) h)
theorem d_pow (ha : DE X a ρ (.int i)) (hb : DE X b ρ (.int j)) (h : CPow i j) : DE X (.BinOp a .Pow b pos) ρ (.int (i ^ j.toNat)) := d_op op_pow ha hb (od_I (X := X) h)
theorem d_shl (ha : DE X a ρ (.int i)) (hb : DE X b ρ (.int j)) (h : CPow i j) : DE X (.BinOp a .LShift b pos) ρ (.int (i * 2 ^ j.toNat)) := d_op op_shl ha hb (od_I (X := X) h)
theorem d_lt (ha : DE X a ρ (.int i)) (hb : DE X b ρ (.int j)) : DE X (.Compare a [.Lt] [b] pos) ρ (.bl (decide (i < j))) := d_cmp op_lt ha hb (od_B0 (X := X))
theorem d_le (ha : DE X a ρ (.int i)) (hb : DE X b ρ (.int j)) : DE X (.Compare a [.LtE] [b] pos) ρ (.bl (decide (i ≤ j))) := d_cmp op_le ha hb (od_B0 (X := X))
theorem d_gt (ha : DE X a ρ (.int i)) (hb : DE X b ρ (.int j)) : DE X (.Compare a [.Gt] [b] pos) ρ (.bl (decide (j < i))) := d_cmp op_gt ha hb (od_B0 (X := X))
theorem d_ge (ha : DE X a ρ (.int i)) (hb : DE X b ρ (.int j)) : DE X (.Compare a [.GtE] [b] pos) ρ (.bl (decide (j ≤ i))) := d_cmp op_ge ha hb (od_B0 (X := X))
theorem t_lt (ha : DE X a ρ (.int i)) (hb : DE X b ρ (.int j)) : DT X (.Compare a [.Lt] [b] pos) ρ (decide (i < j)) := t_cmp op_lt ha hb (od_B0 (X := X))
theorem t_le (ha : DE X a ρ (.int i)) (hb : DE X b ρ (.int j)) : DT X (.Compare a [.LtE] [b] pos) ρ (decide (i ≤ j)) := t_cmp op_le ha hb (od_B0 (X := X))
theorem t_gt (ha : DE X a ρ (.int i)) (hb : DE X b ρ (.int j)) : DT X (.Compare a [.Gt] [b] pos) ρ (decide (j < i)) := t_cmp op_gt ha hb (od_B0 (X := X))
theorem t_ge (ha : DE X a ρ (.int i)) (hb : DE X b ρ (.int j)) : DT X (.Compare a [.GtE] [b] pos) ρ (decide (j ≤ i)) := t_cmp op_ge ha hb (od_B0 (X := X))
/-- ==, != of ints, of texts -/
theorem dec_intV : decide (V.int i = V.int j) = decide (i = j) := by
  by_cases h : i = j
  · subst h; simp
  · simp [h]
theorem dec_strV {s t : Str} : decide (V.str s = V.str t) = decide (s = t) := by
  by_cases h : s = t
  · subst h; simp
  · simp [h]
theorem od_eqI : OpD X.K X.mg rEq (.int i) (.int j) (.bl (decide (i = j))) := fun Hb H v u s rv ru Q q => by
  rw [rv.int_inv, ru.int_inv]
  exact ⟨rfl, q _ Hb H (Nw.refl s) (by rw [dec_intV]; exact .bl _)⟩
theorem od_eqS {s t : Str} : OpD X.K X.mg rEq (.str s) (.str t) (.bl (decide (s = t))) := fun Hb H v u e rv ru Q q => by
  rw [rv.str_inv, ru.str_inv]
  exact ⟨rfl, q _ Hb H (Nw.refl e) (by rw [dec_strV]; exact .bl _)⟩
theorem od_neI : OpD X.K X.mg rNe (.int i) (.int j) (.bl (!decide (i = j))) := fun Hb H v u s rv ru Q q => by
  rw [rv.int_inv, ru.int_inv]
  exact ⟨rfl, q _ Hb H (Nw.refl s) (by rw [dec_intV]; exact .bl _)⟩
theorem od_neS {s t : Str} : OpD X.K X.mg rNe (.str s) (.str t) (.bl (!decide (s = t))) := fun Hb H v u e rv ru Q q => by
  rw [rv.str_inv, ru.str_inv]
  exact ⟨rfl, q _ Hb H (Nw.refl e) (by rw [dec_strV]; exact .bl _)⟩
/-- int with None -/
theorem od_neIN : OpD X.K X.mg rNe (.int i) .non (.bl true) := fun Hb H v u s rv ru Q q => by
  rw [rv.int_inv, ru.non_inv]
  exact ⟨rfl, q _ Hb H (Nw.refl s) (.bl _)⟩
theorem d_eqI (ha : DE X a ρ (.int i)) (hb : DE X b ρ (.int j)) : DE X (.Compare a [.Eq] [b] pos) ρ (.bl (decide (i = j))) := d_cmp op_eq ha hb od_eqI
theorem t_eqI (ha : DE X a ρ (.int i)) (hb : DE X b ρ (.int j)) : DT X (.Compare a [.Eq] [b] pos) ρ (decide (i = j)) := t_cmp op_eq ha hb od_eqI
theorem d_neI (ha : DE X a ρ (.int i)) (hb : DE X b ρ (.int j)) : DE X (.Compare a [.NotEq] [b] pos) ρ (.bl (!decide (i = j))) := d_cmp op_ne ha hb od_neI
theorem t_neI (ha : DE X a ρ (.int i)) (hb : DE X b ρ (.int j)) : DT X (.Compare a [.NotEq] [b] pos) ρ (!decide (i = j)) := t_cmp op_ne ha hb od_neI
theorem d_eqS {s t : Str} (ha : DE X a ρ (.str s)) (hb : DE X b ρ (.str t)) : DE X (.Compare a [.Eq] [b] pos) ρ (.bl (decide (s = t))) := d_cmp op_eq ha hb od_eqS
theorem t_eqS {s t : Str} (ha : DE X a ρ (.str s)) (hb : DE X b ρ (.str t)) : DT X (.Compare a [.Eq] [b] pos) ρ (decide (s = t)) := t_cmp op_eq ha hb od_eqS
theorem d_neS {s t : Str} (ha : DE X a ρ (.str s)) (hb : DE X b ρ (.str t)) : DE X (.Compare a [.NotEq] [b] pos) ρ (.bl (!decide (s = t))) := d_cmp op_ne ha hb od_neS
theorem t_neS {s t : Str} (ha : DE X a ρ (.str s)) (hb : DE X b ρ (.str t)) : DT X (.Compare a [.NotEq] [b] pos) ρ (!decide (s = t)) := t_cmp op_ne ha hb od_neS
/-- is None, is not None -/
def isNon : D → Bool
  | .non => true
  | _ => false
theorem Rep.isNon {K : PySem.W.Frag} {mg : Str → Option Value} {H : Hp} {v : V} {d : D} (h : Rep K mg H v d) : decide (v = .non) = isNon d := by
  cases h <;> simp [K76.isNon]
theorem d_isN {k pos'} (ha : DE X a ρ x) : DE X (.Compare a [.Is] [.Constant .none k pos'] pos) ρ (.bl (isNon x)) := fun σ Hb H E Q q =>
  ofE (pe_cmp (pc_isN peE)) (ha σ Hb H E _ fun v Hb2 H2 n r => q _ Hb2 H2 n (by rw [r.isNon]; exact .bl _))
theorem d_notN {k pos'} (ha : DE X a ρ x) : DE X (.Compare a [.IsNot] [.Constant .none k pos'] pos) ρ (.bl (!isNon x)) := fun σ Hb H E Q q =>
  ofE (pe_cmp (pc_notN peE)) (ha σ Hb H E _ fun v Hb2 H2 n r => q _ Hb2 H2 n (by rw [r.isNon]; exact .bl _))
theorem t_isN {k pos'} (ha : DE X a ρ x) : DT X (.Compare a [.Is] [.Constant .none k pos'] pos) ρ (isNon x) := fun σ Hb H E Q q =>
  ofT (pt_cmp (pc_isN peE)) (ha σ Hb H E _ fun v Hb2 H2 n r => ⟨_, rfl, by rw [r.isNon]; exact q Hb2 H2 n⟩)
theorem t_notN {k pos'} (ha : DE X a ρ x) : DT X (.Compare a [.IsNot] [.Constant .none k pos'] pos) ρ (!isNon x) := fun σ Hb H E Q q =>
  ofT (pt_cmp (pc_notN peE)) (ha σ Hb H E _ fun v Hb2 H2 n r => ⟨_, rfl, by rw [r.isNon]; exact q Hb2 H2 n⟩)
/-- a < b < c of ints -/
theorem t_chainLe {k : Int} (ha : DE X a ρ (.int i)) (hb : DE X b ρ (.int j)) (hc : DE X c ρ (.int k)) (hm : lastMarks [CmpOp.LtE, CmpOp.LtE] [b, c] = false := by rfl) : DT X (.Compare a [.LtE, .LtE] [b, c] pos) ρ (decide (i ≤ j) && decide (j ≤ k)) := fun σ Hb H E Q q =>
  ofT (pt_chain op_le op_le peE peE peE hm) (ha σ Hb H E _ fun v Hb2 H2 n r => hb σ Hb2 H2 (E.mono n) _ fun u Hb3 H3 n2 r2 => ⟨i, j, (r.mono n2.b).int_inv, r2.int_inv, decide (i ≤ j), rfl, by
    by_cases h : i ≤ j
    · simp only [h, decide_true, if_true, Bool.true_and] at q ⊢
      exact hc σ Hb3 H3 ((E.mono n).mono n2) _ fun w Hb4 H4 n3 r3 => ⟨j, k, (r2.mono n3.b).int_inv, r3.int_inv, _, rfl, q Hb4 H4 (n.trans (n2.trans n3))⟩
    · simp only [h, decide_false, Bool.false_eq_true, if_false, Bool.false_and] at q ⊢
      exact ⟨_, rfl, q Hb3 H3 (n.trans n2)⟩⟩)
/-! ### arguments, displays -/
theorem a_nil : DA X [] ρ [] := fun σ Hb H E Q q => ofA pa_nil (q [] Hb H (Nw.refl E.s) .nil)
theorem a_cons (h : DE X e ρ d) (h2 : DA X es ρ ds) (hs : starEach (e :: es) X.env = (false, eval e X.env) :: starEach es X.env := by rfl) : DA X (e :: es) ρ (d :: ds) := fun σ Hb H E Q q =>
  ofA (pa_cons peE peA hs) (h σ Hb H E _ fun v Hb2 H2 n r => h2 σ Hb2 H2 (E.mono n) _ fun vs Hb3 H3 n2 r2 => q _ Hb3 H3 (n.trans n2) (.cons (r.mono n2.b) r2))
end
/-- a tuple's, a list's items -/
inductive Sqd : D → List D → Prop
  | tup (ds : List D) : Sqd (.tup ds) ds
  | lst (ds : List D) : Sqd (.lst ds) ds
theorem Sqd.inv {K : PySem.W.Frag} {mg : Str → Option Value} {H : Hp} {v : V} {d : D} {ds : List D} (s : Sqd d ds) (h : Rep K mg H v d) : ∃ a vs, v = .ref a ∧ (SqT K H a vs ∨ SqL K H a vs) ∧ Reps K mg H vs ds := by
  cases s with
  | tup => obtain ⟨a, vs, h1, h2, h3⟩ := h.tup_inv; exact ⟨a, vs, h1, .inl h2, h3⟩
  | lst => obtain ⟨a, vs, h1, h2, h3⟩ := h.lst_inv; exact ⟨a, vs, h1, .inr (SqL.of h2), h3⟩
end K76
set_option maxRecDepth 100000
set_option maxHeartbeats 4000000
namespace K76
open PySem PySem.Spec PyProof.Rows L2
section
variable {X : Cx} {ρ : Env} {a b c e : Expr} {es : List Expr} {pos : Pos} {x y z d : D} {ds : List D} {i j : Int} {p q : Bool}
theorem nwOk {Hb H : Hp} {v : V} (s : Same Hb H) : Nw Hb H Hb H := Nw.refl s
theorem a_star {pos' : Pos} (h : DE X e ρ d) (hd : Sqd d ds) {ds2 : List D} (h2 : DA X es ρ ds2) (hs : starEach (.Starred e pos' :: es) X.env = (true, eval e X.env) :: starEach es X.env := by rfl) : DA X (.Starred e pos' :: es) ρ (ds ++ ds2) := fun σ Hb H E Q q =>
  ofA (StX.pa_star peE peA hs) (h σ Hb H E _ fun v Hb2 H2 n r => by
    obtain ⟨a, vs, rfl, hv, rs⟩ := hd.inv r
    refine ⟨a, vs, rfl, ?_, h2 σ Hb2 H2 (E.mono n) _ fun ws Hb3 H3 n2 r2 => q _ Hb3 H3 (n.trans n2) ((rs.mono n2.b).append r2)⟩
    rcases hv with hv | hv
    · exact .inl (sm_tup n.i hv)
    · exact .inr (Same.seq n.i hv))
theorem d_tup {k} (h : DA X es ρ ds) (hl : ds.length ≤ sizeLine := by first | decide | (show _ ≤ 16777216; decide) | exact Nat.le_of_ble_eq_true rfl) : DE X (.Tuple es k pos) ρ (.tup ds) := fun σ Hb H E Q q =>
  ofE (pe_tup peA) (h σ Hb H E _ fun vs Hb2 H2 n r => ⟨by rw [r.length]; exact hl, fun p hp => q _ _ _ (n.trans (Nw.new n.i hp)) (.tup upd_same (r.mono (sm_new (sm_none n.i hp))))⟩)
theorem f_lst (h : DA X es ρ ds) (hl : ds.length ≤ sizeLine := by first | decide | (show _ ≤ 16777216; decide) | exact Nat.le_of_ble_eq_true rfl) : DF X (.List es pos) ρ ds := fun σ Hb H E Q q =>
  ofE (pe_lst peA) (h σ Hb H E _ fun vs Hb2 H2 n r => ⟨by rw [r.length]; exact hl, fun p hp => q p vs Hb2 _ (n.trans (Nw.more n.i hp)) (Nw.no n hp) (sm_none n.i hp) upd_same r⟩)
theorem d_lst (h : DA X es ρ ds) (hl : ds.length ≤ sizeLine := by first | decide | (show _ ≤ 16777216; decide) | exact Nat.le_of_ble_eq_true rfl) : DE X (.List es pos) ρ (.lst ds) := (f_lst h hl).de
/-! ### subscripts -/
theorem Reps.atI {K : PySem.W.Frag} {mg : Str → Option Value} {H : Hp} {vs : List V} {ds : List D} {d : D} (r : Reps K mg H vs ds) (h : L2.atI ds i = some d) : ∃ v, L2.atI vs i = some v ∧ Rep K mg H v d := by
  unfold L2.atI at h ⊢
  rw [r.length]
  cases e : ixN ds.length i with
  | none => rw [e] at h; cases h
  | some j =>
    rw [e] at h
    obtain ⟨v, h1, h2⟩ := r.get (show ds[j]? = some d from h)
    exact ⟨v, h1, h2⟩
theorem od_ix (hs : Sqd x ds) (h : L2.atI ds i = some z) : OpD X.K X.mg (rIx X.K) x (.int i) z := fun Hb H v u s rv ru Q q => by
  obtain ⟨a, vs, rfl, hv, r⟩ := hs.inv rv
  obtain ⟨w, h1, h2⟩ := r.atI h
  cases ru.int_inv
  rcases hv with hv | hv
  · exact .inr (.inl ⟨a, vs, i, w, rfl, rfl, sm_tup s hv, h1, q _ Hb H (Nw.refl s) h2⟩)
  · exact .inl ⟨a, vs, i, w, rfl, rfl, Same.seq s hv, h1, q _ Hb H (Nw.refl s) h2⟩
theorem d_ixA (ha : DE X a ρ x) (hs : Sqd x ds) (hb : DE X b ρ (.int i)) (h : L2.atI ds i = some z) (hp : PlainIx b := by exact fun _ _ => rfl) : DE X (.Subscript a b pos) ρ z := fun σ Hb H E Q q =>
  ofE (pe_ix ix_seq peE peE hp) (ha σ Hb H E _ fun v Hb2 H2 n r => hb σ Hb2 H2 (E.mono n) _ fun u Hb3 H3 n2 r2 => od_ix (X := X) hs h Hb3 H3 v u n2.i (r.mono n2.b) r2 Q fun z Hb4 H4 n3 r3 => q z Hb4 H4 (n.trans (n2.trans n3)) r3)
theorem atI_of {α : Type} {xs : List α} {i : Int} {v : α} (h0 : 0 ≤ i) (h : xs[i.toNat]? = some v) : L2.atI xs i = some v := by
  have := atI_nat h
  rwa [Int.toNat_of_nonneg h0] at this
/-- t[i], i written -/
theorem d_ix (ha : DE X a ρ x) (hs : Sqd x ds) {n : Nat} {k} {ip : Pos} (h : ds[n]? = some z := by rfl) (hp : PlainIx (.Constant (.int (n : Int)) k ip) := by exact fun _ _ => rfl) : DE X (.Subscript a (.Constant (.int (n : Int)) k ip) pos) ρ z :=
  d_ixA ha hs d_int (atI_nat h) hp
/-! ### slices -/
def cutL {α : Type} (xs : List α) (lo hi : Option Int) : List α := (xs.drop (HT.sIx xs.length 0 lo)).take (HT.sIx xs.length xs.length hi - HT.sIx xs.length 0 lo)
theorem Reps.cut {K : PySem.W.Frag} {mg : Str → Option Value} {H : Hp} {vs : List V} {ds : List D} (r : Reps K mg H vs ds) (lo hi : Option Int) : Reps K mg H (cutV vs lo hi) (cutL ds lo hi) := by
  unfold cutV cutL
  rw [r.length]
  exact (r.drop _).take _
/-- a part of a slice -/
def DO (X : Cx) (e : Option Expr) (ρ : Env) (o : Option Int) : Prop := ∀ σ Hb H, En X.K X.mg ρ σ Hb H → ∃ t, PO X e t ∧ ∀ Q : Option Int → Hp → Prop, (∀ Hb2 H2, Nw Hb H Hb2 H2 → Q o H2) → t σ H Q
theorem o_none : DO X none ρ none := fun σ Hb H E => ⟨_, po_none, fun Q q => q Hb H (Nw.refl E.s)⟩
theorem o_some (h : DE X e ρ (.int i)) : DO X (some e) ρ (some i) := fun σ Hb H E => ⟨_, po_some peE, fun Q q => h σ Hb H E _ fun v Hb2 H2 n r => ⟨i, r.int_inv, q Hb2 H2 n⟩⟩
def wpO (X : Cx) (e : Option Expr) : TO := fun σ H Q => ∀ (pins : List (Addr × Obj)) (s : Shared) , Inv X pins σ H s → ∃ t, PO X e t ∧ t σ H Q
theorem peO {e : Option Expr} : PO X e (wpO X e) := ⟨fun pins s σ H Q I h => by obtain ⟨t, h1, h2⟩ := h pins s I; exact h1.run pins s σ H Q I h2⟩
theorem wpO_of {e : Option Expr} {o : Option Int} (h : DO X e ρ o) {σ Hb H} (E : En X.K X.mg ρ σ Hb H) {Q : Option Int → Hp → Prop} (q : ∀ Hb2 H2, Nw Hb H Hb2 H2 → Q o H2) : wpO X e σ H Q := fun pins s I => by
  obtain ⟨t, h1, h2⟩ := h σ Hb H E
  exact ⟨t, h1, h2 Q q⟩
theorem d_sliceT {lo hi : Option Expr} {l u : Option Int} {p2 : Pos} (ha : DE X a ρ (.tup ds)) (hl : DO X lo ρ l) (hu : DO X hi ρ u) : DE X (.Subscript a (.Slice lo hi none p2) pos) ρ (.tup (cutL ds l u)) := fun σ Hb H E Q q =>
  ofE (pe_slice sl_tupA peE peO peO) (ha σ Hb H E _ fun v Hb2 H2 n r => wpO_of hl (E.mono n) fun Hb3 H3 n2 => wpO_of hu ((E.mono n).mono n2) fun Hb4 H4 n3 => by
    obtain ⟨a, vs, rfl, hv, rs⟩ := (r.mono (n2.trans n3).b).tup_at
    have nn := n.trans (n2.trans n3)
    refine ⟨a, vs, rfl, SqT.of (nn.i _ _ hv), fun hw => q _ Hb4 H4 nn ?_, fun _ p hp => q _ _ _ (nn.trans (Nw.new nn.i hp)) (.tup upd_same ((rs.cut l u).mono (sm_new (sm_none nn.i hp))))⟩
    have e : cutL ds l u = ds := by
      unfold cutL
      rw [← rs.length, hw.1, hw.2, List.drop_zero, Nat.sub_zero, rs.length, List.take_length]
    rw [e]
    exact .tup hv rs)
theorem f_sliceL {lo hi : Option Expr} {l u : Option Int} {p2 : Pos} (ha : DE X a ρ (.lst ds)) (hl : DO X lo ρ l) (hu : DO X hi ρ u) : DF X (.Subscript a (.Slice lo hi none p2) pos) ρ (cutL ds l u) := fun σ Hb H E Q q =>
  ofE (pe_slice sl_list peE peO peO) (ha σ Hb H E _ fun v Hb2 H2 n r => wpO_of hl (E.mono n) fun Hb3 H3 n2 => wpO_of hu ((E.mono n).mono n2) fun Hb4 H4 n3 => by
    obtain ⟨a, vs, rfl, hv, rs⟩ := (r.mono (n2.trans n3).b).lst_inv
    have nn := n.trans (n2.trans n3)
    exact ⟨a, vs, rfl, SqL.of (nn.i _ _ hv), fun p hp => q p _ Hb4 _ (nn.trans (Nw.more nn.i hp)) (Nw.no nn hp) (sm_none nn.i hp) upd_same (rs.cut l u)⟩)
theorem f_sliceK {lo hi : Option Expr} {l u : Option Int} {p2 : Pos} (ha : DE X a ρ (.kls ds)) (hl : DO X lo ρ l) (hu : DO X hi ρ u) : DF X (.Subscript a (.Slice lo hi none p2) pos) ρ (cutL ds l u) := fun σ Hb H E Q q =>
  ofE (pe_slice sl_list peE peO peO) (ha σ Hb H E _ fun v Hb2 H2 n r => wpO_of hl (E.mono n) fun Hb3 H3 n2 => wpO_of hu ((E.mono n).mono n2) fun Hb4 H4 n3 => by
    obtain ⟨a, vs, rfl, hv, rs⟩ := (r.mono (n2.trans n3).b).kls_inv
    have nn := n.trans (n2.trans n3)
    exact ⟨a, vs, rfl, sm_lsq nn.i hv, fun p hp => q p _ Hb4 _ (nn.trans (Nw.more nn.i hp)) (Nw.no nn hp) (sm_none nn.i hp) upd_same (rs.cut l u)⟩)
/-! ### fields -/
structure ClF (X : Cx) (c f : Str) : Prop where
  ok : ∀ C, X.mg c = some (.ref C) → Cls X.K C ∧ NoAttr X.K C f
theorem d_fld {c f : Str} {fs : List (Str × D)} (ha : DE X a ρ (.obj c fs)) (hc : ClF X c f) (hl : fs.lookup f = some d := by rfl) (hb : attributeBase a f X.env (eval a X.env) = eval a X.env := by rfl) : DE X (.Attribute a f pos) ρ d := fun σ Hb H E Q q =>
  ofE (pe_fld peE hb) (ha σ Hb H E _ fun v Hb2 H2 n r => by
    obtain ⟨a, C, dx, fvs, rfl, hm, hh, rf⟩ := r.obj_inv
    obtain ⟨w, h1, h2⟩ := rf.lookup hl
    exact ⟨a, C, dx, fvs, w, rfl, n.i _ _ hh, (hc.ok C hm).1, (hc.ok C hm).2, h1, q w Hb2 H2 n h2⟩)
/-! ### calls of built-ins -/
theorem d_callB {id : String} {x : Str} {np : Pos} {r : List V → Hp → VK → Prop} {xs : List D} (hc : CallR X (.builtin id) r) (hm : X.mg x = none) (hv : bootBuiltins x = some (.builtin id)) (ha : DA X (e :: es) ρ xs) (hr : ClD X.K X.mg r xs z) (hg : Gl X x := by rfl)
    (hn : x ≠ "__name__" := by decide) (hdb : (x == ("__debug__" : Str)) = false := by decide) (he : starEach (e :: es) X.env = (false, eval e X.env) :: starEach es X.env := by rfl) (hpl : (backTo pos (starEach es X.env)).any (·.1) = false := by rfl) : DE X (.Call (.Name x np) (e :: es) [] pos) ρ z := fun σ Hb H E Q q =>
  ofE (pe_callB hc hg hm hv peA hn hdb he hpl) (ha σ Hb H E _ fun vs Hb2 H2 n rs => hr Hb2 H2 vs n.i rs Q fun v Hb3 H3 n2 r2 => q v Hb3 H3 (n.trans n2) r2)
theorem d_callTy {T : String} {x : Str} {np : Pos} {r : List V → Hp → VK → Prop} {xs : List D} (hc : CallR X (.type T) r) (hm : X.mg x = none) (hv : bootBuiltins x = some (.type T)) (ha : DA X (e :: es) ρ xs) (hr : ClD X.K X.mg r xs z) (hg : Gl X x := by rfl)
    (hn : x ≠ "__name__" := by decide) (hdb : (x == ("__debug__" : Str)) = false := by decide) (he : starEach (e :: es) X.env = (false, eval e X.env) :: starEach es X.env := by rfl) (hpl : (backTo pos (starEach es X.env)).any (·.1) = false := by rfl) : DE X (.Call (.Name x np) (e :: es) [] pos) ρ z := fun σ Hb H E Q q =>
  ofE (pe_callTy hc hg hm hv peA hn hdb he hpl) (ha σ Hb H E _ fun vs Hb2 H2 n rs => hr Hb2 H2 vs n.i rs Q fun v Hb3 H3 n2 r2 => q v Hb3 H3 (n.trans n2) r2)
theorem Reps.one {K : PySem.W.Frag} {mg : Str → Option Value} {H : Hp} {vs : List V} (r : Reps K mg H vs [d]) : ∃ v, vs = [v] ∧ Rep K mg H v d := by
  cases r with | cons h r => cases r; exact ⟨_, rfl, h⟩
theorem Reps.two {K : PySem.W.Frag} {mg : Str → Option Value} {H : Hp} {vs : List V} (r : Reps K mg H vs [x, y]) : ∃ v u, vs = [v, u] ∧ Rep K mg H v x ∧ Rep K mg H u y := by
  cases r with | cons h r => obtain ⟨u, rfl, h2⟩ := r.one; exact ⟨_, _, rfl, h, h2⟩
theorem cd_len (hs : Sqd x ds) : ClD X.K X.mg (fun xs H Q => ∃ p ys, xs = [.ref p] ∧ (SqL X.K H p ys ∨ SqT X.K H p ys) ∧ Q (.int ys.length) H) [x] (.int (ds.length : Int)) := fun Hb H vs s r Q q => by
  obtain ⟨v, rfl, rv⟩ := r.one
  obtain ⟨a, vs, rfl, hv, rs⟩ := hs.inv rv
  refine ⟨a, vs, rfl, ?_, ?_⟩
  · rcases hv with hv | hv
    · exact .inr (sm_tup s hv)
    · exact .inl (Same.seq s hv)
  · rw [rs.length]; exact q _ Hb H (Nw.refl s) (.int _)
theorem d_len {np : Pos} (hm : X.mg "len" = none) (ha : DE X a ρ x) (hs : Sqd x ds) (hg : Gl X "len" := by rfl) (st : starEach [a] X.env = (false, eval a X.env) :: starEach [] X.env := by rfl) : DE X (.Call (.Name "len" np) [a] [] pos) ρ (.int (ds.length : Int)) :=
  d_callB call_len_seq hm PySem.boot_len (a_cons ha a_nil st) (cd_len hs) hg (he := st)
/-- sum of a list of ints, all, any of a list of bools -/
theorem map_int_inv {α : Type} {K : PySem.W.Frag} {mg : Str → Option Value} {H : Hp} {vs : List V} {xs : List α} {f : α → Int} (r : Reps K mg H vs (xs.map fun x => .int (f x))) : vs = (xs.map f).map V.int := by
  have : (xs.map fun x => D.int (f x)) = (xs.map f).map D.int := by rw [List.map_map]; rfl
  rw [this] at r
  exact r.ofInts
theorem map_bl_inv {α : Type} {K : PySem.W.Frag} {mg : Str → Option Value} {H : Hp} {vs : List V} {xs : List α} {f : α → Bool} (r : Reps K mg H vs (xs.map fun x => .bl (f x))) : vs = (xs.map f).map V.bl := by
  have : (xs.map fun x => D.bl (f x)) = (xs.map f).map D.bl := by rw [List.map_map]; rfl
  rw [this] at r
  exact r.ofBls
theorem d_sum {α : Type} {xs : List α} {f : α → Int} {np : Pos} (hm : X.mg "sum" = none) (ha : DE X a ρ (.lst (xs.map fun x => .int (f x)))) (hc : X.calm = true := by rfl) (hg : Gl X "sum" := by rfl) (st : starEach [a] X.env = (false, eval a X.env) :: starEach [] X.env := by rfl) :
    DE X (.Call (.Name "sum" np) [a] [] pos) ρ (.int (xs.map f).sum) :=
  d_callB (cr_sum hc) hm (by decide +kernel) (a_cons ha a_nil st) (fun Hb H vs s r Q q => by
    obtain ⟨v, rfl, rv⟩ := r.one
    obtain ⟨p, vs, rfl, hv, rs⟩ := rv.lst_inv
    rw [map_int_inv rs] at hv
    exact ⟨p, xs.map f, rfl, SqL.of (s _ _ hv), q _ Hb H (Nw.refl s) (.int _)⟩) hg (he := st)
theorem d_all {α : Type} {xs : List α} {f : α → Bool} {np : Pos} (hm : X.mg "all" = none) (ha : DE X a ρ (.lst (xs.map fun x => .bl (f x)))) (hc : X.calm = true := by rfl) (hg : Gl X "all" := by rfl) (st : starEach [a] X.env = (false, eval a X.env) :: starEach [] X.env := by rfl) :
    DE X (.Call (.Name "all" np) [a] [] pos) ρ (.bl (xs.all f)) :=
  d_callB (cr_all hc) hm (by decide +kernel) (a_cons ha a_nil st) (fun Hb H vs s r Q q => by
    obtain ⟨v, rfl, rv⟩ := r.one
    obtain ⟨p, vs, rfl, hv, rs⟩ := rv.lst_inv
    rw [map_bl_inv rs] at hv
    refine ⟨p, xs.map f, rfl, SqL.of (s _ _ hv), q _ Hb H (Nw.refl s) ?_⟩
    rw [List.all_map]
    exact .bl _) hg (he := st)
theorem d_any {α : Type} {xs : List α} {f : α → Bool} {np : Pos} (hm : X.mg "any" = none) (ha : DE X a ρ (.lst (xs.map fun x => .bl (f x)))) (hc : X.calm = true := by rfl) (hg : Gl X "any" := by rfl) (st : starEach [a] X.env = (false, eval a X.env) :: starEach [] X.env := by rfl) :
    DE X (.Call (.Name "any" np) [a] [] pos) ρ (.bl (xs.any f)) :=
  d_callB (cr_any hc) hm (by decide +kernel) (a_cons ha a_nil st) (fun Hb H vs s r Q q => by
    obtain ⟨v, rfl, rv⟩ := r.one
    obtain ⟨p, vs, rfl, hv, rs⟩ := rv.lst_inv
    rw [map_bl_inv rs] at hv
    refine ⟨p, xs.map f, rfl, SqL.of (s _ _ hv), q _ Hb H (Nw.refl s) ?_⟩
    rw [List.any_map]
    exact .bl _) hg (he := st)
end
end K76
set_option maxRecDepth 100000
set_option maxHeartbeats 4000000
namespace K76
open PySem PySem.Spec PyProof.Rows L2
/-! ### targets -/
inductive Pat where
  | nm (i : Nat) | tp (ps : List Pat)
mutual
def Pat.slots : Pat → List Nat
  | .nm i => [i]
  | .tp ps => Pat.slotsA ps
def Pat.slotsA : List Pat → List Nat
  | [] => []
  | p :: ps => p.slots ++ Pat.slotsA ps
end
mutual
def bindP : Pat → D → Env → Option Env
  | .nm i, d, ρ => some (ρ.set i (some (.val d)))
  | .tp ps, .tup ds, ρ => bindPs ps ds ρ
  | .tp _, _, _ => none
def bindPs : List Pat → List D → Env → Option Env
  | [], [], ρ => some ρ
  | p :: ps, d :: ds, ρ => (bindP p d ρ).bind fun ρ' => bindPs ps ds ρ'
  | _, _, _ => none
end
mutual
def gPat (K : PySem.W.Frag) : Pat → TG
  | .nm i => gName i
  | .tp ps => gTup K ps.length (gPats K ps)
def gPats (K : PySem.W.Frag) : List Pat → TGs
  | [] => gNil
  | p :: ps => gCons (gPat K p) (gPats K ps)
end
section
variable {X : Cx} {pos : Pos}
theorem g_nm (i : Nat) {x : Str} (hN : X.N.Nodup) (hi : X.N[i]? = some x := by rfl) (hx : Loc X.env.scope x := by first | exact Or.inl rfl | exact Or.inr rfl) (hf : X.fn x = true ∨ X.env.scope.names.lookup x = some .local := by first | exact .inl rfl | exact .inr rfl) : PG X (.Name x pos) (gPat X.K (.nm i)) := pg_name hN hi hx hf
theorem g_tp {es : List Expr} {k : Nat} {ps : List Pat} (h : PGs X es (gPats X.K ps)) (hc : X.calm = true := by rfl) (hn : (assignEach es X.env).length = ps.length := by rfl) (hst : (assignEach es X.env).findIdx? (·.1) = none := by rfl) : PG X (.Tuple es k pos) (gPat X.K (.tp ps)) := pg_tup hc h hn hst
theorem gs_nil : PGs X [] (gPats X.K []) := pgs_nil
theorem gs_cons {e : Expr} {es : List Expr} {p : Pat} {ps : List Pat} (h : PG X e (gPat X.K p)) (h2 : PGs X es (gPats X.K ps)) (hs : (assignEach (e :: es) X.env).map (·.2) = assign e X.env :: (assignEach es X.env).map (·.2) := by rfl) : PGs X (e :: es) (gPats X.K (p :: ps)) := pgs_cons h h2 hs
end

theorem wipe_set_in {σ : L2.St} {i : Nat} {x : Option V} : ∀ {vs : List Nat}, i ∈ vs → wipe (σ.set i x) vs = wipe σ vs
  | v :: vs, h => by
    unfold wipe
    by_cases hi : i ∈ vs
    · rw [wipe_set_in hi]
    · have e : i = v := by
        rcases List.mem_cons.mp h with e | e
        · exact e
        · exact absurd e hi
      subst e
      have : ∀ {vs : List Nat} {σ : L2.St}, i ∉ vs → wipe (σ.set i x) vs = (wipe σ vs).set i x := by
        intro vs
        induction vs with
        | nil => intro σ _; rfl
        | cons w ws ih =>
          intro σ hn
          have h1 : i ≠ w := fun z => hn (by rw [z]; exact List.mem_cons_self)
          have h2 : i ∉ ws := fun z => hn (List.mem_cons_of_mem _ z)
          show (wipe (σ.set i x) ws).set w none = ((wipe σ ws).set w none).set i x
          rw [ih h2, List.set_comm _ _ (h1)]
      rw [this hi, List.set_set]
theorem wipe_at {σ : L2.St} {i : Nat} : ∀ {vs : List Nat}, i ∈ vs → i < σ.length → (wipe σ vs)[i]? = some none
  | v :: vs, h, hl => by
    show ((wipe σ vs).set v none)[i]? = some none
    by_cases e : v = i
    · subst e
      rw [List.getElem?_set_self (by rw [wipe_length]; exact hl)]
    · rw [List.getElem?_set_ne e]
      rcases List.mem_cons.mp h with h | h
      · exact absurd h.symm e
      · exact wipe_at h hl
theorem wipe_wipe (σ : L2.St) (vs : List Nat) : wipe (wipe σ vs) vs = wipe σ vs := by
  refine List.ext_getElem? fun i => ?_
  by_cases h : i ∈ vs
  · by_cases hl : i < σ.length
    · rw [wipe_at h (by rw [wipe_length]; exact hl), wipe_at h hl]
    · rw [List.getElem?_eq_none (by rw [wipe_length, wipe_length]; omega), List.getElem?_eq_none (by rw [wipe_length]; omega)]
  · rw [wipe_out h, wipe_out h]
/-- the environment without some slots -/
def wipeR (ρ : Env) : List Nat → Env
  | [] => ρ
  | v :: vs => (wipeR ρ vs).set v none
theorem wipeR_some {ρ : Env} {i : Nat} {x : Sl} : ∀ {vs : List Nat}, (wipeR ρ vs)[i]? = some (some x) → ρ[i]? = some (some x) ∧ i ∉ vs
  | [], h => ⟨h, by simp⟩
  | v :: vs, h => by
    have h : ((wipeR ρ vs).set v none)[i]? = some (some x) := h
    by_cases hi : v = i
    · subst hi
      by_cases hv : v < (wipeR ρ vs).length
      · rw [List.getElem?_set_self hv] at h; cases h
      · rw [List.getElem?_eq_none (by simpa using hv)] at h; cases h
    · rw [List.getElem?_set_ne hi] at h
      obtain ⟨h1, h2⟩ := wipeR_some h
      exact ⟨h1, by simp only [List.mem_cons, not_or]; exact ⟨fun e => hi e.symm, h2⟩⟩
theorem wipeR_length (ρ : Env) : ∀ vs : List Nat, (wipeR ρ vs).length = ρ.length
  | [] => rfl
  | v :: vs => by unfold wipeR; rw [List.length_set, wipeR_length ρ vs]
section
variable {K : PySem.W.Frag} {mg : Str → Option Value} {ρ ρ' : Env} {σ : L2.St} {Hb H : Hp}
theorem En.wipe (E : En K mg ρ σ Hb H) (vs : List Nat) : En K mg (wipeR ρ vs) (L2.wipe σ vs) Hb H where
  s := E.s
  t := E.t
  len := by rw [wipe_length, wipeR_length]; exact E.len
  val := fun i d h => by obtain ⟨h1, h2⟩ := wipeR_some h; rw [wipe_out h2]; exact E.val i d h1
  own := fun i x h hx => by obtain ⟨h1, h2⟩ := wipeR_some h; rw [wipe_out h2]; exact E.own i x h1 hx
  apart := fun i j x y l hi hj hx hy e1 e2 => by
    obtain ⟨h1, h2⟩ := wipeR_some hi
    obtain ⟨h3, h4⟩ := wipeR_some hj
    rw [wipe_out h2] at e1
    rw [wipe_out h4] at e2
    exact E.apart i j x y l h1 h3 hx hy e1 e2
theorem En.set_val (E : En K mg ρ σ Hb H) {i : Nat} {v : V} {d : D} (r : Rep K mg Hb v d) : En K mg (ρ.set i (some (.val d))) (σ.set i (some v)) Hb H := by
  have ne : ∀ {j : Nat} {x : Sl}, (ρ.set i (some (.val d)))[j]? = some (some x) → (∀ d, x ≠ .val d) → i ≠ j := fun {j x} h hx z => by
    subst z
    have hj : i < ρ.length := by
      have := (List.getElem?_eq_some_iff.mp h).1
      simpa using this
    rw [List.getElem?_set_self hj] at h
    cases h
    exact hx d rfl
  have hl := E.len
  refine ⟨E.s, E.t, by simp [hl], fun j e h => ?_, fun j x h hx => ?_, fun j k x y l hj hk hx hy e1 e2 => ?_⟩
  · by_cases hij : i = j
    · subst hij
      have hj : i < ρ.length := by
        have := (List.getElem?_eq_some_iff.mp h).1
        simpa using this
      rw [List.getElem?_set_self hj] at h
      cases h
      exact ⟨v, List.getElem?_set_self (by omega), r⟩
    · rw [List.getElem?_set_ne hij] at h ⊢
      exact E.val j e h
  · have hij := ne h hx
    rw [List.getElem?_set_ne hij] at h ⊢
    exact E.own j x h hx
  · have h1 := ne hj hx
    have h2 := ne hk hy
    rw [List.getElem?_set_ne h1] at hj e1
    rw [List.getElem?_set_ne h2] at hk e2
    exact E.apart j k x y l hj hk hx hy e1 e2
mutual
theorem gPat_ok : ∀ (p : Pat) (d : D) (ρ ρ' : Env) (σ : L2.St) (v : V), bindP p d ρ = some ρ' → En K mg ρ σ Hb H → Rep K mg Hb v d →
    ∃ σ', En K mg ρ' σ' Hb H ∧ (∀ vs, (∀ i ∈ p.slots, i ∈ vs) → L2.wipe σ' vs = L2.wipe σ vs) ∧ (∀ i, i ∉ p.slots → σ'[i]? = σ[i]? ∧ ρ'[i]? = ρ[i]?) ∧ ∀ Q : L2.St → Hp → Prop, Q σ' H → gPat K p v σ H Q
  | .nm i, d, ρ, ρ', σ, v, h, E, r => by
    cases h
    refine ⟨σ.set i (some v), E.set_val r, fun vs hv => wipe_set_in (hv i (List.mem_singleton.mpr rfl)), fun j hj => ?_, fun Q q => q⟩
    have : i ≠ j := fun z => hj (by rw [z]; exact List.mem_singleton.mpr rfl)
    exact ⟨List.getElem?_set_ne this, List.getElem?_set_ne this⟩
  | .tp ps, d, ρ, ρ', σ, v, h, E, r => by
    cases d with
    | tup ds =>
      obtain ⟨a, vs, rfl, hv, rs⟩ := r.tup_inv
      obtain ⟨σ', E', w, o, k, lps⟩ := gPats_ok ps ds ρ ρ' σ vs h E rs
      exact ⟨σ', E', w, o, fun Q q => ⟨a, vs, rfl, sm_tup E.s hv, lps, k Q q⟩⟩
    | _ => cases h
theorem gPats_ok : ∀ (ps : List Pat) (ds : List D) (ρ ρ' : Env) (σ : L2.St) (vs : List V), bindPs ps ds ρ = some ρ' → En K mg ρ σ Hb H → Reps K mg Hb vs ds →
    ∃ σ', En K mg ρ' σ' Hb H ∧ (∀ vs, (∀ i ∈ Pat.slotsA ps, i ∈ vs) → L2.wipe σ' vs = L2.wipe σ vs) ∧ (∀ i, i ∉ Pat.slotsA ps → σ'[i]? = σ[i]? ∧ ρ'[i]? = ρ[i]?) ∧ (∀ Q : L2.St → Hp → Prop, Q σ' H → gPats K ps vs σ H Q) ∧ vs.length = ps.length
  | [], ds, ρ, ρ', σ, vs, h, E, r => by
    cases ds with
    | nil =>
      cases h
      cases r
      exact ⟨σ, E, fun _ _ => rfl, fun _ _ => ⟨rfl, rfl⟩, fun Q q => ⟨rfl, q⟩, rfl⟩
    | cons d ds => cases h
  | p :: ps, ds, ρ, ρ', σ, vs, h, E, r => by
    cases ds with
    | nil => cases h
    | cons d ds =>
      have h : ((bindP p d ρ).bind fun ρ' => bindPs ps ds ρ') = some ρ' := h
      cases e : bindP p d ρ with
      | none => rw [e] at h; cases h
      | some ρ1 =>
        rw [e] at h
        cases r with
        | cons r rs =>
          obtain ⟨σ1, E1, w1, o1, k1⟩ := gPat_ok p d ρ ρ1 σ _ e E r
          obtain ⟨σ2, E2, w2, o2, k2, lps⟩ := gPats_ok ps ds ρ1 ρ' σ1 _ h E1 rs
          refine ⟨σ2, E2, fun ws hw => ?_, fun i hi => ?_, fun Q q => ⟨_, _, rfl, k1 _ (k2 Q q)⟩, congrArg Nat.succ lps⟩
          · rw [w2 ws fun i hi => hw i (List.mem_append_right _ hi), w1 ws fun i hi => hw i (List.mem_append_left _ hi)]
          · have h1 : i ∉ p.slots := fun z => hi (List.mem_append_left _ z)
            have h2 : i ∉ Pat.slotsA ps := fun z => hi (List.mem_append_right _ z)
            exact ⟨(o2 i h2).1.trans (o1 i h1).1, (o2 i h2).2.trans (o1 i h1).2⟩
end
theorem bindP_len : (∀ (p : Pat) (d : D) (ρ ρ' : Env), bindP p d ρ = some ρ' → ρ'.length = ρ.length) := by
  intro p
  refine Pat.rec (motive_1 := fun p => ∀ (d : D) (ρ ρ' : Env), bindP p d ρ = some ρ' → ρ'.length = ρ.length) (motive_2 := fun ps => ∀ (ds : List D) (ρ ρ' : Env), bindPs ps ds ρ = some ρ' → ρ'.length = ρ.length) ?_ ?_ ?_ ?_ p
  · intro i d ρ ρ' h; cases h; simp
  · intro ps ih d ρ ρ' h
    cases d with
    | tup ds => exact ih ds ρ ρ' h
    | _ => cases h
  · intro ds ρ ρ' h
    cases ds with
    | nil => cases h; rfl
    | cons d ds => cases h
  · intro p ps ih1 ih2 ds ρ ρ' h
    cases ds with
    | nil => cases h
    | cons d ds =>
      have h : ((bindP p d ρ).bind fun ρ' => bindPs ps ds ρ') = some ρ' := h
      cases e : bindP p d ρ with
      | none => rw [e] at h; cases h
      | some ρ1 => rw [e] at h; exact (ih2 ds ρ1 ρ' h).trans (ih1 d ρ ρ1 e)
end
end K76
set_option maxRecDepth 100000
set_option maxHeartbeats 4000000
namespace K76
open PySem PySem.Spec PyProof.Rows L2
/-- an own object changes -/
theorem Nw.put {Hb H Hb2 H2 : Hp} {l : Addr} {o : HO} (n : Nw Hb H Hb2 H2) (h : H l = none) (hb : Hb2 l = none) : Nw Hb H Hb2 (upd H2 l o) where
  b := n.b
  i := fun a u ha => by rw [upd_ne (ne_of_none ha hb)]; exact n.i a u ha
  g := ⟨fun a u ha nt => by rw [upd_ne (ne_of_none ha h)]; exact n.g.s a u ha nt, fun a ha => by
    by_cases e : a = l
    · subst e; rw [upd_same]; exact Option.some_ne_none _
    · rw [upd_ne e]; exact n.g.k a ha⟩
  t := fun t => (n.t t).updH (t.ne h)
  f := n.f
def er (H : Hp) (l : Addr) : Hp := fun a => if a = l then none else H a
theorem er_ne {H : Hp} {l a : Addr} (h : a ≠ l) : er H l a = H a := if_neg h
theorem er_at {H : Hp} {l : Addr} : er H l l = none := if_pos rfl
section
variable {Hb H Hb2 H2 : Hp} {l : Addr} {o : HO}
theorem TabOk.cg (t : TabOk Hb H) (e : H2 tabP = H tabP) : TabOk Hb H2 := by
  obtain ⟨h0, ps, h1, h2, h3⟩ := t
  exact ⟨h0, ps, e.trans h1, h2, h3⟩
theorem TabOk.er (t : TabOk Hb H) (ne : tabP ≠ l) : TabOk Hb (er H l) := t.cg (er_ne ne)
theorem TabOk.unEr (t : TabOk Hb (K76.er H l)) : TabOk Hb H := t.cg (er_ne (t.ne er_at)).symm
theorem er_some {a : Addr} {u : HO} (h : er H l a = some u) : a ≠ l ∧ H a = some u := by
  by_cases e : a = l
  · subst e; rw [er_at] at h; cases h
  · exact ⟨e, by rw [← er_ne (H := H) e]; exact h⟩
theorem er_there {a : Addr} (h : er H l a ≠ none) : a ≠ l ∧ H a ≠ none := by
  by_cases e : a = l
  · subst e; exact absurd er_at h
  · exact ⟨e, by rw [← er_ne (H := H) e]; exact h⟩
theorem Nw.erase (n : Nw Hb (er H l) Hb2 H2) (hb : Hb2 l = none) : Nw Hb (er H l) Hb2 (er H2 l) :=
  ⟨n.b, fun a u ha => by rw [er_ne (ne_of_none ha hb)]; exact n.i a u ha, ⟨fun a u ha nt => by rw [er_ne (er_some ha).1]; exact n.g.s a u ha nt, fun a ha => by rw [er_ne (er_there ha).1]; exact n.g.k a ha⟩, n.f, fun t => (n.t t).er (t.ne er_at)⟩
theorem Nw.erStart (s : Same Hb H) : Nw Hb (er H l) Hb H :=
  ⟨Same.refl _, s, ⟨fun a u ha _ => (er_some ha).2, fun a ha => (er_there ha).2⟩, fun _ _ => rfl, fun t => t.unEr⟩
theorem Nw.back (n : Nw Hb (er H l) Hb2 (er H2 l)) (hb : Hb2 l = none) (e2 : Hb l = none) (hv : H l = some o) (nt : NT o) : Nw Hb H Hb2 (upd H2 l o) := by
  refine ⟨n.b, fun a u ha => ?_, ⟨fun a u ha nt' => ?_, fun a ha => ?_⟩, fun a ha => ?_, fun t => ?_⟩
  · have ne : a ≠ l := ne_of_none ha hb
    rw [upd_ne ne, ← er_ne (H := H2) ne]
    exact n.i a u ha
  · by_cases e : a = l
    · subst e; rw [upd_same, ← hv]; exact ha
    · rw [upd_ne e, ← er_ne (H := H2) e]
      exact n.g.s a u (by rw [er_ne e]; exact ha) nt'
  · by_cases e : a = l
    · subst e; rw [upd_same]; exact Option.some_ne_none _
    · rw [upd_ne e, ← er_ne (H := H2) e]
      exact n.g.k a (by rw [er_ne e]; exact ha)
  · by_cases e : a = l
    · subst e; rw [hb, e2]
    · exact n.f a (by rw [er_ne e]; exact ha)
  · have ne := t.nt hv nt
    exact (n.t (t.er ne)).unEr.updH ne
end
/-! ### what is walked -/
/-- J gives the data ds, one behind another, from a heap that knows Hb0 -/
def Yl (K : PySem.W.Frag) (mg : Str → Option Value) (J : It) (Hb0 : Hp) (ds : List D) : Prop := ∀ i Hb H, Same Hb0 Hb → Same Hb H →
  (ds.length ≤ i → i ≤ ds.length → J.stop i H) ∧ ∀ d, ds[i]? = some d → J.go i H ∧ ∀ x H', J.yld i H x H' → ∃ Hb2, Nw Hb H Hb2 H' ∧ Rep K mg Hb2 x d
def DI (X : Cx) (tg iter : Expr) (ρ : Env) (ds : List D) : Prop := ∀ σ Hb H, En X.K X.mg ρ σ Hb H → ∀ R : It → Hp → Prop, (∀ J Hb2 H2, Nw Hb H Hb2 H2 → Yl X.K X.mg J Hb2 ds → R J H2) → wpI X tg iter σ H R
section
variable {X : Cx} {ρ : Env} {tg e : Expr} {ds : List D} {pos : Pos}
theorem yl_list {K : PySem.W.Frag} {mg : Str → Option Value} {Hb : Hp} {a : Addr} {vs : List V} (h : SqL K Hb a vs) (r : Reps K mg Hb vs ds) : Yl K mg (Itl K a) Hb ds := fun i Hb1 H1 s1 s2 => by
  have q : SqL K H1 a vs := Same.seq s2 (Same.seq s1 h)
  refine ⟨fun hi _ => ⟨vs, q, by rw [r.length]; exact hi⟩, fun d hd => ?_⟩
  obtain ⟨v, h1, h2⟩ := r.get hd
  refine ⟨⟨vs, v, q, h1⟩, fun x H' y => ?_⟩
  obtain ⟨rfl, y⟩ := y
  have e : v = x := Option.some.inj (h1.symm.trans (y vs q))
  subst e
  exact ⟨Hb1, Nw.refl s2, h2.mono s1⟩
theorem yl_tup {K : PySem.W.Frag} {mg : Str → Option Value} {Hb : Hp} {a : Addr} {vs : List V} (h : SqT K Hb a vs) (r : Reps K mg Hb vs ds) : Yl K mg (Itt K a) Hb ds := fun i Hb1 H1 s1 s2 => by
  have q : SqT K H1 a vs := sm_tup s2 (sm_tup s1 h)
  refine ⟨fun hi _ => ⟨vs, q, by rw [r.length]; exact hi⟩, fun d hd => ?_⟩
  obtain ⟨v, h1, h2⟩ := r.get hd
  refine ⟨⟨vs, v, q, h1⟩, fun x H' y => ?_⟩
  obtain ⟨rfl, y⟩ := y
  have e : v = x := Option.some.inj (h1.symm.trans (y vs q))
  subst e
  exact ⟨Hb1, Nw.refl s2, h2.mono s1⟩
theorem yl_range {K : PySem.W.Frag} {mg : Str → Option Value} {Hb : Hp} {lo : Int} {n : Nat} : Yl K mg (Itr lo n) Hb ((List.range n).map fun i => .int (lo + (i : Nat))) := fun i Hb1 H1 s1 s2 => by
  refine ⟨fun hi _ => (show n ≤ i by simpa using hi), fun d hd => ?_⟩
  rw [List.getElem?_map] at hd
  by_cases hi : i < n
  · rw [List.getElem?_range hi] at hd
    cases hd
    refine ⟨hi, fun x H' y => ?_⟩
    obtain ⟨rfl, rfl⟩ := y
    exact ⟨Hb1, Nw.refl s2, .int _⟩
  · rw [List.getElem?_eq_none (by simpa using hi)] at hd
    cases hd
theorem i_lst (h : DE X e ρ (.lst ds)) : DI X tg e ρ ds := fun σ Hb H E R q => ofI (pi_list peE) (h σ Hb H E _ fun v Hb2 H2 n r => by
  obtain ⟨a, vs, rfl, hv, rs⟩ := r.lst_inv
  exact ⟨a, rfl, ⟨vs, SqL.of (n.i _ _ hv)⟩, q _ Hb2 H2 n (yl_list (SqL.of hv) rs)⟩)
theorem i_tup (h : DE X e ρ (.tup ds)) : DI X tg e ρ ds := fun σ Hb H E R q => ofI (pi_tup peE) (h σ Hb H E _ fun v Hb2 H2 n r => by
  obtain ⟨a, vs, rfl, hv, rs⟩ := r.tup_inv
  exact ⟨a, rfl, ⟨vs, sm_tup n.i hv⟩, q _ Hb2 H2 n (yl_tup hv rs)⟩)
theorem i_range1 {np : Pos} {n : Int} (hm : X.mg "range" = none) (h : DE X e ρ (.int n)) (h1 : -(2 ^ 62) ≤ n) (h2 : n < 2 ^ 62) (hg : Gl X "range" := by rfl) (hs : starEach [e] X.env = [(false, eval e X.env)] := by rfl) : DI X tg (.Call (.Name "range" np) [e] [] pos) ρ ((List.range n.toNat).map fun i => .int (0 + (i : Nat))) := fun σ Hb H E R q =>
  ofI (pi_range1 hg hm peA hs) (a_cons h a_nil hs σ Hb H E _ fun vs Hb2 H2 n r => by
    obtain ⟨v, rfl, r1⟩ := r.one
    cases r1.int_inv
    exact ⟨_, rfl, h1, h2, q _ Hb2 H2 n yl_range⟩)
theorem i_range2 {e2 : Expr} {np : Pos} {lo n : Int} (hm : X.mg "range" = none) (h : DE X e ρ (.int lo)) (h' : DE X e2 ρ (.int n)) (hb : -(2 ^ 62) ≤ lo ∧ lo < 2 ^ 62 ∧ -(2 ^ 62) ≤ n ∧ n < 2 ^ 62) (hg : Gl X "range" := by rfl)
    (hs : starEach [e, e2] X.env = [(false, eval e X.env), (false, eval e2 X.env)] := by rfl) (hs2 : starEach [e2] X.env = [(false, eval e2 X.env)] := by rfl) : DI X tg (.Call (.Name "range" np) [e, e2] [] pos) ρ ((List.range (n - lo).toNat).map fun i => .int (lo + (i : Nat))) := fun σ Hb H E R q =>
  ofI (pi_range2 hg hm peA hs hs2) (a_cons h (a_cons h' a_nil hs2) (by rw [hs, hs2]) σ Hb H E _ fun vs Hb2 H2 n r => by
    obtain ⟨v, u, rfl, r1, r2⟩ := r.two
    cases r1.int_inv
    cases r2.int_inv
    exact ⟨_, _, rfl, hb, q _ Hb2 H2 n yl_range⟩)
end
/-! ### list comprehensions -/
/-- a clause's tests -/
def DTs (X : Cx) (ifs : List Expr) (ρ : Env) (b : Bool) : Prop := ∀ σ Hb H, En X.K X.mg ρ σ Hb H → ∀ (Q : Bool → Hp → Prop), (∀ Hb2 H2, Nw Hb H Hb2 H2 → Q b H2) → ∀ (pins : List (Addr × Obj)) (s : Shared), Inv X pins σ H s →
  wpAny (model X.prog X.w) X.A (forIn ifs true fun c r => if r = true then do let ok ← isTrue c X.env (eval c X.env); pure (ForInStep.yield ok) else pure (ForInStep.yield r)) (TP X pins σ Q) X.xe s
section
variable {X : Cx} {ρ : Env} {tg iter elt c : Expr} {ifs : List Expr} {ds : List D} {pos : Pos}
theorem ts_nil : DTs X [] ρ true := fun σ Hb H E Q q pins s I => (pts_nil (X := X)).run pins s σ H Q I (q Hb H (Nw.refl E.s))
theorem ts_one {b : Bool} (h : DT X c ρ b) : DTs X [c] ρ b := fun σ Hb H E Q q pins s I => (pts_one (X := X) peT).run pins s σ H Q I (h σ Hb H E Q q)
/-- for every block of the comprehension -/
abbrev Blk (X : Cx) (scope : Scope) (P : Cx → Prop) : Prop := ∀ (s : Shared) (H : Hp) (C : Addr) (cl : List (Str × Addr)) (fp : List Addr), P (X.blk s H scope (compEnvC scope cl C X.env) fp)
def uE (X : Cx) (scope : Scope) (e : Expr) : TE := fun σ H Q => ∀ (s : Shared) (H' : Hp) (C : Addr) (cl : List (Str × Addr)) (fp : List Addr), wpE (X.blk s H' scope (compEnvC scope cl C X.env) fp) e σ H Q
def uTs (X : Cx) (scope : Scope) (ifs : List Expr) : TT := fun σ H Q => ∀ (s : Shared) (H' : Hp) (C : Addr) (cl : List (Str × Addr)) (fp : List Addr) (pins : List (Addr × Obj)) (s1 : Shared), Inv (X.blk s H' scope (compEnvC scope cl C X.env) fp) pins σ H s1 →
  wpAny (model X.prog X.w) X.A (forIn ifs true fun c r => if r = true then do let ok ← isTrue c (compEnvC scope cl C X.env) (eval c (compEnvC scope cl C X.env)); pure (ForInStep.yield ok) else pure (ForInStep.yield r)) (TP (X.blk s H' scope (compEnvC scope cl C X.env) fp) pins σ Q) (fun _ _ => False) s1
theorem lcR {α : Type} {xs : List α} {enc : α → D} {t : α → Bool} {f : α → D} {p : Pat} {scope : Scope} (own : List (Str × Nat)) (hN : X.N.Nodup) (hi : DI X tg iter ρ (xs.map enc)) (ok : BlkOk X.N X.env.scope scope own)
    (hg : Blk X scope fun X' => PG X' tg (gPat X'.K p)) (hp : ∀ i ∈ p.slots, i ∈ own.map (·.2))
    (body : ∀ x ∈ xs, ∃ ρ', bindP p (enc x) (wipeR ρ (own.map (·.2))) = some ρ' ∧ (Blk X scope fun X' => DTs X' ifs ρ' (t x)) ∧ (t x = true → Blk X scope fun X' => DE X' elt ρ' (f x)))
    (hl : xs.length ≤ 1000000) : ∀ σ Hb H, En X.K X.mg ρ σ Hb H → ∀ Q : VK, (∀ l vs Hb2 H2, Nw Hb H Hb2 H2 → H l = none → Hb2 l = none → H2 l = some (.lst vs) → Reps X.K X.mg Hb2 vs ((xs.filter t).map f) → Q (.ref l) H2) → tLc (wpI X tg iter) (gPat X.K p) (uTs X scope ifs) (uE X scope elt) (own.map (·.2)) σ H Q := fun σ Hb H E Q q => by
  refine hi σ Hb H E _ fun J Hb1 H1 n1 y => fun Dl hD => ?_
  have hD0 : Hb1 Dl = none := sm_none n1.i hD
  refine ⟨fun i m H2 => m = xs.length - i ∧ i ≤ xs.length ∧ ∃ Hb2 vs, Nw Hb1 H1 Hb2 H2 ∧ Hb2 Dl = none ∧ H2 Dl = some (.lst vs) ∧ Reps X.K X.mg Hb2 vs (((xs.take i).filter t).map f), ⟨xs.length, by simp, Nat.zero_le _, Hb1, [], Nw.more n1.i hD, hD0, upd_same, .nil⟩, ?_⟩
  rintro i m H2 ⟨rfl, hle, Hb2, vs, n2, hDb, hv, rs⟩
  obtain ⟨ys, yg⟩ := y i Hb2 H2 n2.b n2.i
  rw [List.length_map] at ys
  by_cases hlt : i < xs.length
  · obtain ⟨yg1, yg2⟩ := yg (enc xs[i]) (by rw [List.getElem?_map, List.getElem?_eq_getElem hlt]; rfl)
    refine .inr ⟨yg1, fun H3 => ∃ Hb3 vs3, Nw Hb1 H1 Hb3 H3 ∧ Hb3 Dl = none ∧ H3 Dl = some (.lst vs3) ∧ Reps X.K X.mg Hb3 vs3 (((xs.take (i + 1)).filter t).map f), fun H3 h3 => ⟨xs.length - (i + 1), by omega, rfl, hlt, h3⟩, fun x H3 hy => ?_⟩
    obtain ⟨Hb3, n3, rx⟩ := yg2 x H3 hy
    obtain ⟨ρ', e1, e2, e3⟩ := body xs[i] (List.getElem_mem hlt)
    have E3 := ((E.mono n1).mono (n2.trans n3)).wipe (own.map (·.2))
    obtain ⟨σ', E4, w4, _, k4⟩ := gPat_ok p (enc xs[i]) _ ρ' _ x e1 E3 rx
    have hl3 : H3 Dl = some (.lst vs) := n3.h _ _ hv
    have hb3 : Hb3 Dl = none := (n3.f Dl (by rw [hv]; exact Option.some_ne_none _)).trans hDb
    have hlen : vs.length ≤ 1000000 := by
      rw [rs.length, List.length_map]
      exact Nat.le_trans (List.length_filter_le _ _) (Nat.le_trans (by rw [List.length_take]; omega) hl)
    refine k4 _ ⟨?_, fun s H' C cl fp pins s1 I => ?_⟩
    · rw [w4 _ hp, wipe_wipe]
    · refine e2 s H' C cl fp σ' Hb3 H3 E4 _ (fun Hb4 H4 n4 => ?_) pins s1 I
      have hl4 : H4 Dl = some (.lst vs) := n4.h _ _ hl3
      have hb4 : Hb4 Dl = none := (n4.f Dl (by rw [hl3]; exact Option.some_ne_none _)).trans hb3
      cases ht : t xs[i] with
      | false =>
        rw [if_neg Bool.false_ne_true]
        refine ⟨Hb4, vs, n2.trans (n3.trans n4), hb4, hl4, ?_⟩
        rw [List.take_succ_eq_append_getElem hlt, List.filter_append, List.map_append]
        simp only [List.filter_cons, ht, Bool.false_eq_true, if_false, List.filter_nil, List.map_nil, List.append_nil]
        exact (rs.mono n3.b).mono n4.b
      | true =>
        rw [if_pos rfl]
        refine fun s' H'' C' cl' fp' => e3 ht s' H'' C' cl' fp' σ' Hb4 H4 (E4.mono n4) _ fun v Hb5 H5 n5 r5 => ?_
        have hl5 : H5 Dl = some (.lst vs) := n5.h _ _ hl4
        have hb5 : Hb5 Dl = none := (n5.f Dl (by rw [hl4]; exact Option.some_ne_none _)).trans hb4
        refine ⟨vs, hl5, Nat.lt_of_le_of_lt hlen (by decide), Hb5, vs ++ [v], (n2.trans (n3.trans (n4.trans n5))).put hD hb5, hb5, upd_same, ?_⟩
        rw [List.take_succ_eq_append_getElem hlt, List.filter_append, List.map_append]
        simp only [List.filter_cons, ht, if_true, List.filter_nil, List.map_cons, List.map_nil]
        exact (((rs.mono n3.b).mono n4.b).mono n5.b).append (.cons r5 .nil)
  · have : i = xs.length := by omega
    subst this
    refine .inl ⟨ys (Nat.le_refl _) (Nat.le_refl _), ?_⟩
    rw [List.take_length] at rs
    exact q Dl vs Hb2 H2 (n1.trans n2) (Nw.no n1 hD) hDb hv rs
theorem f_lcA {α : Type} {xs : List α} {enc : α → D} {t : α → Bool} {f : α → D} {p : Pat} {scope : Scope} (own : List (Str × Nat)) (hN : X.N.Nodup) (hi : DI X tg iter ρ (xs.map enc)) (ok : BlkOk X.N X.env.scope scope own)
    (hg : Blk X scope fun X' => PG X' tg (gPat X'.K p)) (hp : ∀ i ∈ p.slots, i ∈ own.map (·.2))
    (body : ∀ x ∈ xs, ∃ ρ', bindP p (enc x) (wipeR ρ (own.map (·.2))) = some ρ' ∧ (Blk X scope fun X' => DTs X' ifs ρ' (t x)) ∧ (t x = true → Blk X scope fun X' => DE X' elt ρ' (f x)))
    (hl : xs.length ≤ 1000000) (hc : X.calm = true := by rfl) (hs : ∀ x, foldedSetIterable iter X.env x = pure x := by intro _; rfl) : DF X (.ListComp elt [⟨tg, iter, ifs, 0⟩] scope pos) ρ ((xs.filter t).map f) := fun σ Hb H E Q q =>
  ofE (pe_lc hc hN peI ok (g := gPat X.K p) (tt := uTs X scope ifs) (te := uE X scope elt) (fun s H C cl fp => hg s H C cl fp) (fun s H C cl fp => ⟨fun pins s1 σ H1 Q I h => h s H C cl fp pins s1 I⟩) (fun s H C cl fp => ⟨fun pins s1 σ H1 Q I h => h s H C cl fp pins s1 I⟩) hs) (lcR own hN hi ok hg hp body hl σ Hb H E Q q)
/-- without a test -/
theorem f_lc {α : Type} {xs : List α} {enc : α → D} {f : α → D} {p : Pat} {scope : Scope} (own : List (Str × Nat)) (hN : X.N.Nodup) (hi : DI X tg iter ρ (xs.map enc)) (ok : BlkOk X.N X.env.scope scope own)
    (hg : Blk X scope fun X' => PG X' tg (gPat X'.K p)) (hp : ∀ i ∈ p.slots, i ∈ own.map (·.2)) (hl : xs.length ≤ 1000000)
    (body : ∀ x ∈ xs, ∃ ρ', bindP p (enc x) (wipeR ρ (own.map (·.2))) = some ρ' ∧ (Blk X scope fun X' => DE X' elt ρ' (f x)))
    (hc : X.calm = true := by rfl) (hs : ∀ x, foldedSetIterable iter X.env x = pure x := by intro _; rfl) : DF X (.ListComp elt [⟨tg, iter, [], 0⟩] scope pos) ρ (xs.map f) :=
  (f_lcA (t := fun _ => true) own hN hi ok hg hp (fun x hx => let ⟨ρ', e1, e2⟩ := body x hx; ⟨ρ', e1, fun _ _ _ _ _ => ts_nil, fun _ => e2⟩) hl hc hs).eq (by rw [List.filter_eq_self.mpr fun _ _ => rfl])
theorem f_lcIf {α : Type} {xs : List α} {enc : α → D} {t : α → Bool} {f : α → D} {p : Pat} {scope : Scope} (own : List (Str × Nat)) (hN : X.N.Nodup) (hi : DI X tg iter ρ (xs.map enc)) (ok : BlkOk X.N X.env.scope scope own)
    (hg : Blk X scope fun X' => PG X' tg (gPat X'.K p)) (hp : ∀ i ∈ p.slots, i ∈ own.map (·.2)) (hl : xs.length ≤ 1000000)
    (body : ∀ x ∈ xs, ∃ ρ', bindP p (enc x) (wipeR ρ (own.map (·.2))) = some ρ' ∧ (Blk X scope fun X' => DT X' c ρ' (t x)) ∧ (t x = true → Blk X scope fun X' => DE X' elt ρ' (f x)))
    (hc : X.calm = true := by rfl) (hs : ∀ x, foldedSetIterable iter X.env x = pure x := by intro _; rfl) : DF X (.ListComp elt [⟨tg, iter, [c], 0⟩] scope pos) ρ ((xs.filter t).map f) :=
  f_lcA own hN hi ok hg hp (fun x hx => let ⟨ρ', e1, e2, e3⟩ := body x hx; ⟨ρ', e1, fun s H C cl fp => ts_one (e2 s H C cl fp), e3⟩) hl hc hs
end
end K76
set_option maxRecDepth 100000
set_option maxHeartbeats 4000000
namespace K76
open PySem PySem.Spec PyProof.Rows L2
/-- a slot that no pattern names stays -/
theorem bindP_out : ∀ (p : Pat) (d : D) (ρ ρ' : Env), bindP p d ρ = some ρ' → ∀ i, i ∉ p.slots → ρ'[i]? = ρ[i]? := by
  intro p
  refine Pat.rec (motive_1 := fun p => ∀ (d : D) (ρ ρ' : Env), bindP p d ρ = some ρ' → ∀ i, i ∉ p.slots → ρ'[i]? = ρ[i]?)
    (motive_2 := fun ps => ∀ (ds : List D) (ρ ρ' : Env), bindPs ps ds ρ = some ρ' → ∀ i, i ∉ Pat.slotsA ps → ρ'[i]? = ρ[i]?) ?_ ?_ ?_ ?_ p
  · intro j d ρ ρ' h i hi
    cases h
    exact List.getElem?_set_ne fun z => hi (by rw [z]; exact List.mem_singleton.mpr rfl)
  · intro ps ih d ρ ρ' h i hi
    cases d with
    | tup ds => exact ih ds ρ ρ' h i hi
    | _ => cases h
  · intro ds ρ ρ' h i hi
    cases ds with
    | nil => cases h; rfl
    | cons d ds => cases h
  · intro p ps i1 i2 ds ρ ρ' h i hi
    cases ds with
    | nil => cases h
    | cons d ds =>
      have h : ((bindP p d ρ).bind fun ρ' => bindPs ps ds ρ') = some ρ' := h
      cases e : bindP p d ρ with
      | none => rw [e] at h; cases h
      | some ρ1 =>
        rw [e] at h
        rw [i2 ds ρ1 ρ' h i fun z => hi (List.mem_append_right _ z), i1 d ρ ρ1 e i fun z => hi (List.mem_append_left _ z)]
/-- a slot of a pattern holds a value -/
theorem bindP_val : ∀ (p : Pat) (d : D) (ρ ρ' : Env), bindP p d ρ = some ρ' → ∀ i ∈ p.slots, ∀ x, ρ'[i]? = some (some x) → ∃ d, x = .val d := by
  intro p
  refine Pat.rec (motive_1 := fun p => ∀ (d : D) (ρ ρ' : Env), bindP p d ρ = some ρ' → ∀ i ∈ p.slots, ∀ x, ρ'[i]? = some (some x) → ∃ d, x = .val d)
    (motive_2 := fun ps => ∀ (ds : List D) (ρ ρ' : Env), bindPs ps ds ρ = some ρ' → ∀ i, (i ∈ Pat.slotsA ps ∨ ∀ x, ρ[i]? = some (some x) → ∃ d, x = .val d) → ∀ x, ρ'[i]? = some (some x) → ∃ d, x = .val d) ?_ ?_ ?_ ?_ p
  · intro j d ρ ρ' h i hi x hx
    cases h
    have e : i = j := List.mem_singleton.mp hi
    subst e
    have hj' : i < ρ.length := by simpa using (List.getElem?_eq_some_iff.mp hx).1
    rw [List.getElem?_set_self hj'] at hx
    cases hx
    exact ⟨d, rfl⟩
  · intro ps ih d ρ ρ' h i hi x hx
    cases d with
    | tup ds => exact ih ds ρ ρ' h i (.inl hi) x hx
    | _ => cases h
  · intro ds ρ ρ' h i hi x hx
    cases ds with
    | nil =>
      cases h
      rcases hi with hi | hi
      · cases hi
      · exact hi x hx
    | cons d ds => cases h
  · intro p ps ih1 ih2 ds ρ ρ' h i hi x hx
    cases ds with
    | nil => cases h
    | cons d ds =>
      have h : ((bindP p d ρ).bind fun ρ' => bindPs ps ds ρ') = some ρ' := h
      cases e : bindP p d ρ with
      | none => rw [e] at h; cases h
      | some ρ1 =>
        rw [e] at h
        refine ih2 ds ρ1 ρ' h i ?_ x hx
        rcases hi with hi | hi
        · rcases List.mem_append.mp hi with hi | hi
          · exact .inr (ih1 d ρ ρ1 e i hi)
          · exact .inl hi
        · by_cases hq : i ∈ p.slots
          · exact .inr (ih1 d ρ ρ1 e i hq)
          · refine .inr fun y hy => hi y ?_
            rw [← bindP_out p d ρ ρ1 e i hq]
            exact hy
/-! ### statements -/
/-- H0: all that stood at the def's entry; Hb0: what was known of it -/
structure So (K : PySem.W.Frag) (mg : Str → Option Value) (Hb0 H0 : Hp) (ρ : Env) (σ : L2.St) (Hb H : Hp) : Prop where
  en : En K mg ρ σ Hb H
  nw : Nw Hb0 H0 Hb H
  fr : ∀ (i : Nat) x l, ρ[i]? = some (some x) → (∀ d, x ≠ .val d) → σ[i]? = some (some (.ref l)) → H0 l = none
inductive Out where
  | nx (ρ : Env) | rt (d : D) | bk (ρ : Env) | ct (ρ : Env)
  /-- handed back, and what is left of one's own -/
  | rte (d : D) (ρ : Env)
  /-- a new list handed back -/
  | rtf (ds : List D)
def Reach (K : PySem.W.Frag) (mg : Str → Option Value) (Hb0 H0 : Hp) (D : Ends) : Out → Prop
  | .nx ρ => ∀ σ Hb H, So K mg Hb0 H0 ρ σ Hb H → D.nx σ H
  | .bk ρ => ∀ σ Hb H, So K mg Hb0 H0 ρ σ Hb H → D.bk σ H
  | .ct ρ => ∀ σ Hb H, So K mg Hb0 H0 ρ σ Hb H → D.ct σ H
  | .rt d => ∀ v Hb H, Nw Hb0 H0 Hb H → Rep K mg Hb v d → D.rt v H
  | .rte d ρ => ∀ v σ Hb H, So K mg Hb0 H0 ρ σ Hb H → Rep K mg Hb v d → D.rt v H
  | .rtf ds => ∀ l vs Hb H, Nw Hb0 H0 Hb H → H0 l = none → Hb l = none → H l = some (.lst vs) → Reps K mg Hb vs ds → D.rt (.ref l) H
def DS (X : Cx) (st : Stmt) (ρ : Env) (k : Out → Prop) : Prop := ∀ Hb0 H0 σ Hb H, So X.K X.mg Hb0 H0 ρ σ Hb H → ∀ D : Ends, (∀ o, k o → Reach X.K X.mg Hb0 H0 D o) → wpS X st D σ H
def DSs (X : Cx) (sts : List Stmt) (ρ : Env) (k : Out → Prop) : Prop := ∀ Hb0 H0 σ Hb H, So X.K X.mg Hb0 H0 ρ σ Hb H → ∀ D : Ends, (∀ o, k o → Reach X.K X.mg Hb0 H0 D o) → wpSs X sts D σ H
/-- what follows a statement -/
def thenK (X : Cx) (rest : List Stmt) (k : Out → Prop) : Out → Prop
  | .nx ρ => DSs X rest ρ k
  | o => k o
theorem Nw.rebase {Hb0 H0 Hb1 H1 Hb2 H2 : Hp} (x : Nw Hb0 H0 Hb1 H1) (y : Nw Hb1 H0 Hb2 H2) : Nw Hb0 H0 Hb2 H2 := ⟨x.b.trans y.b, y.i, y.g, fun a ha => (y.f a ha).trans (x.f a ha), fun t => y.t (t.mono x.b (x.f _ (fun e => t.ne e rfl)))⟩
section
variable {X : Cx} {ρ ρ' : Env} {st : Stmt} {rest : List Stmt} {k k' : Out → Prop} {e c : Expr} {d : D} {pos : Pos} {K : PySem.W.Frag} {mg : Str → Option Value} {Hb0 H0 Hb1 Hb H Hb2 H2 : Hp} {σ : L2.St}
theorem So.mono (h : So K mg Hb0 H0 ρ σ Hb H) (n : Nw Hb H Hb2 H2) : So K mg Hb0 H0 ρ σ Hb2 H2 := ⟨h.en.mono n, h.nw.trans n, h.fr⟩
theorem So.rebase (x : Nw Hb0 H0 Hb1 H2) (h : So K mg Hb1 H0 ρ σ Hb H) : So K mg Hb0 H0 ρ σ Hb H := ⟨h.en, x.rebase h.nw, h.fr⟩
theorem So.base (h : So K mg Hb0 H0 ρ σ Hb H) : So K mg Hb H0 ρ σ Hb H := ⟨h.en, ⟨Same.refl _, h.nw.i, h.nw.g, fun _ _ => rfl, fun _ => h.en.t⟩, h.fr⟩
theorem Reach.base {D : Ends} {o : Out} (x : Nw Hb0 H0 Hb1 H2) (h : Reach K mg Hb0 H0 D o) : Reach K mg Hb1 H0 D o := by
  cases o with
  | nx ρ => exact fun σ Hb H s => h σ Hb H (So.rebase x s)
  | bk ρ => exact fun σ Hb H s => h σ Hb H (So.rebase x s)
  | ct ρ => exact fun σ Hb H s => h σ Hb H (So.rebase x s)
  | rt d => exact fun v Hb H n r => h v Hb H (x.rebase n) r
  | rte d ρ => exact fun v σ Hb H s r => h v σ Hb H (So.rebase x s) r
  | rtf ds => exact fun l vs Hb H n h1 h2 h3 r => h l vs Hb H (x.rebase n) h1 h2 h3 r
theorem So.set_val (h : So K mg Hb0 H0 ρ σ Hb H) {i : Nat} {v : V} (r : Rep K mg Hb v d) : So K mg Hb0 H0 (ρ.set i (some (.val d))) (σ.set i (some v)) Hb H := by
  refine ⟨h.en.set_val r, h.nw, fun j x l hj hx hs => ?_⟩
  have hij : i ≠ j := fun z => by
    subst z
    have hj' : i < ρ.length := by simpa using (List.getElem?_eq_some_iff.mp hj).1
    rw [List.getElem?_set_self hj'] at hj
    cases hj
    exact hx d rfl
  rw [List.getElem?_set_ne hij] at hj hs
  exact h.fr j x l hj hx hs
/-- an own new object is bound -/
theorem So.set_own (h : So K mg Hb0 H0 ρ σ Hb H) {i : Nat} {l : Addr} {x : Sl} (hx : ∀ d, x ≠ .val d) (hb : Hb l = none) (ho : Own K mg Hb H l x) (hn : ∀ (j : Nat) y, ρ[j]? = some (some y) → (∀ d, y ≠ .val d) → σ[j]? ≠ some (some (.ref l)))
    (hf : H0 l = none) : So K mg Hb0 H0 (ρ.set i (some x)) (σ.set i (some (.ref l))) Hb H := by
  have hlen := h.en.len
  have self : ∀ {j : Nat} {y : Sl}, (ρ.set i (some x))[j]? = some (some y) → (i = j ∧ y = x ∧ i < σ.length) ∨ (i ≠ j ∧ ρ[j]? = some (some y)) := fun {j y} hj => by
    by_cases hij : i = j
    · subst hij
      have hj' : i < ρ.length := by simpa using (List.getElem?_eq_some_iff.mp hj).1
      rw [List.getElem?_set_self hj'] at hj
      cases hj
      exact .inl ⟨rfl, rfl, by omega⟩
    · rw [List.getElem?_set_ne hij] at hj
      exact .inr ⟨hij, hj⟩
  refine ⟨⟨h.en.s, h.en.t, by simp [hlen], fun j e hj => ?_, fun j y hj hy => ?_, fun j m y z q hj hm hy hz e1 e2 => ?_⟩, h.nw, fun j y q hj hy hs => ?_⟩
  · rcases self hj with ⟨_, z, _⟩ | ⟨hij, hj⟩
    · exact absurd z.symm (hx e)
    · rw [List.getElem?_set_ne hij]; exact h.en.val j e hj
  · rcases self hj with ⟨rfl, rfl, hi⟩ | ⟨hij, hj⟩
    · exact ⟨l, List.getElem?_set_self hi, hb, ho⟩
    · rw [List.getElem?_set_ne hij]; exact h.en.own j y hj hy
  · rcases self hj with ⟨rfl, rfl, hi⟩ | ⟨hij, hj'⟩
    · rcases self hm with ⟨rfl, _, _⟩ | ⟨him, hm⟩
      · rfl
      · rw [List.getElem?_set_self hi] at e1
        cases e1
        rw [List.getElem?_set_ne him] at e2
        exact absurd e2 (hn m z hm hz)
    · rcases self hm with ⟨rfl, rfl, hi⟩ | ⟨him, hm⟩
      · rw [List.getElem?_set_self hi] at e2
        cases e2
        rw [List.getElem?_set_ne hij] at e1
        exact absurd e1 (hn j y hj' hy)
      · rw [List.getElem?_set_ne hij] at e1
        rw [List.getElem?_set_ne him] at e2
        exact h.en.apart j m y z q hj' hm hy hz e1 e2
  · rcases self hj with ⟨rfl, rfl, hi⟩ | ⟨hij, hj⟩
    · rw [List.getElem?_set_self hi] at hs
      cases hs
      exact hf
    · rw [List.getElem?_set_ne hij] at hs
      exact h.fr j y q hj hy hs
theorem DSs.imp (h : DSs X (st :: rest) ρ k) (hk : ∀ o, k o → k' o) : DSs X (st :: rest) ρ k' := fun Hb0 H0 σ Hb H s D r => h Hb0 H0 σ Hb H s D fun o q => r o (hk o q)
theorem ss_nil (h : k (.nx ρ)) : DSs X [] ρ k := fun Hb0 H0 σ Hb H s D r => ofSs pss_nil (r _ h σ Hb H s)
theorem ss_cons (h : DS X st ρ (thenK X rest k)) : DSs X (st :: rest) ρ k := fun Hb0 H0 σ Hb H s D r => ofSs (pss_cons peS peSs) (h Hb0 H0 σ Hb H s _ fun o q => by
  cases o with
  | nx ρ' => exact fun σ' Hb' H' s' => q Hb0 H0 σ' Hb' H' s' D r
  | bk ρ' => exact r _ q
  | ct ρ' => exact r _ q
  | rt d => exact r _ q
  | rte d ρ' => exact r _ q
  | rtf ds => exact r _ q)
theorem s_ret (h : DE X e ρ d) (hk : k (.rt d)) : DS X (.Return (some e) pos) ρ k := fun Hb0 H0 σ Hb H s D r => ofS (ps_ret peE) (h σ Hb H s.en _ fun v Hb2 H2 n rv => r _ hk v Hb2 H2 (s.nw.trans n) rv)
theorem s_set (i : Nat) {x : Str} {pos' : Pos} (hN : X.N.Nodup) (h : DE X e ρ d) (hk : k (.nx (ρ.set i (some (.val d))))) (hi : X.N[i]? = some x := by rfl) (hx : Loc X.env.scope x := by first | exact Or.inl rfl | exact Or.inr rfl) (hs : swapsWith e (some (.Name x pos')) pos.line X.env = pure false := by rfl)
    (hf : X.fn x = true ∨ X.env.scope.names.lookup x = some .local := by first | exact .inl rfl | exact .inr rfl) : DS X (.Assign [.Name x pos'] e pos) ρ k := fun Hb0 H0 σ Hb H s D r =>
  ofS (ps_set hN hi hx peE hs hf) (h σ Hb H s.en _ fun v Hb2 H2 n rv => r _ hk _ Hb2 H2 ((s.mono n).set_val rv))
/-- target = value, a pattern -/
theorem So.bind {p : Pat} {ρ' : Env} {v : V} {Q : L2.St → Hp → Prop} (h : So K mg Hb0 H0 ρ σ Hb H) (hp : bindP p d ρ = some ρ') (r : Rep K mg Hb v d) (q : ∀ σ', So K mg Hb0 H0 ρ' σ' Hb H → Q σ' H) : gPat K p v σ H Q := by
  obtain ⟨σ', E', _, o, k⟩ := gPat_ok p d ρ ρ' σ v hp h.en r
  refine k Q (q σ' ⟨E', h.nw, fun i x l hi hx hs => ?_⟩)
  by_cases hm : i ∈ p.slots
  · exfalso
    obtain ⟨e, he⟩ := bindP_val p d ρ ρ' hp i hm x hi
    exact hx e he
  · rw [(o i hm).1] at hs
    rw [(o i hm).2] at hi
    exact h.fr i x l hi hx hs
theorem s_asg {tg : Expr} {p : Pat} (h : DE X e ρ d) (hg : PG X tg (gPat X.K p)) (hp : bindP p d ρ = some ρ') (hk : k (.nx ρ')) (hs : swapsWithSole [tg] e pos.line X.env = pure false := by rfl) (hw : swappedStores [tg] e X.env = pure none := by rfl)
    (h1 : (assignEach [tg] X.env).map (·.2) = [assign tg X.env] := by rfl) : DS X (.Assign [tg] e pos) ρ k := fun Hb0 H0 σ Hb H s D r =>
  ofS (ps_asg peE hg hs hw h1) (h σ Hb H s.en _ fun v Hb2 H2 n rv => (s.mono n).bind hp rv fun σ' s' => r _ hk σ' Hb2 H2 s')
theorem s_if {b : Bool} {A B : List Stmt} (h : DT X c ρ b) (h1 : b = true → DSs X A ρ k) (h2 : b = false → DSs X B ρ k) : DS X (.If c A B pos) ρ k := fun Hb0 H0 σ Hb H s D r =>
  ofS (ps_if peT peSs peSs) (h σ Hb H s.en _ fun Hb2 H2 n => by
    cases b with
    | true => exact h1 rfl Hb0 H0 σ Hb2 H2 (s.mono n) D r
    | false => exact h2 rfl Hb0 H0 σ Hb2 H2 (s.mono n) D r)
theorem s_expr (h : DE X e ρ d) (hk : k (.nx ρ)) (hs : swapsWith e none pos.line X.env = pure false := by rfl) : DS X (.Expr e pos) ρ k := fun Hb0 H0 σ Hb H s D r =>
  ofS (ps_expr peE hs) (h σ Hb H s.en _ fun v Hb2 H2 n _ => r _ hk σ Hb2 H2 (s.mono n))
theorem s_pass (hk : k (.nx ρ)) : DS X (.Pass pos) ρ k := fun Hb0 H0 σ Hb H s D r => ofS ps_pass (r _ hk σ Hb H s)
/-- for over data -/
def loopK (k : Out → Prop) (next : Env → Prop) : Out → Prop
  | .nx ρ => next ρ
  | .ct ρ => next ρ
  | .bk ρ => k (.nx ρ)
  | .rt d => k (.rt d)
  | .rte d ρ => k (.rte d ρ)
  | .rtf ds => k (.rtf ds)
theorem s_for {α : Type} {xs : List α} {enc : α → D} {tg iter : Expr} {body : List Stmt} {p : Pat} (hi : DI X tg iter ρ (xs.map enc)) (hg : PG X tg (gPat X.K p)) (I : Nat → Env → Prop) (h0 : I 0 ρ)
    (hb : ∀ (i : Nat) x ρ, xs[i]? = some x → I i ρ → ∃ ρ', bindP p (enc x) ρ = some ρ' ∧ DSs X body ρ' (loopK k (I (i + 1)))) (hd : ∀ ρ, I xs.length ρ → k (.nx ρ))
    (hpo : PassesOwn (model X.prog X.w) X.A X.env X.xe := by exact PassesOwn.never) (hc : X.calm = true := by rfl) (hs : ∀ x, foldedSetIterable iter X.env x = pure x := by intro _; rfl) : DS X (.For tg iter body [] pos) ρ k := fun Hb0 H0 σ Hb H s D r =>
  ofS (ps_for hpo hc peI hg peSs hs) (hi σ Hb H s.en _ fun J Hb1 H1 n1 y => by
    have s1 := (s.mono n1)
    have nb : Nw Hb0 H0 Hb1 H1 := s1.nw
    refine ⟨fun i m σ' H' => m = xs.length - i ∧ i ≤ xs.length ∧ ∃ ρ' Hb', I i ρ' ∧ So X.K X.mg Hb1 H0 ρ' σ' Hb' H', ⟨xs.length, by simp, Nat.zero_le _, ρ, Hb1, h0, s1.base⟩, ?_⟩
    rintro i m σ' H' ⟨rfl, hle, ρ', Hb', hI, s'⟩
    obtain ⟨ys, yg⟩ := y i Hb' H' s'.nw.b s'.en.s
    rw [List.length_map] at ys
    by_cases hlt : i < xs.length
    · obtain ⟨yg1, yg2⟩ := yg (enc xs[i]) (by rw [List.getElem?_map, List.getElem?_eq_getElem hlt]; rfl)
      refine .inr ⟨yg1, fun σ2 H2 => ∃ ρ2 Hb2, I (i + 1) ρ2 ∧ So X.K X.mg Hb1 H0 ρ2 σ2 Hb2 H2, fun σ2 H2 h2 => ⟨xs.length - (i + 1), by omega, rfl, hlt, h2⟩, fun x H2 hy => ?_⟩
      obtain ⟨Hb2, n2, rx⟩ := yg2 x H2 hy
      obtain ⟨ρ2, e1, e2⟩ := hb i xs[i] ρ' (List.getElem?_eq_getElem hlt) hI
      refine (s'.mono n2).bind e1 rx fun σ2 s2 => e2 Hb1 H0 σ2 Hb2 H2 s2 _ fun o ho => ?_
      cases o with
      | nx ρ3 => exact fun σ3 Hb3 H3 s3 => ⟨ρ3, Hb3, ho, s3⟩
      | ct ρ3 => exact fun σ3 Hb3 H3 s3 => ⟨ρ3, Hb3, ho, s3⟩
      | bk ρ3 => exact Reach.base (D := D) nb (r _ ho)
      | rt d => exact Reach.base (D := D) nb (r _ ho)
      | rte d ρ3 => exact Reach.base (D := D) nb (r _ ho)
      | rtf ds => exact Reach.base (D := D) nb (r _ ho)
    · have : i = xs.length := by omega
      subst this
      exact .inl ⟨ys (Nat.le_refl _) (Nat.le_refl _), Reach.base (D := D) nb (r _ (hd ρ' hI)) σ' Hb' H' s'⟩)
theorem s_while {body : List Stmt} (I : Nat → Env → Prop) (m0 : Nat) (h0 : I m0 ρ) (hb : ∀ m ρ, I m ρ → ∃ b, DT X c ρ b ∧ (b = true → DSs X body ρ (loopK k fun ρ' => ∃ m', m' < m ∧ I m' ρ')) ∧ (b = false → k (.nx ρ)))
    (hpo : PassesOwn (model X.prog X.w) X.A X.env X.xe := by exact PassesOwn.never) : DS X (.While c body [] pos) ρ k := fun Hb0 H0 σ Hb H s D r =>
  ofS (ps_while hpo peT peSs) (by
    refine ⟨fun m σ' H' => ∃ ρ' Hb', I m ρ' ∧ So X.K X.mg Hb0 H0 ρ' σ' Hb' H', ⟨m0, ρ, Hb, h0, s⟩, ?_⟩
    rintro m σ' H' ⟨ρ', Hb', hI, s'⟩
    obtain ⟨b, ht, h1, h2⟩ := hb m ρ' hI
    refine ht σ' Hb' H' s'.en _ fun Hb2 H2 n => ?_
    cases b with
    | true =>
      rw [if_pos rfl]
      refine ⟨fun σ3 H3 => ∃ m', m' < m ∧ ∃ ρ3 Hb3, I m' ρ3 ∧ So X.K X.mg Hb0 H0 ρ3 σ3 Hb3 H3, fun σ3 H3 h => h, h1 rfl Hb0 H0 σ' Hb2 H2 (s'.mono n) _ fun o ho => ?_⟩
      cases o with
      | nx ρ3 => obtain ⟨m', hm, hI'⟩ := ho; exact fun σ3 Hb3 H3 s3 => ⟨m', hm, ρ3, Hb3, hI', s3⟩
      | ct ρ3 => obtain ⟨m', hm, hI'⟩ := ho; exact fun σ3 Hb3 H3 s3 => ⟨m', hm, ρ3, Hb3, hI', s3⟩
      | bk ρ3 => exact r _ ho
      | rt d => exact r _ ho
      | rte d ρ3 => exact r _ ho
      | rtf ds => exact r _ ho
    | false =>
      rw [if_neg Bool.false_ne_true]
      exact r _ (h2 rfl) σ' Hb2 H2 (s'.mono n))
end
end K76
set_option maxRecDepth 100000
set_option maxHeartbeats 4000000
namespace K76
open PySem PySem.Spec PyProof.Rows L2
/-! ### defs -/
def spR (K : PySem.W.Frag) (mg : Str → Option Value) (R : List D → D → Prop) : Sp := fun vs H Q _ => ∃ Hb ds d, Gd Hb H ∧ Reps K mg Hb vs ds ∧ R ds d ∧ ∀ v Hb2 H2, Nw Hb H Hb2 H2 → Rep K mg Hb2 v d → Q v H2
/-- the def x of the module, at most k calls deep: for the arguments ds it hands back d, if R ds d -/
structure Kn (P : Program) (w : World) (K : PySem.W.Frag) (mg : Str → Option Value) (base : Heap) (x : Str) (k : Nat) (R : List D → D → Prop) : Prop where
  ex : ∃ (f : Addr) (fd : FuncData) (ps : List Str) (dvs : List V) (vs : List Value) (dds : List D) (R' : List D → D → Prop), FnOk P w K mg base CX0 k f fd ps (spR K mg R') ∧ mg x = some (.ref f) ∧ PySem.W.keepIn K (.ref f) = true ∧ Binds K fd ps vs ∧ Vals dvs vs ∧
    (∀ H, Reps K mg H dvs dds) ∧ ∀ ds d, R ds d → R' (ds ++ dds) d
def start0 (N : List Str) (ds : List D) : Env := ds.map (fun d => some (.val d)) ++ List.replicate (N.length - ds.length) none
def retK (d : D) : Out → Prop
  | .rt e => e = d
  | .nx _ => d = .non
  | _ => False
/-- the context of a def's body -/
abbrev Cxf (P : Program) (w : World) (K : PySem.W.Frag) (mg : Str → Option Value) (base : Heap) (N : List Str) (x : Str) (scope : Scope) (f : Addr) (cdv : Value) (A : Around) (outer : List PySem.Env) (s : Shared) (H : Hp) (E : XK) : Cx := (cxOf CX0 P w K mg base N x scope f cdv A outer s H E).nox
section
variable {P : Program} {w : World} {K : PySem.W.Frag} {mg : Str → Option Value} {base : Heap}
theorem en_start {N : List Str} {vs : List V} {ds : List D} {Hb H : Hp} (s : Gd Hb H) (r : Reps K mg Hb vs ds) : En K mg (start0 N ds) (L2.start N vs) Hb H := by
  have hl := r.length
  have sp : ∀ {i : Nat} {x : Sl}, (start0 N ds)[i]? = some (some x) → i < ds.length ∧ ∃ d, ds[i]? = some d ∧ x = .val d := fun {i x} h => by
    unfold start0 at h
    by_cases hi : i < ds.length
    · rw [List.getElem?_append_left (by simpa using hi), List.getElem?_map] at h
      refine ⟨hi, ds[i], List.getElem?_eq_getElem hi, ?_⟩
      rw [List.getElem?_eq_getElem hi] at h
      cases h
      rfl
    · rw [List.getElem?_append_right (by simpa using hi)] at h
      have := List.mem_of_getElem? h
      rw [List.mem_replicate] at this
      cases this.2
  refine ⟨s.s, s.t, ?_, fun i d h => ?_, fun i x h hx => ?_, fun i j x y l hi hj hx hy => ?_⟩
  · unfold L2.start start0
    simp only [List.length_append, List.length_map, List.length_replicate]
    omega
  · obtain ⟨hi, d', h1, h2⟩ := sp h
    cases h2
    obtain ⟨v, h3, h4⟩ := r.get h1
    refine ⟨v, ?_, h4⟩
    unfold L2.start
    rw [List.getElem?_append_left (by rw [List.length_map]; omega), List.getElem?_map, h3]
    rfl
  · obtain ⟨_, d, _, h2⟩ := sp h
    exact absurd h2 (hx d)
  · obtain ⟨_, d, _, h2⟩ := sp hi
    exact absurd h2 (hx d)
theorem fn_body {x qual : Str} {params : Arguments} {body : List Stmt} {scope : Scope} {dvs : List V} {kws : List (Str × V)} {f : Addr} {fd : FuncData} {N ps : List Str} {k : Nat} {R : List D → D → Prop} (F : FunD K x qual params body scope dvs kws f fd) (S : FnScope N ps scope) (len : ∀ ds d, R ds d → ds.length = ps.length)
    (hb : ∀ (cdv : Value) (A : Around) (outer : List PySem.Env) (s : Shared) (H : Hp) (E : XK), Room k (Cxf P w K mg base N qual scope f cdv A outer s H E).A → ∀ ds d, R ds d → DSs (Cxf P w K mg base N qual scope f cdv A outer s H E) body (start0 N ds) (retK d)) :
    FnOk P w K mg base CX0 (k + 1) f fd ps (spR K mg R) := by
  refine F.ok S (fun vs H Q E h => ?_) (fun cdv A outer s H vs Q E hr h => ?_)
  · obtain ⟨Hb, ds, d, _, r, hR, _⟩ := h
    rw [r.length]
    exact len ds d hR
  · obtain ⟨Hb, ds, d, hs, r, hR, q⟩ := h
    refine ⟨_, PSs.nox peSs, ?_⟩
    refine hb cdv A outer s H E hr ds d hR Hb H (L2.start N vs) Hb H ⟨en_start hs r, Nw.refl hs.s, fun i x l hi hx => ?_⟩ _ fun o ho => ?_
    · obtain ⟨l', h1, h2, h3⟩ := (en_start (N := N) hs r).own i x hi hx
      exfalso
      unfold start0 at hi
      by_cases hi' : i < ds.length
      · rw [List.getElem?_append_left (by simpa using hi'), List.getElem?_map, List.getElem?_eq_getElem hi'] at hi
        cases hi
        exact hx _ rfl
      · rw [List.getElem?_append_right (by simpa using hi')] at hi
        have := List.mem_of_getElem? hi
        rw [List.mem_replicate] at this
        cases this.2
    · cases o with
      | rt e => cases (show e = d from ho); exact fun v Hb2 H2 n rv => q v Hb2 H2 n rv
      | nx ρ => cases (show d = .non from ho); exact fun σ' Hb2 H2 s' => q .non Hb2 H2 s'.nw .non
      | bk ρ => exact ho.elim
      | ct ρ => exact ho.elim
      | rte e ρ => exact ho.elim
      | rtf ds => exact ho.elim
theorem kn_of {x qual : Str} {params : Arguments} {body : List Stmt} {scope : Scope} {kws : List (Str × V)} {f : Addr} {fd : FuncData} {N ps : List Str} {k : Nat} {R : List D → D → Prop} (F : FunD K x qual params body scope [] kws f fd) (gl : mg x = some (.ref f)) (S : FnScope N ps scope) (len : ∀ ds d, R ds d → ds.length = ps.length)
    (h : ∀ (kV doc pm : Value) (an : Option Addr) (cdv ct : Value) (us : List Value), us.length = ps.length → bindArgs (PySem.W.fnOf x qual params body scope .none kV doc pm an cdv ct) ⟨us, []⟩ = pure (ps.zip us))
    (hb : ∀ (cdv : Value) (A : Around) (outer : List PySem.Env) (s : Shared) (H : Hp) (E : XK), Room k (Cxf P w K mg base N qual scope f cdv A outer s H E).A → ∀ ds d, R ds d → DSs (Cxf P w K mg base N qual scope f cdv A outer s H E) body (start0 N ds) (retK d)) :
    Kn P w K mg base x (k + 1) R :=
  ⟨f, fd, ps, [], [], [], R, fn_body F S len hb, gl, F.kp, F.bindsN h, .nil, fun _ => .nil, fun ds d h => by rwa [List.append_nil]⟩
theorem Kn.mono {x : Str} {j k : Nat} {R R' : List D → D → Prop} (h : Kn P w K mg base x j R) (hk : j ≤ k) (hR : ∀ ds d, R' ds d → R ds d) : Kn P w K mg base x k R' := by
  obtain ⟨f, fd, ps, dvs, vs, dds, Rr, h1, h2, h3, h4, h5, h6, h7⟩ := h.ex
  exact ⟨f, fd, ps, dvs, vs, dds, Rr, h1.mono hk, h2, h3, h4, h5, h6, fun ds d hd => h7 ds d (hR ds d hd)⟩
end
section
variable {X : Cx} {ρ : Env} {e : Expr} {es : List Expr} {ds : List D} {d : D} {pos np : Pos}
theorem d_call {x : Str} {j k : Nat} {R : List D → D → Prop} (F : Kn X.prog X.w X.K X.mg X.base x j R) (hr : Room k X.A) (ha : DA X (e :: es) ρ ds) (hR : R ds d) (hk : j ≤ k := by decide) (hg : Gl X x := by rfl) (hx : X.xe = (fun _ _ => False) := by rfl)
    (hdb : (x == ("__debug__" : Str)) = false := by decide) (he : starEach (e :: es) X.env = (false, eval e X.env) :: starEach es X.env := by rfl) (hpl : (backTo pos (starEach es X.env)).any (·.1) = false := by rfl) : DE X (.Call (.Name x np) (e :: es) [] pos) ρ d := fun σ Hb H E Q q => by
  obtain ⟨f, fd, ps, dvs, vs, dds, R', h1, h2, h3, h4, h5, h6, h7⟩ := F.ex
  refine ofE (pe_call h1 (hr.mono hk) hg h2 h3 h4 h5 pass0 peA hdb he hpl) ?_
  refine ha σ Hb H E _ fun ws Hb2 H2 n rs => ?_
  exact ⟨Hb2, ds ++ dds, d, ⟨n.i, n.t E.t⟩, rs.append (h6 Hb2), h7 ds d hR, fun v Hb3 H3 n2 r2 => q v Hb3 H3 (n.trans n2) r2⟩
end
/-! ### own lists -/
section
variable {X : Cx} {ρ ρ' : Env} {e c : Expr} {rest : List Stmt} {k : Out → Prop} {d : D} {ds : List D} {pos : Pos}
theorem So.own_new {K : PySem.W.Frag} {mg : Str → Option Value} {Hb0 H0 Hb H Hb2 H2 : Hp} {σ : L2.St} (h : So K mg Hb0 H0 ρ σ Hb H) (n : Nw Hb H Hb2 H2) {i : Nat} {l : Addr} {x : Sl} (hx : ∀ d, x ≠ .val d) (hl : H l = none) (hb : Hb2 l = none) (ho : Own K mg Hb2 H2 l x) : So K mg Hb0 H0 (ρ.set i (some x)) (σ.set i (some (.ref l))) Hb2 H2 := by
  refine (h.mono n).set_own hx hb ho (fun j y hj hy hs => ?_) ?_
  · obtain ⟨l', h1, h2, h3⟩ := h.en.own j y hj hy
    rw [h1] at hs
    cases hs
    exact h3.there hl
  · exact Nw.no h.nw hl
/-- x = a new list, of one's own -/
theorem s_own (i : Nat) {x : Str} {pos' : Pos} (hN : X.N.Nodup) (h : DF X e ρ ds) (hk : k (.nx (ρ.set i (some (.ml ds))))) (hi : X.N[i]? = some x := by rfl) (hx : Loc X.env.scope x := by first | exact Or.inl rfl | exact Or.inr rfl) (hs : swapsWith e (some (.Name x pos')) pos.line X.env = pure false := by rfl)
    (hf : X.fn x = true ∨ X.env.scope.names.lookup x = some .local := by first | exact .inl rfl | exact .inr rfl) : DS X (.Assign [.Name x pos'] e pos) ρ k := fun Hb0 H0 σ Hb H s D r =>
  ofS (ps_set hN hi hx peE hs hf) (h σ Hb H s.en _ fun l vs Hb2 H2 n hl hb hv rv => r _ hk _ Hb2 H2 (s.own_new n (fun _ z => nomatch z) hl hb ⟨vs, hv, rv⟩))
end
end K76
set_option maxRecDepth 100000
set_option maxHeartbeats 4000000
namespace K76
open PySem PySem.Spec PyProof.Rows L2
section
variable {X : Cx} {ρ ρ' : Env} {a b c e : Expr} {es : List Expr} {A B rest : List Stmt} {k : Out → Prop} {x y z d : D} {ds : List D} {pos np : Pos} {i j : Int}
/-! ### tests whose answer is known -/
theorem s_ifF (h : DT X c ρ false) (hB : DSs X B ρ k) : DS X (.If c A B pos) ρ k := s_if h (fun z => nomatch z) fun _ => hB
theorem s_ifT (h : DT X c ρ true) (hA : DSs X A ρ k) : DS X (.If c A B pos) ρ k := s_if h (fun _ => hA) fun z => nomatch z
theorem s_ifF0 (h : DT X c ρ false) (hk : k (.nx ρ)) : DS X (.If c A [] pos) ρ k := s_ifF h (ss_nil hk)
theorem d_ifT (hc : DT X c ρ true) (h : DE X a ρ d) : DE X (.IfExp c a b pos) ρ d := d_if hc (fun _ => h) fun z => nomatch z
theorem d_ifF (hc : DT X c ρ false) (h : DE X b ρ d) : DE X (.IfExp c a b pos) ρ d := d_if hc (fun z => nomatch z) fun _ => h
/-! ### isinstance -/
def tyD : D → Option String
  | .non => some "NoneType"
  | .bl _ => some "bool"
  | .int _ => some "int"
  | .str _ => some "str"
  | .tup _ => some "tuple"
  | .lst _ => some "list"
  | .dct _ => some "dict"
  | .obj _ _ => none
  | .kst _ => none
  | .kls _ => none
theorem Rep.ty {K : PySem.W.Frag} {mg : Str → Option Value} {H : Hp} {v : V} {T : String} (h : Rep K mg H v d) (e : tyD d = some T) : TyX K H v (.type T) := by
  cases h with
  | non => cases e; exact .base .non
  | bl b => cases e; exact .base (.bl b)
  | int b => cases e; exact .base (.int b)
  | str b => cases e; exact .base (.str b)
  | tup h r => cases e; exact .base (.tup h)
  | kst h r => cases e
  | kls h r => cases e
  | lst h r => cases e; exact .base (.lst h)
  | obj m h r => cases e
  | dct h r => cases e; exact .base (.dK h)
/-- isinstance(a, T), T a built-in class by its name -/
theorem d_isT {T U : String} {r : Bool} {nm : Str} {tp : Pos} (hm : X.mg "isinstance" = none) (ha : DE X a ρ x) (hT : X.mg nm = none) (hb : bootBuiltins nm = some (.type U)) (ht : tyD x = some T) (hk : kitB T U = some r) (hg : Gl X "isinstance" := by rfl) (hg2 : Gl X nm := by rfl) (hn : nm ≠ "__name__" := by decide) (hd : (nm == ("__debug__" : Str)) = false := by decide)
    (he : starEach (a :: [.Name nm tp]) X.env = (false, eval a X.env) :: starEach [.Name nm tp] X.env := by rfl) (hpl : (backTo pos (starEach [.Name nm tp] X.env)).any (·.1) = false := by rfl)
    (he2 : starEach (.Name nm tp :: []) X.env = (false, eval (.Name nm tp) X.env) :: starEach [] X.env := by rfl) : DE X (.Call (.Name "isinstance" np) [a, .Name nm tp] [] pos) ρ (.bl r) := fun σ Hb H E Q q =>
  ofE (pe_callB call_isi hg hm (by decide +kernel) (pa_cons (peE (e := a)) (pa_cons (pe_bltn (v := .ty U) hg2 hT hb rfl hn hd) pa_nil he2) he) (by decide) (by decide) he hpl) (ha σ Hb H E _ fun v Hb2 H2 n r1 =>
    ⟨v, .ty U, .type T, .type U, r, rfl, .ty U, (r1.mono n.i).ty ht, kit_ty hk, q _ Hb2 H2 n (.bl r)⟩)
/-- isinstance(a, (T, U)) -/
theorem d_isTT {T T1 T2 : String} {r r1 r2 : Bool} {n1 n2 : Str} {p1 p2 tp : Pos} {tk} (hm : X.mg "isinstance" = none) (ha : DE X a ρ x) (hT1 : X.mg n1 = none) (hb1 : bootBuiltins n1 = some (.type T1)) (hT2 : X.mg n2 = none) (hb2 : bootBuiltins n2 = some (.type T2)) (ht : tyD x = some T) (hk1 : kitB T T1 = some r1) (hk2 : kitB T T2 = some r2) (hr : (r1 || r2) = r := by rfl)
    (hg : Gl X "isinstance" := by rfl) (hg1 : Gl X n1 := by rfl) (hg2 : Gl X n2 := by rfl) (hn1 : n1 ≠ "__name__" := by decide) (hd1 : (n1 == ("__debug__" : Str)) = false := by decide) (hn2 : n2 ≠ "__name__" := by decide) (hd2 : (n2 == ("__debug__" : Str)) = false := by decide)
    (he : starEach (a :: [.Tuple [.Name n1 p1, .Name n2 p2] tk tp]) X.env = (false, eval a X.env) :: starEach [.Tuple [.Name n1 p1, .Name n2 p2] tk tp] X.env := by rfl) (hpl : (backTo pos (starEach [.Tuple [.Name n1 p1, .Name n2 p2] tk tp] X.env)).any (·.1) = false := by rfl)
    (he2 : starEach (.Tuple [.Name n1 p1, .Name n2 p2] tk tp :: []) X.env = (false, eval (.Tuple [.Name n1 p1, .Name n2 p2] tk tp) X.env) :: starEach [] X.env := by rfl)
    (hs1 : starEach (.Name n1 p1 :: [.Name n2 p2]) X.env = (false, eval (.Name n1 p1) X.env) :: starEach [.Name n2 p2] X.env := by rfl) (hs2 : starEach (.Name n2 p2 :: []) X.env = (false, eval (.Name n2 p2) X.env) :: starEach [] X.env := by rfl) : DE X (.Call (.Name "isinstance" np) [a, .Tuple [.Name n1 p1, .Name n2 p2] tk tp] [] pos) ρ (.bl r) := fun σ Hb H E Q q =>
  ofE (pe_callB call_isiT hg hm (by decide +kernel) (pa_cons (peE (e := a)) (pa_cons (pe_tup (pa_cons (pe_bltn (v := .ty T1) hg1 hT1 hb1 rfl hn1 hd1) (pa_cons (pe_bltn (v := .ty T2) hg2 hT2 hb2 rfl hn2 hd2) pa_nil hs2) hs1)) pa_nil he2) he) (by decide) (by decide) he hpl) (ha σ Hb H E _ fun v Hb2 H2 n r1' => by
    refine ⟨(show 2 ≤ sizeLine by decide), fun p hp => ⟨v, p, [.ty T1, .ty T2], .type T, [.type T1, .type T2], r, rfl, upd_same, .cons (.ty T1) (.cons (.ty T2) .nil), ((r1'.mono n.i).mono (sm_new hp)).ty ht, ?_, q _ Hb2 _ (n.trans (Nw.more n.i hp)) (.bl r)⟩⟩
    subst hr
    unfold PySem.W.kitAny
    rw [kit_ty hk1]
    cases r1 with
    | true => rfl
    | false =>
      show PySem.W.kitAny X.K (.type T) [.type T2] = some (false || r2)
      unfold PySem.W.kitAny
      rw [kit_ty hk2]
      cases r2 <;> rfl)
/-- isinstance(a, C), a an instance of the very C -/
structure IsC (X : Cx) (c : Str) : Prop where
  ok : ∃ C, X.mg c = some (.ref C) ∧ C8.InsC X.K C
theorem d_isC {c : Str} {fs : List (Str × D)} {tp : Pos} (hm : X.mg "isinstance" = none) (ha : DE X a ρ (.obj c fs)) (hc : IsC X c) (hg : Gl X "isinstance" := by rfl) (hg2 : Gl X c := by rfl) (hd : (c == ("__debug__" : Str)) = false := by decide)
    (he : starEach (a :: [.Name c tp]) X.env = (false, eval a X.env) :: starEach [.Name c tp] X.env := by rfl) (hpl : (backTo pos (starEach [.Name c tp] X.env)).any (·.1) = false := by rfl)
    (he2 : starEach (.Name c tp :: []) X.env = (false, eval (.Name c tp) X.env) :: starEach [] X.env := by rfl) : DE X (.Call (.Name "isinstance" np) [a, .Name c tp] [] pos) ρ (.bl true) := by
  obtain ⟨C, h1, h2⟩ := hc.ok
  exact fun σ Hb H E Q q => ofE (pe_callB (C8.call_isC h2) hg hm (by decide +kernel) (pa_cons (peE (e := a)) (pa_cons (pe_glob (v := .ref C) hg2 h1 rfl hd) pa_nil he2) he) (by decide) (by decide) he hpl) (ha σ Hb H E _ fun v Hb2 H2 n r1 => by
    obtain ⟨a, C', dx, fvs, rfl, hm', hh, rf⟩ := r1.obj_inv
    rw [h1] at hm'
    cases hm'
    exact ⟨a, dx, fvs, rfl, n.i _ _ hh, q _ Hb2 H2 n (.bl true)⟩)
/-! ### == and in over data -/
mutual
def toPy : D → PyData
  | .non => .none
  | .bl b => .bool b
  | .int i => .int i
  | .str x => .str x
  | .tup ds => .tuple (toPys ds)
  | .lst ds => .list (toPys ds)
  | .obj _ _ => .dict []
  | .dct _ => .dict []
  | .kst _ => .dict []
  | .kls _ => .dict []
def toPys : List D → List PyData
  | [] => []
  | d :: ds => toPy d :: toPys ds
end
theorem toPys_map (ds : List D) : toPys ds = ds.map toPy := by
  induction ds with
  | nil => rfl
  | cons d ds ih => show toPy d :: toPys ds = _; rw [ih]; rfl
mutual
def plainD : D → Bool
  | .obj _ _ => false
  | .dct _ => false
  | .kst _ => false
  | .kls _ => false
  | .tup ds => plainDs ds
  | .lst ds => plainDs ds
  | .str x => (PyData.str x).canLay0
  | _ => true
def plainDs : List D → Bool
  | [] => true
  | d :: ds => plainD d && plainDs ds
end
mutual
theorem Rep.dp {K : PySem.W.Frag} {mg : Str → Option Value} {H : Hp} : ∀ {v : V} {d : D}, Rep K mg H v d → plainD d = true → Dp K H v (toPy d)
  | _, _, .non, _ => .non
  | _, _, .bl b, _ => .bl b
  | _, _, .int i, _ => .int i
  | _, _, .str x, _ => .str x
  | _, _, .tup h r, p => .tup (SqT.of h) (Reps.dp r p)
  | _, _, .lst h r, p => .lst (SqL.of h) (Reps.dp r p)
  | _, _, .obj _ _ _, p => nomatch (show false = true from p)
  | _, _, .dct _ _, p => nomatch (show false = true from p)
  | _, _, .kst _ _, p => nomatch (show false = true from p)
  | _, _, .kls _ _, p => nomatch (show false = true from p)
theorem Reps.dp {K : PySem.W.Frag} {mg : Str → Option Value} {H : Hp} : ∀ {v : List V} {d : List D}, Reps K mg H v d → plainDs d = true → DpAll K H v (toPys d)
  | _, _, .nil, _ => .nil
  | _, _, .cons h r, p => by
    have p := Bool.and_eq_true_iff.mp p
    exact .cons (Rep.dp h p.1) (Reps.dp r p.2)
end
mutual
theorem plain_lay : ∀ d : D, plainD d = true → (toPy d).canLay0 = true
  | .non, _ => rfl
  | .bl _, _ => rfl
  | .int _, _ => rfl
  | .str _, h => h
  | .tup ds, h => plain_lays ds h
  | .lst ds, h => plain_lays ds h
  | .obj _ _, h => nomatch (show false = true from h)
  | .dct _, h => nomatch (show false = true from h)
  | .kst _, h => nomatch (show false = true from h)
  | .kls _, h => nomatch (show false = true from h)
theorem plain_lays : ∀ ds : List D, plainDs ds = true → PyData.canLayAll0 (toPys ds) = true
  | [], _ => rfl
  | d :: ds, h => by
    have h := Bool.and_eq_true_iff.mp h
    exact Bool.and_eq_true_iff.mpr ⟨plain_lay d h.1, plain_lays ds h.2⟩
end
/-- may be compared -/
def CmpOk (d : D) : Prop := plainD d = true ∧ (toPy d).depth ≤ 64
theorem CmpOk.shaped (h : CmpOk d) : SeqAt.shaped (toPy d) = true := Bool.and_eq_true_iff.mpr ⟨plain_lay d h.1, decide_eq_true h.2⟩
def eqD (x y : D) : Bool := PyData.eqv (toPy x) (toPy y)
theorem od_eqD (hx : CmpOk x) (hy : CmpOk y) : OpD X.K X.mg (rEqD X.K) x y (.bl (eqD x y)) := fun Hb H v u s rv ru Q q => ⟨_, _, (rv.mono s).dp hx.1, (ru.mono s).dp hy.1, hx.shaped, hy.shaped, q _ Hb H (Nw.refl s) (.bl _)⟩
theorem od_neD (hx : CmpOk x) (hy : CmpOk y) : OpD X.K X.mg (rNeD X.K) x y (.bl (!eqD x y)) := fun Hb H v u s rv ru Q q => ⟨_, _, (rv.mono s).dp hx.1, (ru.mono s).dp hy.1, hx.shaped, hy.shaped, q _ Hb H (Nw.refl s) (.bl _)⟩
theorem d_eqD {n : Nat} (hr : Room n X.A) (ha : DE X a ρ x) (hb : DE X b ρ y) (hx : CmpOk x) (hy : CmpOk y) : DE X (.Compare a [.Eq] [b] pos) ρ (.bl (eqD x y)) := d_cmp (op_eqD hr.units) ha hb (od_eqD hx hy)
theorem t_eqD {n : Nat} (hr : Room n X.A) (ha : DE X a ρ x) (hb : DE X b ρ y) (hx : CmpOk x) (hy : CmpOk y) : DT X (.Compare a [.Eq] [b] pos) ρ (eqD x y) := t_cmp (op_eqD hr.units) ha hb (od_eqD hx hy)
theorem d_neD {n : Nat} (hr : Room n X.A) (ha : DE X a ρ x) (hb : DE X b ρ y) (hx : CmpOk x) (hy : CmpOk y) : DE X (.Compare a [.NotEq] [b] pos) ρ (.bl (!eqD x y)) := d_cmp (op_neD hr.units) ha hb (od_neD hx hy)
theorem t_neD {n : Nat} (hr : Room n X.A) (ha : DE X a ρ x) (hb : DE X b ρ y) (hx : CmpOk x) (hy : CmpOk y) : DT X (.Compare a [.NotEq] [b] pos) ρ (!eqD x y) := t_cmp (op_neD hr.units) ha hb (od_neD hx hy)
theorem od_inD (hx : CmpOk x) (hy : CmpOk (.lst ds)) : OpD X.K X.mg (rInD X.K) x (.lst ds) (.bl (ds.any fun z => eqD z x)) := fun Hb H v u s rv ru Q q => by
  refine ⟨_, toPys ds, (rv.mono s).dp hx.1, (ru.mono s).dp hy.1, hx.shaped, hy.shaped, q _ Hb H (Nw.refl s) ?_⟩
  rw [toPys_map, List.any_map]
  exact .bl _
theorem hu65 {n : Nat} (hr : Room (n + 1) X.A) : X.A.units + 65 < cLine := by have := hr.un; omega
theorem d_inD {n : Nat} (hr : Room (n + 1) X.A) (ha : DE X a ρ x) (hb : DE X b ρ (.lst ds)) (hx : CmpOk x) (hy : CmpOk (.lst ds)) (hm : behindInMarks .In b = false := by rfl) : DE X (.Compare a [.In] [b] pos) ρ (.bl (ds.any fun z => eqD z x)) := d_cmp (op_inD (hu65 hr)) ha hb (od_inD hx hy) hm
theorem t_inD {n : Nat} (hr : Room (n + 1) X.A) (ha : DE X a ρ x) (hb : DE X b ρ (.lst ds)) (hx : CmpOk x) (hy : CmpOk (.lst ds)) (hm : behindInMarks .In b = false := by rfl) : DT X (.Compare a [.In] [b] pos) ρ (ds.any fun z => eqD z x) := t_cmp (op_inD (hu65 hr)) ha hb (od_inD hx hy) hm
/-- a text in a tuple of texts -/
theorem inV_strs {w : Str} : ∀ ws : List Str, inV (.str w) (ws.map V.str) = ws.any (fun z => decide (z = w))
  | [] => rfl
  | z :: ws => by
    have ih := inV_strs (w := w) ws
    unfold inV at ih ⊢
    simp only [List.map_cons, List.any_cons, ih]
    rfl
theorem Reps.ofStrs {K : PySem.W.Frag} {mg : Str → Option Value} {H : Hp} : ∀ {vs : List V} {ws : List Str}, Reps K mg H vs (ws.map D.str) → vs = ws.map V.str
  | _, [], h => by cases h; rfl
  | _, n :: ns, h => by cases h with | cons h r => cases h; rw [Reps.ofStrs r]; rfl
theorem flat_strs : ∀ ws : List Str, (ws.map V.str).all flatV = true
  | [] => rfl
  | _ :: ws => flat_strs ws
theorem d_inS {w : Str} {ws : List Str} (ha : DE X a ρ (.str w)) (hb : DE X b ρ (.kst (ws.map D.str))) (hm : behindInMarks .In b = false := by rfl) : DE X (.Compare a [.In] [b] pos) ρ (.bl (ws.any fun z => decide (z = w))) :=
  d_cmp op_in_seq ha hb (fun Hb H v u s rv ru Q q => by
    obtain ⟨p, vs, rfl, hv, rs⟩ := ru.kst_inv
    cases rv.str_inv
    rw [rs.ofStrs] at hv
    refine ⟨p, _, rfl, .inr (sm_tup s hv), rfl, flat_strs ws, q _ Hb H (Nw.refl s) ?_⟩
    rw [if_neg Bool.false_ne_true, inV_strs]
    exact .bl _) hm
end
end K76
set_option maxRecDepth 100000
set_option maxHeartbeats 4000000
namespace K76
open PySem PySem.Spec PyProof.Rows L2
section
variable {K : PySem.W.Frag} {mg : Str → Option Value} {ρ : Env} {σ : L2.St} {Hb0 H0 Hb H : Hp}
/-- an own object changes -/
theorem So.chg (h : So K mg Hb0 H0 ρ σ Hb H) {i : Nat} {x y : Sl} {l : Addr} {o : HO} (hi : ρ[i]? = some (some x)) (hx : ∀ d, x ≠ .val d) (hy : ∀ d, y ≠ .val d) (hl : σ[i]? = some (some (.ref l))) (ho : Own K mg Hb (upd H l o) l y) : So K mg Hb0 H0 (ρ.set i (some y)) σ Hb (upd H l o) := by
  obtain ⟨l', h1, h2, h3⟩ := h.en.own i x hi hx
  rw [hl] at h1
  cases h1
  have hil : i < ρ.length := (List.getElem?_eq_some_iff.mp hi).1
  have self : ∀ {j : Nat} {z : Sl}, (ρ.set i (some y))[j]? = some (some z) → (i = j ∧ z = y) ∨ (i ≠ j ∧ ρ[j]? = some (some z)) := fun {j z} hj => by
    by_cases hij : i = j
    · subst hij
      rw [List.getElem?_set_self hil] at hj
      cases hj
      exact .inl ⟨rfl, rfl⟩
    · rw [List.getElem?_set_ne hij] at hj
      exact .inr ⟨hij, hj⟩
  have hf := h.fr i x l hi hx hl
  have sH : Same Hb (upd H l o) := fun a u ha => by rw [upd_ne (ne_of_none ha h2)]; exact h.en.s a u ha
  refine ⟨⟨sH, h.en.t.updH (h3.ne h.en.t), by simp [h.en.len], fun j e hj => ?_, fun j z hj hz => ?_, fun j m z u q hj hm hz hu e1 e2 => ?_⟩, h.nw.put hf h2, fun j z q hj hz hs => ?_⟩
  · rcases self hj with ⟨_, r⟩ | ⟨_, hj⟩
    · exact absurd r.symm (hy e)
    · exact h.en.val j e hj
  · rcases self hj with ⟨rfl, rfl⟩ | ⟨hij, hj⟩
    · exact ⟨l, hl, h2, ho⟩
    · obtain ⟨l', q1, q2, q3⟩ := h.en.own j z hj hz
      have ne : l' ≠ l := fun e => hij (h.en.apart i j x z l hi hj hx hz hl (by rw [q1, e]))
      refine ⟨l', q1, q2, ?_⟩
      cases z with
      | val d => exact q3
      | ml ds => obtain ⟨vs, r1, r2⟩ := q3; exact ⟨vs, by rw [upd_ne ne]; exact r1, r2⟩
      | md ds => obtain ⟨vs, r1, r2⟩ := q3; exact ⟨vs, by rw [upd_ne ne]; exact r1, r2⟩
      | ins l' c fs => obtain ⟨e0, C, dx, fvs, m, r1, r2⟩ := q3; exact ⟨e0, C, dx, fvs, m, by rw [upd_ne ne]; exact r1, r2⟩
      | pu l' ds => obtain ⟨e0, vs, r1, r2⟩ := q3; exact ⟨e0, vs, by rw [upd_ne ne]; exact r1, r2⟩
  · have k1 : ∃ z', ρ[j]? = some (some z') ∧ ∀ d, z' ≠ .val d := by
      rcases self hj with ⟨rfl, _⟩ | ⟨_, hj⟩
      · exact ⟨x, hi, hx⟩
      · exact ⟨z, hj, hz⟩
    have k2 : ∃ z', ρ[m]? = some (some z') ∧ ∀ d, z' ≠ .val d := by
      rcases self hm with ⟨rfl, _⟩ | ⟨_, hm⟩
      · exact ⟨x, hi, hx⟩
      · exact ⟨u, hm, hu⟩
    obtain ⟨z1, a1, b1⟩ := k1
    obtain ⟨z2, a2, b2⟩ := k2
    exact h.en.apart j m z1 z2 q a1 a2 b1 b2 e1 e2
  · rcases self hj with ⟨rfl, _⟩ | ⟨_, hj⟩
    · exact h.fr i x q hi hx hs
    · exact h.fr j z q hj hz hs
/-- an own list is shared from now on -/
theorem So.frz (h : So K mg Hb0 H0 ρ σ Hb H) {i : Nat} {x : Sl} {d : D} {l : Addr} {o : HO} (hi : ρ[i]? = some (some x)) (hx : ∀ d, x ≠ .val d) (hl : σ[i]? = some (some (.ref l))) (ho : H l = some o) (hr : Rep K mg (upd Hb l o) (.ref l) d) : So K mg Hb0 H0 (ρ.set i (some (.val d))) σ (upd Hb l o) H := by
  obtain ⟨l', h1, h2, h3⟩ := h.en.own i x hi hx
  rw [hl] at h1
  cases h1
  have hil : i < ρ.length := (List.getElem?_eq_some_iff.mp hi).1
  have self : ∀ {j : Nat} {z : Sl}, (ρ.set i (some (.val d)))[j]? = some (some z) → (i = j ∧ z = .val d) ∨ (i ≠ j ∧ ρ[j]? = some (some z)) := fun {j z} hj => by
    by_cases hij : i = j
    · subst hij
      rw [List.getElem?_set_self hil] at hj
      cases hj
      exact .inl ⟨rfl, rfl⟩
    · rw [List.getElem?_set_ne hij] at hj
      exact .inr ⟨hij, hj⟩
  have hf := h.fr i x l hi hx hl
  have sb : Same Hb (upd Hb l o) := sm_new h2
  have sH : Same (upd Hb l o) H := fun a u ha => by
    by_cases e : a = l
    · subst e; rw [upd_same] at ha; cases ha; exact ho
    · rw [upd_ne e] at ha; exact h.en.s a u ha
  refine ⟨⟨sH, h.en.t.updB (h3.ne h.en.t) h2, by simp [h.en.len], fun j e hj => ?_, fun j z hj hz => ?_, fun j m z u q hj hm hz hu e1 e2 => ?_⟩, ⟨h.nw.b.trans sb, sH, h.nw.g, fun a ha => ?_, fun _ => h.en.t.updB (h3.ne h.en.t) h2⟩, fun j z q hj hz hs => ?_⟩
  · rcases self hj with ⟨rfl, r⟩ | ⟨_, hj⟩
    · cases r; exact ⟨_, hl, hr⟩
    · obtain ⟨v, q1, q2⟩ := h.en.val j e hj; exact ⟨v, q1, q2.mono sb⟩
  · rcases self hj with ⟨rfl, r⟩ | ⟨hij, hj⟩
    · exact absurd r (hz d)
    · obtain ⟨l', q1, q2, q3⟩ := h.en.own j z hj hz
      have ne : l' ≠ l := fun e => hij (h.en.apart i j x z l hi hj hx hz hl (by rw [q1, e]))
      refine ⟨l', q1, by rw [upd_ne ne]; exact q2, ?_⟩
      cases z with
      | val d => exact q3
      | ml ds => obtain ⟨vs, r1, r2⟩ := q3; exact ⟨vs, r1, r2.mono sb⟩
      | md ds => obtain ⟨vs, r1, r2⟩ := q3; exact ⟨vs, r1, r2.mono sb⟩
      | ins l' c fs => obtain ⟨e0, C, dx, fvs, m, r1, r2⟩ := q3; exact ⟨e0, C, dx, fvs, m, r1, r2.mono sb⟩
      | pu l' ds => obtain ⟨e0, vs, r1, r2⟩ := q3; exact ⟨e0, vs, r1, r2.mono sb⟩
  · rcases self hj with ⟨_, r⟩ | ⟨_, hj⟩
    · exact absurd r (hz d)
    · rcases self hm with ⟨_, r⟩ | ⟨_, hm⟩
      · exact absurd r (hu d)
      · exact h.en.apart j m z u q hj hm hz hu e1 e2
  · rw [upd_ne (fun e => ha (by rw [e]; exact hf))]; exact h.nw.f a ha
  · rcases self hj with ⟨_, r⟩ | ⟨_, hj⟩
    · exact absurd r (hz d)
    · exact h.fr j z q hj hz hs
end
section
variable {X : Cx} {ρ ρ' : Env} {a b c e : Expr} {es : List Expr} {A B rest sts : List Stmt} {k : Out → Prop} {x y z d : D} {ds es' : List D} {pos np : Pos} {i j : Int}
theorem ss_frz (i : Nat) (h : DSs X sts (ρ.set i (some (.val (.lst ds)))) k) (hi : ρ[i]? = some (some (.ml ds)) := by rfl) : DSs X sts ρ k := fun Hb0 H0 σ Hb H s D r => by
  obtain ⟨l, h1, h2, vs, h3, h4⟩ := s.en.own i _ hi (fun _ z => nomatch z)
  exact h Hb0 H0 σ _ H (s.frz hi (fun _ z => nomatch z) h1 h3 (.lst upd_same (h4.mono (sm_new h2)))) D r
theorem ss_frzD (i : Nat) {kvs : List (Int × D)} (h : DSs X sts (ρ.set i (some (.val (.dct kvs)))) k) (hi : ρ[i]? = some (some (.md kvs)) := by rfl) : DSs X sts ρ k := fun Hb0 H0 σ Hb H s D r => by
  obtain ⟨l, h1, h2, vs, h3, h4⟩ := s.en.own i _ hi (fun _ z => nomatch z)
  exact h Hb0 H0 σ _ H (s.frz hi (fun _ z => nomatch z) h1 h3 (.dct upd_same (h4.mono (sm_new h2)))) D r
/-- found.append(e) -/
theorem s_append (n : Nat) {x : Str} {npos apos cpos : Pos} (h : DE X e ρ d) (hk : k (.nx (ρ.set n (some (.ml (ds ++ [d])))))) (hz : ds.length < sizeLine) (hn : ρ[n]? = some (some (.ml ds)) := by rfl) (hN : X.N[n]? = some x := by rfl) (hv : Vis X.env.scope x := by first | exact Or.inl rfl | exact Or.inr (Or.inl rfl) | exact Or.inr (Or.inr rfl))
    (hd : (x == ("__debug__" : Str)) = false := by decide) (hcd : (x == ("__classdict__" : Str)) = false := by decide) (hpe : ∀ {te ta : TE}, PE X (.Name x npos) ta → PE X e te → PE X (.Call (.Attribute (.Name x npos) "append" apos) [e] [] cpos) (tBM X.K "list" rAppend ta (tCons te tNil)) := by exact fun h1 h2 => pe_bm PySem.F.plainAttrs_list PySem.F.slot_list_append PySem.F.type_list_append mt_append h1 (pa_cons h2 pa_nil))
    (hs : swapsWith (.Call (.Attribute (.Name x npos) "append" apos) [e] [] cpos) none pos.line X.env = pure false := by rfl) : DS X (.Expr (.Call (.Attribute (.Name x npos) "append" apos) [e] [] cpos) pos) ρ k := fun Hb0 H0 σ Hb H s D r =>
  ofS (ps_expr (hpe (pe_var hN hv hd hcd) peE) hs) (by
    obtain ⟨l, h1, h2, vs, h3, h4⟩ := s.en.own n _ hn (fun _ z => nomatch z)
    refine ⟨.ref l, h1, .inl ⟨rfl, vs, SqL.of h3⟩, h σ Hb H s.en _ fun v Hb2 H2 n2 r2 => ?_⟩
    refine ⟨l, vs, v, rfl, rfl, n2.h _ _ h3, by rw [h4.length]; exact hz, r _ hk σ Hb2 _ ((s.mono n2).chg hn (fun _ z => nomatch z) (fun _ z => nomatch z) h1 ⟨vs ++ [v], upd_same, (h4.mono n2.b).append (.cons r2 .nil)⟩)⟩)
/-- found.extend(a list) -/
theorem s_extend (n : Nat) {x : Str} {npos apos cpos : Pos} (h : DE X e ρ (.lst es')) (hk : k (.nx (ρ.set n (some (.ml (ds ++ es')))))) (hz : ds.length + es'.length ≤ sizeLine) (hn : ρ[n]? = some (some (.ml ds)) := by rfl) (hN : X.N[n]? = some x := by rfl) (hv : Vis X.env.scope x := by first | exact Or.inl rfl | exact Or.inr (Or.inl rfl) | exact Or.inr (Or.inr rfl))
    (hd : (x == ("__debug__" : Str)) = false := by decide) (hcd : (x == ("__classdict__" : Str)) = false := by decide) (hpe : ∀ {te ta : TE}, PE X (.Name x npos) ta → PE X e te → PE X (.Call (.Attribute (.Name x npos) "extend" apos) [e] [] cpos) (tBM X.K "list" rExtend ta (tCons te tNil)) := by exact fun h1 h2 => pe_bm PySem.F.plainAttrs_list PySem.F.slot_list_extend PySem.F.type_list_extend mt_extend h1 (pa_cons h2 pa_nil))
    (hs : swapsWith (.Call (.Attribute (.Name x npos) "extend" apos) [e] [] cpos) none pos.line X.env = pure false := by rfl) : DS X (.Expr (.Call (.Attribute (.Name x npos) "extend" apos) [e] [] cpos) pos) ρ k := fun Hb0 H0 σ Hb H s D r =>
  ofS (ps_expr (hpe (pe_var hN hv hd hcd) peE) hs) (by
    obtain ⟨l, h1, h2, vs, h3, h4⟩ := s.en.own n _ hn (fun _ z => nomatch z)
    refine ⟨.ref l, h1, .inl ⟨rfl, vs, SqL.of h3⟩, h σ Hb H s.en _ fun v Hb2 H2 n2 r2 => ?_⟩
    obtain ⟨b, ws, rfl, hb, rs⟩ := r2.lst_inv
    refine ⟨l, b, vs, ws, rfl, rfl, n2.h _ _ h3, n2.i _ _ hb, by rw [h4.length, rs.length]; exact hz, r _ hk σ Hb2 _ ((s.mono n2).chg hn (fun _ z => nomatch z) (fun _ z => nomatch z) h1 ⟨vs ++ ws, upd_same, (h4.mono n2.b).append rs⟩)⟩)
/-- an item of one's own list -/
theorem d_ixO (n : Nat) {x : Str} {npos : Pos} (hb : DE X b ρ (.int i)) (h : L2.atI ds i = some z) (hn : ρ[n]? = some (some (.ml ds)) := by rfl) (hN : X.N[n]? = some x := by rfl) (hv : Vis X.env.scope x := by first | exact Or.inl rfl | exact Or.inr (Or.inl rfl) | exact Or.inr (Or.inr rfl)) (hp : PlainIx b := by exact fun _ _ => rfl)
    (hd : (x == ("__debug__" : Str)) = false := by decide) (hcd : (x == ("__classdict__" : Str)) = false := by decide) : DE X (.Subscript (.Name x npos) b pos) ρ z := fun σ Hb H E Q q =>
  ofE (pe_ix ix_list (pe_var hN hv hd hcd) peE hp) (by
    obtain ⟨l, h1, h2, vs, h3, h4⟩ := E.own n _ hn (fun _ z => nomatch z)
    refine ⟨.ref l, h1, hb σ Hb H E _ fun u Hb2 H2 n2 r2 => ?_⟩
    cases r2.int_inv
    obtain ⟨w, q1, q2⟩ := (h4.mono n2.b).atI h
    exact ⟨l, vs, i, w, rfl, rfl, SqL.of (n2.h _ _ h3), q1, q w Hb2 H2 n2 q2⟩)
/-! ### several names at once -/
def setS : Env → List Nat → List Sl → Env
  | ρ, i :: is, s :: ss => setS (ρ.set i (some s)) is ss
  | ρ, _, _ => ρ
def setV : L2.St → List Nat → List V → L2.St
  | σ, i :: is, s :: ss => setV (σ.set i (some s)) is ss
  | σ, _, _ => σ
def DSl (X : Cx) (e : Expr) (ρ : Env) (s : Sl) : Prop := ∀ σ Hb H, En X.K X.mg ρ σ Hb H → ∀ Q : VK, (∀ v Hb2 H2, Nw Hb H Hb2 H2 → (∀ Hb0 H0 ρr σr, So X.K X.mg Hb0 H0 ρr σr Hb H → ∀ i, So X.K X.mg Hb0 H0 (ρr.set i (some s)) (σr.set i (some v)) Hb2 H2) → Q v H2) → wpE X e σ H Q
def DSls (X : Cx) (es : List Expr) (ρ : Env) (ss : List Sl) : Prop := ∀ σ Hb H, En X.K X.mg ρ σ Hb H → ∀ Q : List V → Hp → Prop, (∀ vs Hb2 H2, Nw Hb H Hb2 H2 → vs.length = ss.length → (∀ Hb0 H0 ρr σr, So X.K X.mg Hb0 H0 ρr σr Hb H → ∀ is, So X.K X.mg Hb0 H0 (setS ρr is ss) (setV σr is vs) Hb2 H2) → Q vs H2) → wpA X es σ H Q
theorem l_val (h : DE X e ρ d) : DSl X e ρ (.val d) := fun σ Hb H E Q q => h σ Hb H E Q fun v Hb2 H2 n r => q v Hb2 H2 n fun Hb0 H0 ρr σr s i => (s.mono n).set_val r
theorem l_own (h : DF X e ρ ds) : DSl X e ρ (.ml ds) := fun σ Hb H E Q q => h σ Hb H E Q fun l vs Hb2 H2 n hl hb hv rv => q _ Hb2 H2 n fun Hb0 H0 ρr σr s i => s.own_new n (fun _ z => nomatch z) hl hb ⟨vs, hv, rv⟩
theorem l_dct : DSl X (.Dict [] [] pos) ρ (.md []) := fun σ Hb H E Q q => ofE pe_dnewK (fun p hp => q _ Hb _ (Nw.more E.s hp) fun Hb0 H0 ρr σr s i => s.own_new (Nw.more E.s hp) (fun _ z => nomatch z) hp (sm_none E.s hp) ⟨[], upd_same, .nil⟩)
theorem ls_nil : DSls X [] ρ [] := fun σ Hb H E Q q => ofA pa_nil (q [] Hb H (Nw.refl E.s) rfl fun Hb0 H0 ρr σr s is => by
  have e1 : setS ρr is [] = ρr := by cases is <;> rfl
  have e2 : setV σr is [] = σr := by cases is <;> rfl
  rw [e1, e2]
  exact s)
theorem ls_cons {s : Sl} {ss : List Sl} (h : DSl X e ρ s) (h2 : DSls X es ρ ss) (hs : starEach (e :: es) X.env = (false, eval e X.env) :: starEach es X.env := by rfl) : DSls X (e :: es) ρ (s :: ss) := fun σ Hb H E Q q =>
  ofA (pa_cons peE peA hs) (h σ Hb H E _ fun v Hb2 H2 n r => h2 σ Hb2 H2 (E.mono n) _ fun vs Hb3 H3 n2 hl r2 => q _ Hb3 H3 (n.trans n2) (congrArg Nat.succ hl) fun Hb0 H0 ρr σr so is => by
    cases is with
    | nil => exact so.mono (n.trans n2)
    | cons i is => exact r2 Hb0 H0 _ _ (r Hb0 H0 ρr σr so i) is)
theorem s_setS (i : Nat) {x : Str} {pos' : Pos} {s : Sl} (hN : X.N.Nodup) (h : DSl X e ρ s) (hk : k (.nx (ρ.set i (some s)))) (hi : X.N[i]? = some x := by rfl) (hx : Loc X.env.scope x := by first | exact Or.inl rfl | exact Or.inr rfl) (hs : swapsWith e (some (.Name x pos')) pos.line X.env = pure false := by rfl)
    (hf : X.fn x = true ∨ X.env.scope.names.lookup x = some .local := by first | exact .inl rfl | exact .inr rfl) : DS X (.Assign [.Name x pos'] e pos) ρ k := fun Hb0 H0 σ Hb H so D r =>
  ofS (ps_set hN hi hx peE hs hf) (h σ Hb H so.en _ fun v Hb2 H2 n q => r _ hk _ Hb2 H2 (q Hb0 H0 ρ σ so i))
theorem s_par2 (i j : Nat) {x y : Str} {px py pt : Pos} {kt k2 pt2} {ss : List Sl} (hN : X.N.Nodup) (h : DSls X [a, b] ρ ss) (hk : k (.nx (setS ρ [i, j] ss))) (hl : ss.length = 2 := by rfl) (hi : X.N[i]? = some x := by rfl) (hj : X.N[j]? = some y := by rfl) (hij : i ≠ j := by decide)
    (hx : X.env.scope.names.lookup x = some .local := by rfl) (hy : X.env.scope.names.lookup y = some .local := by rfl) (hw : swappedStores [.Tuple [.Name x px, .Name y py] kt pt] (.Tuple [a, b] k2 pt2) X.env = pure (some [x, y]) := by rfl)
    (hs : swapsWithSole [.Tuple [.Name x px, .Name y py] kt pt] (.Tuple [a, b] k2 pt2) pos.line X.env = pure false := by rfl) (hc : X.calm = true := by rfl) : DS X (.Assign [.Tuple [.Name x px, .Name y py] kt pt] (.Tuple [a, b] k2 pt2) pos) ρ k := fun Hb0 H0 σ Hb H so D r =>
  ofS (ps_par hc hN hi hj hij hx hy peA hw hs) (h σ Hb H so.en _ fun vs Hb2 H2 n hlen q => by
    rw [hl] at hlen
    match vs, hlen with
    | [v, u], _ => exact ⟨v, u, rfl, r _ hk _ Hb2 H2 (q Hb0 H0 ρ σ so [i, j])⟩)
theorem s_par3 (i j m : Nat) {x y w : Str} {px py pw pt : Pos} {kt k2 pt2} {ss : List Sl} (hN : X.N.Nodup) (h : DSls X [a, b, c] ρ ss) (hk : k (.nx (setS ρ [i, j, m] ss))) (hl : ss.length = 3 := by rfl) (hi : X.N[i]? = some x := by rfl) (hj : X.N[j]? = some y := by rfl) (hm : X.N[m]? = some w := by rfl) (hij : i ≠ j := by decide) (him : i ≠ m := by decide) (hjm : j ≠ m := by decide)
    (hx : X.env.scope.names.lookup x = some .local := by rfl) (hy : X.env.scope.names.lookup y = some .local := by rfl) (hz : X.env.scope.names.lookup w = some .local := by rfl) (hw : swappedStores [.Tuple [.Name x px, .Name y py, .Name w pw] kt pt] (.Tuple [a, b, c] k2 pt2) X.env = pure (some [x, y, w]) := by rfl)
    (hs : swapsWithSole [.Tuple [.Name x px, .Name y py, .Name w pw] kt pt] (.Tuple [a, b, c] k2 pt2) pos.line X.env = pure false := by rfl) (hc : X.calm = true := by rfl) : DS X (.Assign [.Tuple [.Name x px, .Name y py, .Name w pw] kt pt] (.Tuple [a, b, c] k2 pt2) pos) ρ k := fun Hb0 H0 σ Hb H so D r =>
  ofS (ps_par3 hc hN hi hj hm hij him hjm hx hy hz peA hw hs) (h σ Hb H so.en _ fun vs Hb2 H2 n hlen q => by
    rw [hl] at hlen
    match vs, hlen with
    | [v, u, t], _ => exact ⟨v, u, t, rfl, r _ hk _ Hb2 H2 (q Hb0 H0 ρ σ so [i, j, m])⟩)
/-- the general form: through a tuple -/
theorem gNames : ∀ (is : List Nat) (vs : List V) (σ : L2.St) (H : Hp) (Q : L2.St → Hp → Prop), vs.length = is.length → Q (setV σ is vs) H → gPats X.K (is.map Pat.nm) vs σ H Q
  | [], [], _, _, _, _, q => ⟨rfl, q⟩
  | i :: is, v :: vs, σ, H, Q, hl, q => ⟨v, vs, rfl, gNames is vs (σ.set i (some v)) H Q (by simpa using hl) q⟩
theorem s_parN (is : List Nat) {tg : Expr} {k2 pt2} {ss : List Sl} (h : DSls X es ρ ss) (hg : PG X tg (gPat X.K (.tp (is.map Pat.nm)))) (hk : k (.nx (setS ρ is ss))) (hl : ss.length = is.length := by rfl) (h100 : is.length ≤ sizeLine := by decide) (hs : swapsWithSole [tg] (.Tuple es k2 pt2) pos.line X.env = pure false := by rfl) (hw : swappedStores [tg] (.Tuple es k2 pt2) X.env = pure none := by rfl)
    (h1 : (assignEach [tg] X.env).map (·.2) = [assign tg X.env] := by rfl) : DS X (.Assign [tg] (.Tuple es k2 pt2) pos) ρ k := fun Hb0 H0 σ Hb H so D r =>
  ofS (ps_asg (pe_tup peA) hg hs hw h1) (h σ Hb H so.en _ fun vs Hb2 H2 n hlen q => by
    have hl2 : vs.length = is.length := hlen.trans hl
    refine ⟨by rw [hl2]; exact h100, fun p hp => ⟨p, vs, rfl, SqT.of upd_same, by rw [hl2, List.length_map], gNames is vs σ _ _ hl2 ?_⟩⟩
    have so2 := q Hb0 H0 ρ σ so is
    exact r _ hk _ Hb2 _ (so2.mono (Nw.more so2.en.s hp)))
end
end K76
set_option maxRecDepth 100000
set_option maxHeartbeats 4000000
namespace K76
open PySem PySem.Spec PyProof.Rows L2
/-! ### comprehensions of two clauses -/
section
variable {X : Cx} {ρ : Env} {tg iter tg1 iter1 elt c : Expr} {ifs ifs1 : List Expr} {ds : List D} {pos : Pos}
def uI (X : Cx) (scope : Scope) (tg e : Expr) : TI := fun σ H R => ∀ (s : Shared) (H' : Hp) (C : Addr) (cl : List (Str × Addr)) (fp : List Addr), wpI (X.blk s H' scope (compEnvC scope cl C X.env) fp) tg e σ H R
theorem En.putD {K : PySem.W.Frag} {mg : Str → Option Value} {σ : L2.St} {Hb H : Hp} {Dl : Addr} {o : HO} (E : En K mg ρ σ Hb H) (hb : Hb Dl = none) {ws : List V} (hd : H Dl = some (.lst ws)) (hn : ∀ (n : Nat) z, ρ[n]? = some (some z) → (∀ d, z ≠ .val d) → σ[n]? ≠ some (some (.ref Dl))) : En K mg ρ σ Hb (upd H Dl o) where
  s := fun a u ha => by rw [upd_ne (ne_of_none ha hb)]; exact E.s a u ha
  t := E.t.updH (E.t.nt hd (fun _ z => nomatch z))
  len := E.len
  val := E.val
  own := fun i x hi hx => by
    obtain ⟨l, h1, h2, h3⟩ := E.own i x hi hx
    have ne : l ≠ Dl := fun e => hn i x hi hx (by rw [h1, e])
    refine ⟨l, h1, h2, ?_⟩
    cases x with
    | val d => exact h3
    | ml ds => obtain ⟨vs, r1, r2⟩ := h3; exact ⟨vs, by rw [upd_ne ne]; exact r1, r2⟩
    | md ds => obtain ⟨vs, r1, r2⟩ := h3; exact ⟨vs, by rw [upd_ne ne]; exact r1, r2⟩
    | ins l' c fs => obtain ⟨e0, C, dx, fvs, m, r1, r2⟩ := h3; exact ⟨e0, C, dx, fvs, m, by rw [upd_ne ne]; exact r1, r2⟩
    | pu l' ds => obtain ⟨e0, vs, r1, r2⟩ := h3; exact ⟨e0, vs, by rw [upd_ne ne]; exact r1, r2⟩
  apart := E.apart
theorem lc2R {α β : Type} {xs : List α} {enc : α → D} {t : α → Bool} {ys : α → List β} {enc1 : β → D} {t1 : α → β → Bool} {f : α → β → D} {p p1 : Pat} {scope : Scope} (own : List (Str × Nat)) (hN : X.N.Nodup) (hi : DI X tg iter ρ (xs.map enc)) (ok : BlkOk X.N X.env.scope scope own)
    (hg : Blk X scope fun X' => PG X' tg (gPat X'.K p)) (hg1 : Blk X scope fun X' => PG X' tg1 (gPat X'.K p1)) (hp : ∀ i ∈ p.slots, i ∈ own.map (·.2)) (hp1 : ∀ i ∈ p1.slots, i ∈ own.map (·.2))
    (body : ∀ x ∈ xs, ∃ ρ', bindP p (enc x) (wipeR ρ (own.map (·.2))) = some ρ' ∧ (Blk X scope fun X' => DTs X' ifs ρ' (t x)) ∧ (t x = true → (Blk X scope fun X' => DI X' tg1 iter1 ρ' ((ys x).map enc1)) ∧
      ∀ y ∈ ys x, ∃ ρ2, bindP p1 (enc1 y) (wipeR ρ' p1.slots) = some ρ2 ∧ (Blk X scope fun X' => DTs X' ifs1 ρ2 (t1 x y)) ∧ (t1 x y = true → Blk X scope fun X' => DE X' elt ρ2 (f x y))))
    (hl : ((xs.filter t).flatMap ys).length ≤ 1000000) : ∀ σ Hb H, En X.K X.mg ρ σ Hb H → ∀ Q : VK, (∀ l vs Hb2 H2, Nw Hb H Hb2 H2 → H l = none → Hb2 l = none → H2 l = some (.lst vs) → Reps X.K X.mg Hb2 vs ((xs.filter t).flatMap fun x => ((ys x).filter (t1 x)).map (f x)) → Q (.ref l) H2) → tLc2 (wpI X tg iter) (gPat X.K p) (uTs X scope ifs) (uI X scope tg1 iter1) (gPat X.K p1) (uTs X scope ifs1) (uE X scope elt) (own.map (·.2)) p1.slots σ H Q := fun σ Hb H E Q q => by
  refine hi σ Hb H E _ fun J Hb1 H1 n1 y => fun Dl hD => ?_
  have hD0 : Hb1 Dl = none := sm_none n1.i hD
  let out : Nat → List D := fun i => ((xs.take i).filter t).flatMap fun x => ((ys x).filter (t1 x)).map (f x)
  have outl : ∀ i, (((xs.take i).filter t).flatMap ys).length ≤ 1000000 := fun i => by
    refine Nat.le_trans ?_ hl
    conv => rhs; rw [← List.take_append_drop i xs]
    rw [List.filter_append, List.flatMap_append, List.length_append]
    exact Nat.le_add_right _ _
  refine ⟨fun i m H2 => m = xs.length - i ∧ i ≤ xs.length ∧ ∃ Hb2 vs, Nw Hb1 H1 Hb2 H2 ∧ Hb2 Dl = none ∧ H2 Dl = some (.lst vs) ∧ Reps X.K X.mg Hb2 vs (out i), ⟨xs.length, by simp, Nat.zero_le _, Hb1, [], Nw.more n1.i hD, hD0, upd_same, .nil⟩, ?_⟩
  rintro i m H2 ⟨rfl, hle, Hb2, vs, n2, hDb, hv, rs⟩
  obtain ⟨yst, yg⟩ := y i Hb2 H2 n2.b n2.i
  rw [List.length_map] at yst
  by_cases hlt : i < xs.length
  · obtain ⟨yg1, yg2⟩ := yg (enc xs[i]) (by rw [List.getElem?_map, List.getElem?_eq_getElem hlt]; rfl)
    refine .inr ⟨yg1, fun H3 => ∃ Hb3 vs3, Nw Hb1 H1 Hb3 H3 ∧ Hb3 Dl = none ∧ H3 Dl = some (.lst vs3) ∧ Reps X.K X.mg Hb3 vs3 (out (i + 1)), fun H3 h3 => ⟨xs.length - (i + 1), by omega, rfl, hlt, h3⟩, fun x H3 hy => ?_⟩
    obtain ⟨Hb3, n3, rx⟩ := yg2 x H3 hy
    obtain ⟨ρ', e1, e2, e3⟩ := body xs[i] (List.getElem_mem hlt)
    have E3 := ((E.mono n1).mono (n2.trans n3)).wipe (own.map (·.2))
    obtain ⟨σ', E4, w4, o4, k4⟩ := gPat_ok p (enc xs[i]) _ ρ' _ x e1 E3 rx
    have hl3 : H3 Dl = some (.lst vs) := n3.h _ _ hv
    have hb3 : Hb3 Dl = none := (n3.f Dl (by rw [hv]; exact Option.some_ne_none _)).trans hDb
    refine k4 _ ⟨?_, fun s H' C cl fp pins s1 I => ?_⟩
    · rw [w4 _ hp, wipe_wipe]
    · refine e2 s H' C cl fp σ' Hb3 H3 E4 _ (fun Hb4 H4 n4 => ?_) pins s1 I
      have hl4 : H4 Dl = some (.lst vs) := n4.h _ _ hl3
      have hb4 : Hb4 Dl = none := (n4.f Dl (by rw [hl3]; exact Option.some_ne_none _)).trans hb3
      cases ht : t xs[i] with
      | false =>
        rw [if_neg Bool.false_ne_true]
        refine ⟨Hb4, vs, n2.trans (n3.trans n4), hb4, hl4, ?_⟩
        show Reps X.K X.mg Hb4 vs (((xs.take (i + 1)).filter t).flatMap _)
        rw [List.take_succ_eq_append_getElem hlt, List.filter_append, List.flatMap_append]
        simp only [List.filter_cons, ht, Bool.false_eq_true, if_false, List.filter_nil, List.flatMap_nil, List.append_nil]
        exact (rs.mono n3.b).mono n4.b
      | true =>
        rw [if_pos rfl]
        obtain ⟨b1, b2⟩ := e3 ht
        have outs : ∀ j, j ≤ (ys xs[i]).length → (out i ++ (((ys xs[i]).take j).filter (t1 xs[i])).map (f xs[i])).length ≤ 1000000 := fun j hj => by
          refine Nat.le_trans ?_ (outl (i + 1))
          rw [List.take_succ_eq_append_getElem hlt, List.filter_append, List.flatMap_append]
          simp only [List.filter_cons, ht, if_true, List.filter_nil, List.flatMap_cons, List.flatMap_nil, List.append_nil, List.length_append, List.length_map]
          refine Nat.add_le_add ?_ (Nat.le_trans (List.length_filter_le _ _) (by rw [List.length_take]; omega))
          show (((xs.take i).filter t).flatMap _).length ≤ _
          rw [List.length_flatMap, List.length_flatMap]
          have : ∀ l : List α, (l.map fun x => (((ys x).filter (t1 x)).map (f x)).length).sum ≤ (l.map fun x => (ys x).length).sum := by
            intro l
            induction l with
            | nil => exact Nat.le_refl _
            | cons x l ih => simp only [List.map_cons, List.sum_cons, List.length_map]; exact Nat.add_le_add (List.length_filter_le _ _) (by simpa using ih)
          exact this _
        have own4 : ∀ (n : Nat) z, ρ'[n]? = some (some z) → (∀ d, z ≠ .val d) → σ'[n]? ≠ some (some (.ref Dl)) := fun n z hn hz hs => by
          by_cases hm : n ∈ p.slots
          · obtain ⟨d, hd⟩ := bindP_val p _ _ ρ' e1 n hm z hn
            exact hz d hd
          · rw [bindP_out p _ _ ρ' e1 n hm] at hn
            rw [(o4 n hm).1] at hs
            obtain ⟨g1, g2⟩ := wipeR_some hn
            rw [wipe_out g2] at hs
            obtain ⟨l, k1, k2, k3⟩ := (E.mono n1).own n z g1 hz
            rw [k1] at hs
            cases hs
            exact k3.there hD
        refine fun s' H'' C' cl' fp' => b1 s' H'' C' cl' fp' σ' Hb4 H4 (E4.mono n4) _ fun J1 Hb5 H5 n5 y1 => ?_
        have nn5 : Nw Hb1 H1 Hb5 H5 := n2.trans (n3.trans (n4.trans n5))
        have hl5 : H5 Dl = some (.lst vs) := n5.h _ _ hl4
        have hb5 : Hb5 Dl = none := (n5.f Dl (by rw [hl4]; exact Option.some_ne_none _)).trans hb4
        have rs5 : Reps X.K X.mg Hb5 vs (out i) := ((rs.mono n3.b).mono n4.b).mono n5.b
        refine ⟨fun j m H6 => m = (ys xs[i]).length - j ∧ j ≤ (ys xs[i]).length ∧ ∃ Hb6 vs6, Nw Hb1 H1 Hb6 H6 ∧ En X.K X.mg ρ' σ' Hb6 H6 ∧ Same Hb5 Hb6 ∧ Hb6 Dl = none ∧ H6 Dl = some (.lst vs6) ∧ Reps X.K X.mg Hb6 vs6 (out i ++ (((ys xs[i]).take j).filter (t1 xs[i])).map (f xs[i])),
          ⟨(ys xs[i]).length, by simp, Nat.zero_le _, Hb5, vs, nn5, (E4.mono n4).mono n5, Same.refl _, hb5, hl5, by simpa using rs5⟩, ?_⟩
        rintro j m H6 ⟨rfl, hlej, Hb6, vs6, n6, E6, s6, hb6, hl6, rs6⟩
        obtain ⟨yst1, yg1'⟩ := y1 j Hb6 H6 s6 n6.i
        rw [List.length_map] at yst1
        by_cases hltj : j < (ys xs[i]).length
        · obtain ⟨yga, ygb⟩ := yg1' (enc1 (ys xs[i])[j]) (by rw [List.getElem?_map, List.getElem?_eq_getElem hltj]; rfl)
          refine .inr ⟨yga, fun H7 => ∃ Hb7 vs7, Nw Hb1 H1 Hb7 H7 ∧ En X.K X.mg ρ' σ' Hb7 H7 ∧ Same Hb5 Hb7 ∧ Hb7 Dl = none ∧ H7 Dl = some (.lst vs7) ∧ Reps X.K X.mg Hb7 vs7 (out i ++ (((ys xs[i]).take (j + 1)).filter (t1 xs[i])).map (f xs[i])), fun H7 h7 => ⟨(ys xs[i]).length - (j + 1), by omega, rfl, hltj, h7⟩, fun x7 H7 hy7 => ?_⟩
          obtain ⟨Hb7, n7, rx7⟩ := ygb x7 H7 hy7
          obtain ⟨ρ2, e4, e5, e6⟩ := b2 (ys xs[i])[j] (List.getElem_mem hltj)
          obtain ⟨σ2, E8, w8, _, k8⟩ := gPat_ok p1 (enc1 (ys xs[i])[j]) _ ρ2 _ x7 e4 ((E6.mono n7).wipe p1.slots) rx7
          have hl7 : H7 Dl = some (.lst vs6) := n7.h _ _ hl6
          have hb7 : Hb7 Dl = none := (n7.f Dl (by rw [hl6]; exact Option.some_ne_none _)).trans hb6
          have hlen : vs6.length ≤ 1000000 := by rw [rs6.length]; exact outs j (by omega)
          refine k8 _ ⟨?_, fun s9 H9 C9 cl9 fp9 pins9 s10 I9 => ?_⟩
          · rw [w8 _ (fun _ h => h), wipe_wipe]
          · refine e5 s9 H9 C9 cl9 fp9 σ2 Hb7 H7 E8 _ (fun Hb8 H8 n8 => ?_) pins9 s10 I9
            have hl8 : H8 Dl = some (.lst vs6) := n8.h _ _ hl7
            have hb8 : Hb8 Dl = none := (n8.f Dl (by rw [hl7]; exact Option.some_ne_none _)).trans hb7
            cases ht1 : t1 xs[i] (ys xs[i])[j] with
            | false =>
              rw [if_neg Bool.false_ne_true]
              refine ⟨Hb8, vs6, n6.trans (n7.trans n8), (E6.mono n7).mono n8, s6.trans (n7.b.trans n8.b), hb8, hl8, ?_⟩
              rw [List.take_succ_eq_append_getElem hltj, List.filter_append, List.map_append]
              simp only [List.filter_cons, ht1, Bool.false_eq_true, if_false, List.filter_nil, List.map_nil, List.append_nil]
              exact (rs6.mono n7.b).mono n8.b
            | true =>
              rw [if_pos rfl]
              refine fun sa Ha Ca cla fpa => e6 ht1 sa Ha Ca cla fpa σ2 Hb8 H8 (E8.mono n8) _ fun v Hb10 H10 n10 r10 => ?_
              have hl10 : H10 Dl = some (.lst vs6) := n10.h _ _ hl8
              have hb10 : Hb10 Dl = none := (n10.f Dl (by rw [hl8]; exact Option.some_ne_none _)).trans hb8
              have E10 : En X.K X.mg ρ' σ' Hb10 H10 := ((E6.mono n7).mono n8).mono n10
              refine ⟨vs6, hl10, Nat.lt_of_le_of_lt hlen (by decide), Hb10, vs6 ++ [v], (n6.trans (n7.trans (n8.trans n10))).put hD hb10, E10.putD hb10 hl10 own4, s6.trans (n7.b.trans (n8.b.trans n10.b)), hb10, upd_same, ?_⟩
              rw [List.take_succ_eq_append_getElem hltj, List.filter_append, List.map_append]
              simp only [List.filter_cons, ht1, if_true, List.filter_nil, List.map_cons, List.map_nil]
              rw [← List.append_assoc]
              exact (((rs6.mono n7.b).mono n8.b).mono n10.b).append (.cons r10 .nil)
        · have : j = (ys xs[i]).length := by omega
          subst this
          refine .inl ⟨yst1 (Nat.le_refl _) (Nat.le_refl _), Hb6, vs6, n6, hb6, hl6, ?_⟩
          rw [List.take_length] at rs6
          show Reps X.K X.mg Hb6 vs6 (((xs.take (i + 1)).filter t).flatMap _)
          rw [List.take_succ_eq_append_getElem hlt, List.filter_append, List.flatMap_append]
          simp only [List.filter_cons, ht, if_true, List.filter_nil, List.flatMap_cons, List.flatMap_nil, List.append_nil]
          exact rs6
  · have : i = xs.length := by omega
    subst this
    refine .inl ⟨yst (Nat.le_refl _) (Nat.le_refl _), ?_⟩
    have e : out xs.length = (xs.filter t).flatMap fun x => ((ys x).filter (t1 x)).map (f x) := by
      show ((xs.take xs.length).filter t).flatMap _ = _
      rw [List.take_length]
    rw [e] at rs
    exact q Dl vs Hb2 H2 (n1.trans n2) (Nw.no n1 hD) hDb hv rs
theorem f_lc2 {α β : Type} {xs : List α} {enc : α → D} {t : α → Bool} {ys : α → List β} {enc1 : β → D} {t1 : α → β → Bool} {f : α → β → D} {p p1 : Pat} {scope : Scope} (own : List (Str × Nat)) (hN : X.N.Nodup) (hi : DI X tg iter ρ (xs.map enc)) (ok : BlkOk X.N X.env.scope scope own)
    (hg : Blk X scope fun X' => PG X' tg (gPat X'.K p)) (hg1 : Blk X scope fun X' => PG X' tg1 (gPat X'.K p1)) (hp : ∀ i ∈ p.slots, i ∈ own.map (·.2)) (hp1 : ∀ i ∈ p1.slots, i ∈ own.map (·.2))
    (body : ∀ x ∈ xs, ∃ ρ', bindP p (enc x) (wipeR ρ (own.map (·.2))) = some ρ' ∧ (Blk X scope fun X' => DTs X' ifs ρ' (t x)) ∧ (t x = true → (Blk X scope fun X' => DI X' tg1 iter1 ρ' ((ys x).map enc1)) ∧
      ∀ y ∈ ys x, ∃ ρ2, bindP p1 (enc1 y) (wipeR ρ' p1.slots) = some ρ2 ∧ (Blk X scope fun X' => DTs X' ifs1 ρ2 (t1 x y)) ∧ (t1 x y = true → Blk X scope fun X' => DE X' elt ρ2 (f x y))))
    (hl : ((xs.filter t).flatMap ys).length ≤ 1000000) (hc : X.calm = true := by rfl) (hs : ∀ x, foldedSetIterable iter X.env x = pure x := by intro _; rfl) (hs1 : ∀ env x, foldedSetIterable iter1 env x = pure x := by intro _ _; rfl) :
    DF X (.ListComp elt [⟨tg, iter, ifs, 0⟩, ⟨tg1, iter1, ifs1, 0⟩] scope pos) ρ ((xs.filter t).flatMap fun x => ((ys x).filter (t1 x)).map (f x)) := fun σ Hb H E Q q =>
  ofE (pe_lc2 (vs1 := p1.slots) hc hN peI ok hp1 (g := gPat X.K p) (g1 := gPat X.K p1) (tt := uTs X scope ifs) (tt1 := uTs X scope ifs1) (wi1 := uI X scope tg1 iter1) (te := uE X scope elt) (fun s H C cl fp => hg s H C cl fp) (fun s H C cl fp => ⟨fun pins s1 σ H1 Q I h => h s H C cl fp pins s1 I⟩)
    (fun s H C cl fp => ⟨fun pins s1 σ H1 Q I h => h s H C cl fp pins s1 I⟩) (fun s H C cl fp => hg1 s H C cl fp) (fun s H C cl fp => ⟨fun pins s1 σ H1 Q I h => h s H C cl fp pins s1 I⟩) (fun s H C cl fp => ⟨fun pins s1 σ H1 Q I h => h s H C cl fp pins s1 I⟩) hs hs1) (lc2R own hN hi ok hg hg1 hp hp1 body hl σ Hb H E Q q)
end
end K76
set_option maxRecDepth 100000
set_option maxHeartbeats 4000000
namespace K76
open PySem PySem.Spec PyProof.Rows L2
/-! ### dicts with int keys -/
def valI {α : Type} (kvs : List (Int × α)) (k : Int) : Option α := (kvs.find? fun kv => decide (kv.1 = k)).map (·.2)
def putI {α : Type} (kvs : List (Int × α)) (k : Int) (v : α) : List (Int × α) :=
  if (kvs.any fun kv => decide (kv.1 = k)) = true then kvs.map (fun kv => if kv.1 = k then (kv.1, v) else kv) else kvs ++ [(k, v)]
def dropI {α : Type} (kvs : List (Int × α)) (k : Int) : List (Int × α) := kvs.filter fun kv => decide (kv.1 ≠ k)
theorem inl_eq {a b : Int} : decide ((Sum.inl a : Key) = Sum.inl b) = decide (a = b) := by
  by_cases h : a = b
  · subst h; simp
  · rw [decide_eq_false h, decide_eq_false (fun z => h (Sum.inl.inj z))]
theorem inl_ne {a b : Int} : decide ((Sum.inl a : Key) ≠ Sum.inl b) = decide (a ≠ b) := by
  by_cases h : a = b
  · subst h; simp
  · have h2 : ¬ (Sum.inl a : Key) = Sum.inl b := fun z => h (Sum.inl.inj z)
    simp [h, h2]
section
variable {K : PySem.W.Frag} {mg : Str → Option Value} {H : Hp}
theorem RepK.val : ∀ {vs : List (Key × V)} {kvs : List (Int × D)} {k : Int}, RepK K mg H vs kvs → (∀ d, valI kvs k = some d → ∃ v, valV vs (Sum.inl k) = some v ∧ Rep K mg H v d) ∧ (valI kvs k = none → valV vs (Sum.inl k) = none)
  | _, _, k, .nil => ⟨fun d h => (nomatch h), fun _ => rfl⟩
  | _, _, k, @RepK.cons _ _ _ k' v d vs ds h r => by
    unfold valI valV
    simp only [List.find?_cons, inl_eq]
    by_cases e : k' = k
    · simp only [e, decide_true]
      exact ⟨fun d' h' => by cases h'; exact ⟨v, rfl, h⟩, fun h' => by cases h'⟩
    · simp only [e, decide_false]
      exact RepK.val r
theorem RepK.any : ∀ {vs : List (Key × V)} {kvs : List (Int × D)} {k : Int}, RepK K mg H vs kvs → (vs.any fun kv => decide (kv.1 = Sum.inl k)) = (kvs.any fun kv => decide (kv.1 = k))
  | _, _, k, .nil => rfl
  | _, _, k, .cons h r => by simp only [List.any_cons, inl_eq, RepK.any r]
theorem RepK.append : ∀ {vs ws : List (Key × V)} {ds es : List (Int × D)}, RepK K mg H vs ds → RepK K mg H ws es → RepK K mg H (vs ++ ws) (ds ++ es)
  | _, _, _, _, .nil, s => s
  | _, _, _, _, .cons h r, s => .cons h (RepK.append r s)
theorem RepK.put {vs : List (Key × V)} {kvs : List (Int × D)} {k : Int} {v : V} {d : D} (r : RepK K mg H vs kvs) (h : Rep K mg H v d) : RepK K mg H (putK vs (Sum.inl k) v) (putI kvs k d) := by
  unfold putK putI
  rw [r.any]
  split
  · have : ∀ {vs : List (Key × V)} {kvs : List (Int × D)}, RepK K mg H vs kvs → RepK K mg H (vs.map fun kv => if kv.1 = Sum.inl k then (kv.1, v) else kv) (kvs.map fun kv => if kv.1 = k then (kv.1, d) else kv) := by
      intro vs
      induction vs with
      | nil => intro kvs r; cases r; exact .nil
      | cons x xs ih =>
        intro kvs r
        cases r with
        | @cons k' v' d' _ ds h' r =>
          simp only [List.map_cons]
          by_cases e : k' = k
          · subst e
            simp only [if_true]
            exact .cons h (ih r)
          · rw [if_neg (fun z => e (Sum.inl.inj z)), if_neg e]
            exact .cons h' (ih r)
    exact this r
  · exact r.append (.cons h .nil)
theorem RepK.drop : ∀ {vs : List (Key × V)} {kvs : List (Int × D)} {k : Int}, RepK K mg H vs kvs → RepK K mg H (dropK vs (Sum.inl k)) (dropI kvs k)
  | _, _, k, .nil => .nil
  | _, _, k, @RepK.cons _ _ _ k' v d vs ds h r => by
    have ih := RepK.drop (k := k) r
    unfold dropK dropI at ih ⊢
    simp only [List.filter_cons, inl_ne]
    by_cases e : k' = k
    · simp only [e, ne_eq, not_true_eq_false, decide_false, Bool.false_eq_true, if_false]
      simpa using ih
    · simp only [e, ne_eq, not_false_eq_true, decide_true, if_true]
      exact .cons h (by simpa using ih)
theorem RepK.length : ∀ {vs : List (Key × V)} {kvs : List (Int × D)}, RepK K mg H vs kvs → vs.length = kvs.length
  | _, _, .nil => rfl
  | _, _, .cons _ r => congrArg Nat.succ (RepK.length r)
theorem putI_len {α : Type} (kvs : List (Int × α)) (k : Int) (v : α) : (putI kvs k v).length ≤ kvs.length + 1 := by
  unfold putI
  split
  · simp
  · simp
end
section
variable {X : Cx} {ρ ρ' : Env} {a b c e : Expr} {es : List Expr} {rest sts : List Stmt} {k : Out → Prop} {x y z d : D} {ds es' : List D} {pos np : Pos} {i j : Int} {kvs : List (Int × D)}
/-- {k: v for ..} -/
theorem dcR {α : Type} {xs : List α} {enc : α → D} {t : α → Bool} {kf : α → Int} {vf : α → D} {p : Pat} {tg iter kx vx : Expr} {ifs : List Expr} {scope : Scope} (own : List (Str × Nat)) (hN : X.N.Nodup) (hi : DI X tg iter ρ (xs.map enc)) (ok : BlkOk X.N X.env.scope scope own)
    (hg : Blk X scope fun X' => PG X' tg (gPat X'.K p)) (hp : ∀ i ∈ p.slots, i ∈ own.map (·.2)) (hl : xs.length ≤ 1000000)
    (body : ∀ x ∈ xs, ∃ ρ', bindP p (enc x) (wipeR ρ (own.map (·.2))) = some ρ' ∧ (Blk X scope fun X' => DTs X' ifs ρ' (t x)) ∧ (t x = true → Blk X scope fun X' => DE X' kx ρ' (.int (kf x))) ∧ (t x = true → Blk X scope fun X' => DE X' vx ρ' (vf x))) : ∀ σ Hb H, En X.K X.mg ρ σ Hb H → ∀ Q : VK, (∀ v Hb2 H2, Nw Hb H Hb2 H2 → Rep X.K X.mg Hb2 v (.dct ((xs.filter t).foldl (fun acc x => putI acc (kf x) (vf x)) [])) → Q v H2) → tDc (wpI X tg iter) (gPat X.K p) (uTs X scope ifs) (uE X scope kx) (uE X scope vx) (own.map (·.2)) σ H Q := fun σ Hb H E Q q => by
  refine hi σ Hb H E _ fun J Hb1 H1 n1 y => fun Dl hD => ?_
  have hD0 : Hb1 Dl = none := sm_none n1.i hD
  let out : Nat → List (Int × D) := fun i => ((xs.take i).filter t).foldl (fun acc x => putI acc (kf x) (vf x)) []
  have outl : ∀ l : List α, ∀ acc : List (Int × D), (l.foldl (fun acc x => putI acc (kf x) (vf x)) acc).length ≤ acc.length + l.length := by
    intro l
    induction l with
    | nil => intro acc; exact Nat.le_refl _
    | cons x l ih => intro acc; exact Nat.le_trans (ih _) (by have := putI_len acc (kf x) (vf x); simp only [List.length_cons]; omega)
  refine ⟨fun i m H2 => m = xs.length - i ∧ i ≤ xs.length ∧ ∃ Hb2 vs, Nw Hb1 H1 Hb2 H2 ∧ Hb2 Dl = none ∧ H2 Dl = some (.dK vs) ∧ RepK X.K X.mg Hb2 vs (out i), ⟨xs.length, by simp, Nat.zero_le _, Hb1, [], Nw.more n1.i hD, hD0, upd_same, .nil⟩, ?_⟩
  rintro i m H2 ⟨rfl, hle, Hb2, vs, n2, hDb, hv, rs⟩
  obtain ⟨ys, yg⟩ := y i Hb2 H2 n2.b n2.i
  rw [List.length_map] at ys
  by_cases hlt : i < xs.length
  · obtain ⟨yg1, yg2⟩ := yg (enc xs[i]) (by rw [List.getElem?_map, List.getElem?_eq_getElem hlt]; rfl)
    refine .inr ⟨yg1, fun H3 => ∃ Hb3 vs3, Nw Hb1 H1 Hb3 H3 ∧ Hb3 Dl = none ∧ H3 Dl = some (.dK vs3) ∧ RepK X.K X.mg Hb3 vs3 (out (i + 1)), fun H3 h3 => ⟨xs.length - (i + 1), by omega, rfl, hlt, h3⟩, fun x H3 hy => ?_⟩
    obtain ⟨Hb3, n3, rx⟩ := yg2 x H3 hy
    obtain ⟨ρ', e1, e2, e3, e4⟩ := body xs[i] (List.getElem_mem hlt)
    have E3 := ((E.mono n1).mono (n2.trans n3)).wipe (own.map (·.2))
    obtain ⟨σ', E4, w4, _, k4⟩ := gPat_ok p (enc xs[i]) _ ρ' _ x e1 E3 rx
    have hl3 : H3 Dl = some (.dK vs) := n3.h _ _ hv
    have hb3 : Hb3 Dl = none := (n3.f Dl (by rw [hv]; exact Option.some_ne_none _)).trans hDb
    refine k4 _ ⟨?_, fun s H' C cl fp pins s1 I => ?_⟩
    · rw [w4 _ hp, wipe_wipe]
    · refine e2 s H' C cl fp σ' Hb3 H3 E4 _ (fun Hb4 H4 n4 => ?_) pins s1 I
      have hl4 : H4 Dl = some (.dK vs) := n4.h _ _ hl3
      have hb4 : Hb4 Dl = none := (n4.f Dl (by rw [hl3]; exact Option.some_ne_none _)).trans hb3
      have eo : out (i + 1) = ((xs.take i).filter t ++ [xs[i]].filter t).foldl (fun acc x => putI acc (kf x) (vf x)) [] := by
        show ((xs.take (i + 1)).filter t).foldl _ _ = _
        rw [List.take_succ_eq_append_getElem hlt, List.filter_append]
      cases ht : t xs[i] with
      | false =>
        rw [if_neg Bool.false_ne_true]
        refine ⟨Hb4, vs, n2.trans (n3.trans n4), hb4, hl4, ?_⟩
        rw [eo]
        simp only [List.filter_cons, ht, Bool.false_eq_true, if_false, List.filter_nil, List.append_nil]
        exact (rs.mono n3.b).mono n4.b
      | true =>
        rw [if_pos rfl]
        refine fun s' H'' C' cl' fp' => e3 ht s' H'' C' cl' fp' σ' Hb4 H4 (E4.mono n4) _ fun kv Hb5 H5 n5 r5 => ?_
        cases r5.int_inv
        refine fun s' H'' C' cl' fp' => e4 ht s' H'' C' cl' fp' σ' Hb5 H5 ((E4.mono n4).mono n5) _ fun v Hb6 H6 n6 r6 => ?_
        have hl6 : H6 Dl = some (.dK vs) := n6.h _ _ (n5.h _ _ hl4)
        have hb5 : Hb5 Dl = none := (n5.f Dl (by rw [hl4]; exact Option.some_ne_none _)).trans hb4
        have hb6 : Hb6 Dl = none := (n6.f Dl (by rw [n5.h _ _ hl4]; exact Option.some_ne_none _)).trans hb5
        refine ⟨vs, Sum.inl (kf xs[i]), rfl, hl6, ?_, Hb6, _, (n2.trans (n3.trans (n4.trans (n5.trans n6)))).put hD hb6, hb6, upd_same, ?_⟩
        · rw [rs.length]
          refine Nat.lt_of_le_of_lt (outl _ _) ?_
          refine Nat.lt_of_le_of_lt (m := 1000000) ?_ (by decide)
          refine Nat.le_trans (Nat.add_le_add (Nat.le_refl _) (List.length_filter_le _ _)) ?_
          rw [List.length_take, List.length_nil]
          omega
        · rw [eo]
          simp only [List.filter_cons, ht, if_true, List.filter_nil, List.foldl_append, List.foldl_cons, List.foldl_nil]
          exact RepK.put ((((rs.mono n3.b).mono n4.b).mono n5.b).mono n6.b) r6
  · have : i = xs.length := by omega
    subst this
    refine .inl ⟨ys (Nat.le_refl _) (Nat.le_refl _), ?_⟩
    have e : out xs.length = (xs.filter t).foldl (fun acc x => putI acc (kf x) (vf x)) [] := by
      show ((xs.take xs.length).filter t).foldl _ _ = _
      rw [List.take_length]
    rw [e] at rs
    have n12 := n1.trans n2
    exact q (.ref Dl) (upd Hb2 Dl (.dK vs)) H2 (n12.tell (Nw.no n1 hD) hDb hv) (.dct upd_same (rs.mono (sm_new hDb)))
theorem d_dcA {α : Type} {xs : List α} {enc : α → D} {t : α → Bool} {kf : α → Int} {vf : α → D} {p : Pat} {tg iter kx vx : Expr} {ifs : List Expr} {scope : Scope} (own : List (Str × Nat)) (hN : X.N.Nodup) (hi : DI X tg iter ρ (xs.map enc)) (ok : BlkOk X.N X.env.scope scope own)
    (hg : Blk X scope fun X' => PG X' tg (gPat X'.K p)) (hp : ∀ i ∈ p.slots, i ∈ own.map (·.2)) (hl : xs.length ≤ 1000000)
    (body : ∀ x ∈ xs, ∃ ρ', bindP p (enc x) (wipeR ρ (own.map (·.2))) = some ρ' ∧ (Blk X scope fun X' => DTs X' ifs ρ' (t x)) ∧ (t x = true → Blk X scope fun X' => DE X' kx ρ' (.int (kf x))) ∧ (t x = true → Blk X scope fun X' => DE X' vx ρ' (vf x)))
    (hc : X.calm = true := by rfl) (hs : ∀ x, foldedSetIterable iter X.env x = pure x := by intro _; rfl) : DE X (.DictComp kx vx [⟨tg, iter, ifs, 0⟩] scope pos) ρ (.dct ((xs.filter t).foldl (fun acc x => putI acc (kf x) (vf x)) [])) := fun σ Hb H E Q q =>
  ofE (pe_dc hc hN peI ok (g := gPat X.K p) (tt := uTs X scope ifs) (tk := uE X scope kx) (tv := uE X scope vx) (fun s H C cl fp => hg s H C cl fp) (fun s H C cl fp => ⟨fun pins s1 σ H1 Q I h => h s H C cl fp pins s1 I⟩) (fun s H C cl fp => ⟨fun pins s1 σ H1 Q I h => h s H C cl fp pins s1 I⟩) (fun s H C cl fp => ⟨fun pins s1 σ H1 Q I h => h s H C cl fp pins s1 I⟩) hs) (dcR own hN hi ok hg hp hl body σ Hb H E Q q)
theorem d_dc {α : Type} {xs : List α} {enc : α → D} {kf : α → Int} {vf : α → D} {p : Pat} {tg iter kx vx : Expr} {scope : Scope} (own : List (Str × Nat)) (hN : X.N.Nodup) (hi : DI X tg iter ρ (xs.map enc)) (ok : BlkOk X.N X.env.scope scope own)
    (hg : Blk X scope fun X' => PG X' tg (gPat X'.K p)) (hp : ∀ i ∈ p.slots, i ∈ own.map (·.2)) (hl : xs.length ≤ 1000000)
    (body : ∀ x ∈ xs, ∃ ρ', bindP p (enc x) (wipeR ρ (own.map (·.2))) = some ρ' ∧ (Blk X scope fun X' => DE X' kx ρ' (.int (kf x))) ∧ (Blk X scope fun X' => DE X' vx ρ' (vf x)))
    (hc : X.calm = true := by rfl) (hs : ∀ x, foldedSetIterable iter X.env x = pure x := by intro _; rfl) : DE X (.DictComp kx vx [⟨tg, iter, [], 0⟩] scope pos) ρ (.dct (xs.foldl (fun acc x => putI acc (kf x) (vf x)) [])) :=
  (d_dcA (t := fun _ => true) own hN hi ok hg hp hl (fun x hx => let ⟨ρ', e1, e2, e3⟩ := body x hx; ⟨ρ', e1, fun _ _ _ _ _ => ts_nil, fun _ => e2, fun _ => e3⟩) hc hs).eq (by rw [List.filter_eq_self.mpr fun _ _ => rfl])
theorem d_dget {n : Nat} (hr : Room n X.A) (ha : DE X a ρ (.dct kvs)) (hb : DE X b ρ (.int i)) (h : valI kvs i = some d) (hs : NoSl b := by exact fun _ _ => rfl) : DE X (.Subscript a b pos) ρ d := fun σ Hb H E Q q =>
  ofE (pe_dget (hu_of hr) peE peE hs) (ha σ Hb H E _ fun v Hb2 H2 n r => hb σ Hb2 H2 (E.mono n) _ fun u Hb3 H3 n2 r2 => by
    obtain ⟨l, vs, rfl, hl, rk⟩ := r.dct_inv
    cases r2.int_inv
    obtain ⟨w, h1, h2⟩ := (rk.mono n2.b).val.1 d h
    exact ⟨l, w, rfl, by rw [← h1]; exact DGet.k (k := Sum.inl i) (n2.h _ _ (n.i _ _ hl)), q w Hb3 H3 (n.trans n2) h2⟩)
/-- d.get(k) -/
theorem d_getD {n : Nat} {apos cpos : Pos} (hr : Room n X.A) (ha : DE X a ρ (.dct kvs)) (hb : DE X b ρ (.int i)) (m : M1 X a "get" apos b cpos := by exact ⟨rfl, rfl, rfl, rfl⟩) : DE X (.Call (.Attribute a "get" apos) [b] [] cpos) ρ ((valI kvs i).getD .non) := fun σ Hb H E Q q =>
  ofE (pe_dget1 (hu_of hr) peE peE m) (ha σ Hb H E _ fun v Hb2 H2 n r => by
    obtain ⟨l, vs, rfl, hl, rk⟩ := r.dct_inv
    refine ⟨l, rfl, .inl ⟨vs, Rd.of (n.i _ _ hl)⟩, hb σ Hb2 H2 (E.mono n) _ fun u Hb3 H3 n2 r2 => ?_⟩
    cases r2.int_inv
    refine ⟨_, DGet.k (k := Sum.inl i) (n2.h _ _ (n.i _ _ hl)), ?_⟩
    cases e : valI kvs i with
    | none => rw [(rk.mono n2.b).val.2 e]; rw [e] at q; exact q _ Hb3 H3 (n.trans n2) .non
    | some d =>
      obtain ⟨w, h1, h2⟩ := (rk.mono n2.b).val.1 d e
      rw [h1]
      rw [e] at q
      exact q w Hb3 H3 (n.trans n2) h2)
theorem d_getD2 {n : Nat} {apos cpos : Pos} (hr : Room n X.A) (ha : DE X a ρ (.dct kvs)) (hb : DE X b ρ (.int i)) (hc : DE X c ρ z) (m : M2 X a "get" apos b c cpos := by exact ⟨rfl, rfl, rfl, rfl⟩) : DE X (.Call (.Attribute a "get" apos) [b, c] [] cpos) ρ ((valI kvs i).getD z) := fun σ Hb H E Q q =>
  ofE (pe_dget2 (hu_of hr) peE peE peE m) (ha σ Hb H E _ fun v Hb2 H2 n r => by
    obtain ⟨l, vs, rfl, hl, rk⟩ := r.dct_inv
    refine ⟨l, rfl, .inl ⟨vs, Rd.of (n.i _ _ hl)⟩, hb σ Hb2 H2 (E.mono n) _ fun u Hb3 H3 n2 r2 => ?_⟩
    cases r2.int_inv
    refine hc σ Hb3 H3 ((E.mono n).mono n2) _ fun w Hb4 H4 n3 r3 => ⟨_, DGet.k (k := Sum.inl i) (n3.h _ _ (n2.h _ _ (n.i _ _ hl))), ?_⟩
    cases e : valI kvs i with
    | none => rw [((rk.mono n2.b).mono n3.b).val.2 e]; rw [e] at q; exact q _ Hb4 H4 (n.trans (n2.trans n3)) r3
    | some d =>
      obtain ⟨w, h1, h2⟩ := ((rk.mono n2.b).mono n3.b).val.1 d e
      rw [h1]
      rw [e] at q
      exact q w Hb4 H4 (n.trans (n2.trans n3)) h2)
/-! ### one's own dict -/
theorem d_dgetO {n : Nat} (m : Nat) {x : Str} {npos : Pos} (hr : Room n X.A) (hb : DE X b ρ (.int i)) (h : valI kvs i = some d) (hn : ρ[m]? = some (some (.md kvs)) := by rfl) (hN : X.N[m]? = some x := by rfl) (hv : Vis X.env.scope x := by first | exact Or.inl rfl | exact Or.inr (Or.inl rfl) | exact Or.inr (Or.inr rfl)) (hs : NoSl b := by exact fun _ _ => rfl)
    (hd : (x == ("__debug__" : Str)) = false := by decide) (hcd : (x == ("__classdict__" : Str)) = false := by decide) : DE X (.Subscript (.Name x npos) b pos) ρ d := fun σ Hb H E Q q =>
  ofE (pe_dget (hu_of hr) (pe_var hN hv hd hcd) peE hs) (by
    obtain ⟨l, h1, h2, vs, h3, h4⟩ := E.own m _ hn (fun _ z => nomatch z)
    refine ⟨.ref l, h1, hb σ Hb H E _ fun u Hb2 H2 n2 r2 => ?_⟩
    cases r2.int_inv
    obtain ⟨w, q1, q2⟩ := (h4.mono n2.b).val.1 d h
    exact ⟨l, w, rfl, by rw [← q1]; exact DGet.k (k := Sum.inl i) (n2.h _ _ h3), q w Hb2 H2 n2 q2⟩)
theorem t_notInO {n : Nat} (m : Nat) {x : Str} {npos : Pos} (hr : Room n X.A) (hb : DE X b ρ (.int i)) (hn : ρ[m]? = some (some (.md kvs)) := by rfl) (hN : X.N[m]? = some x := by rfl) (hv : Vis X.env.scope x := by first | exact Or.inl rfl | exact Or.inr (Or.inl rfl) | exact Or.inr (Or.inr rfl)) (hm : behindInMarks .NotIn (.Name x npos) = false := by rfl)
    (hd : (x == ("__debug__" : Str)) = false := by decide) (hcd : (x == ("__classdict__" : Str)) = false := by decide) : DT X (.Compare b [.NotIn] [.Name x npos] pos) ρ (!(valI kvs i).isSome) := fun σ Hb H E Q q =>
  ofT (pt_cmp (pc_dnotin (hu_of hr) peE (pe_var hN hv hd hcd)) hm) (hb σ Hb H E _ fun u Hb2 H2 n2 r2 => by
    obtain ⟨l, h1, h2, vs, h3, h4⟩ := E.own m _ hn (fun _ z => nomatch z)
    cases r2.int_inv
    refine ⟨.ref l, h1, l, _, rfl, DGet.k (k := Sum.inl i) (n2.h _ _ h3), _, rfl, ?_⟩
    have e : (valV vs (Sum.inl i)).isSome = (valI kvs i).isSome := by
      cases e : valI kvs i with
      | none => rw [h4.val.2 e]; rfl
      | some d => obtain ⟨w, q1, _⟩ := h4.val.1 d e; rw [q1]; rfl
    rw [e]
    exact q Hb2 H2 n2)
theorem s_dputO {n : Nat} (m : Nat) {x : Str} {npos pos' : Pos} (hr : Room n X.A) (hv' : DE X e ρ d) (hb : DE X b ρ (.int i)) (hk : k (.nx (ρ.set m (some (.md (putI kvs i d)))))) (hz : kvs.length < sizeLine) (hn : ρ[m]? = some (some (.md kvs)) := by rfl) (hN : X.N[m]? = some x := by rfl) (hv : Vis X.env.scope x := by first | exact Or.inl rfl | exact Or.inr (Or.inl rfl) | exact Or.inr (Or.inr rfl))
    (hd : (x == ("__debug__" : Str)) = false := by decide) (hcd : (x == ("__classdict__" : Str)) = false := by decide) (hs : swapsWith e (some (.Subscript (.Name x npos) b pos')) pos.line X.env = pure false := by rfl) : DS X (.Assign [.Subscript (.Name x npos) b pos'] e pos) ρ k := fun Hb0 H0 σ Hb H s D r =>
  ofS (ps_dput (hu_of hr) (pe_var hN hv hd hcd) peE peE hs) (hv' σ Hb H s.en _ fun v Hb2 H2 n2 r2 => by
    obtain ⟨l, h1, h2, vs, h3, h4⟩ := (s.mono n2).en.own m _ hn (fun _ z => nomatch z)
    refine ⟨.ref l, h1, hb σ Hb2 H2 (s.mono n2).en _ fun u Hb3 H3 n3 r3 => ?_⟩
    cases r3.int_inv
    refine ⟨l, _, rfl, DPut.k (k := Sum.inl i) (n3.h _ _ h3) (by rw [h4.length]; exact hz), ?_⟩
    exact r _ hk σ Hb3 _ (((s.mono n2).mono n3).chg hn (fun _ z => nomatch z) (fun _ z => nomatch z) h1 ⟨_, upd_same, (h4.mono n3.b).put (r2.mono n3.b)⟩))
theorem s_ddelO (m : Nat) {x : Str} {npos tpos : Pos} (hb : DE X b ρ (.int i)) (hk : k (.nx (ρ.set m (some (.md (dropI kvs i)))))) (hi : (valI kvs i).isSome = true) (hn : ρ[m]? = some (some (.md kvs)) := by rfl) (hN : X.N[m]? = some x := by rfl) (hv : Vis X.env.scope x := by first | exact Or.inl rfl | exact Or.inr (Or.inl rfl) | exact Or.inr (Or.inr rfl))
    (hd : (x == ("__debug__" : Str)) = false := by decide) (hcd : (x == ("__classdict__" : Str)) = false := by decide) : DS X (.Delete [.Subscript (.Name x npos) b tpos] pos) ρ k := fun Hb0 H0 σ Hb H s D r =>
  ofS (ps_ddel (pe_var hN hv hd hcd) peE) (by
    obtain ⟨l, h1, h2, vs, h3, h4⟩ := s.en.own m _ hn (fun _ z => nomatch z)
    refine ⟨.ref l, h1, hb σ Hb H s.en _ fun u Hb2 H2 n2 r2 => ?_⟩
    cases r2.int_inv
    refine ⟨l, vs, Sum.inl i, rfl, n2.h _ _ h3, rfl, ?_, r _ hk σ Hb2 _ ((s.mono n2).chg hn (fun _ z => nomatch z) (fun _ z => nomatch z) h1 ⟨_, upd_same, (h4.mono n2.b).drop⟩)⟩
    cases e : valI kvs i with
    | none => rw [e] at hi; cases hi
    | some d => obtain ⟨w, q1, _⟩ := h4.val.1 d e; rw [q1]; rfl)
end
end K76
set_option maxRecDepth 100000
set_option maxHeartbeats 4000000
namespace K76
open PySem PySem.Spec PyProof.Rows L2
section
variable {X : Cx} {ρ ρ' : Env} {a b c e : Expr} {es : List Expr} {rest sts : List Stmt} {k : Out → Prop} {x y z d : D} {ds es' : List D} {pos np : Pos} {i j : Int}
abbrev St1 (X : Cx) (a : Expr) : Prop := starEach [a] X.env = (false, eval a X.env) :: starEach [] X.env
theorem d_abs (hm : X.mg "abs" = none) (ha : DE X a ρ (.int i)) (hg : Gl X "abs" := by rfl) (st : St1 X a := by rfl) : DE X (.Call (.Name "abs" np) [a] [] pos) ρ (.int (if i < 0 then -i else i)) :=
  d_callB call_abs hm (by decide +kernel) (a_cons ha a_nil st) (fun Hb H vs s r Q q => by
    obtain ⟨v, rfl, rv⟩ := r.one
    cases rv.int_inv
    exact ⟨i, rfl, q _ Hb H (Nw.refl s) (.int _)⟩) hg (he := st)
theorem d_max2 (hm : X.mg "max" = none) (ha : DE X a ρ (.int i)) (hb : DE X b ρ (.int j)) (hg : Gl X "max" := by rfl) (hc : X.calm = true := by rfl) (st : starEach [a, b] X.env = (false, eval a X.env) :: starEach [b] X.env := by rfl) (st2 : St1 X b := by rfl) (hpl : (backTo pos (starEach [b] X.env)).any (·.1) = false := by rfl) : DE X (.Call (.Name "max" np) [a, b] [] pos) ρ (.int (if j > i then j else i)) :=
  d_callB (call_max2 hc) hm (by decide +kernel) (a_cons ha (a_cons hb a_nil st2) st) (fun Hb H vs s r Q q => by
    obtain ⟨v, u, rfl, rv, ru⟩ := r.two
    cases rv.int_inv
    cases ru.int_inv
    exact ⟨i, j, rfl, q _ Hb H (Nw.refl s) (.int _)⟩) hg (he := st) (hpl := hpl)
theorem d_min2 (hm : X.mg "min" = none) (ha : DE X a ρ (.int i)) (hb : DE X b ρ (.int j)) (hg : Gl X "min" := by rfl) (hc : X.calm = true := by rfl) (st : starEach [a, b] X.env = (false, eval a X.env) :: starEach [b] X.env := by rfl) (st2 : St1 X b := by rfl) (hpl : (backTo pos (starEach [b] X.env)).any (·.1) = false := by rfl) : DE X (.Call (.Name "min" np) [a, b] [] pos) ρ (.int (if j < i then j else i)) :=
  d_callB (call_min2 hc) hm (by decide +kernel) (a_cons ha (a_cons hb a_nil st2) st) (fun Hb H vs s r Q q => by
    obtain ⟨v, u, rfl, rv, ru⟩ := r.two
    cases rv.int_inv
    cases ru.int_inv
    exact ⟨i, j, rfl, q _ Hb H (Nw.refl s) (.int _)⟩) hg (he := st) (hpl := hpl)
theorem d_intI (hm : X.mg "int" = none) (ha : DE X a ρ (.int i)) (hg : Gl X "int" := by rfl) (st : St1 X a := by rfl) : DE X (.Call (.Name "int" np) [a] [] pos) ρ (.int i) :=
  d_callTy call_int1 hm (by decide +kernel) (a_cons ha a_nil st) (fun Hb H vs s r Q q => by
    obtain ⟨v, rfl, rv⟩ := r.one
    cases rv.int_inv
    exact .inl ⟨i, rfl, q _ Hb H (Nw.refl s) (.int _)⟩) hg (he := st)
theorem d_intB {p : Bool} (hm : X.mg "int" = none) (ha : DE X a ρ (.bl p)) (hg : Gl X "int" := by rfl) (st : St1 X a := by rfl) : DE X (.Call (.Name "int" np) [a] [] pos) ρ (.int (if p then 1 else 0)) :=
  d_callTy call_int1 hm (by decide +kernel) (a_cons ha a_nil st) (fun Hb H vs s r Q q => by
    obtain ⟨v, rfl, rv⟩ := r.one
    cases rv.bl_inv
    exact .inr ⟨p, rfl, q _ Hb H (Nw.refl s) (.int _)⟩) hg (he := st)
theorem d_neg (ha : DE X a ρ (.int i)) : DE X (.UnaryOp .USub a pos) ρ (.int (-i)) := fun σ Hb H E Q q => ofE (pe_un un_neg peE) (ha σ Hb H E _ fun v Hb2 H2 n r => ⟨i, r.int_inv, q _ Hb2 H2 n (.int _)⟩)
/-- size.bit_length() -/
theorem d_bits {apos : Pos} (ha : DE X a ρ (.int i)) (hbase : attributeBase a "bit_length" X.env (eval a X.env) = eval a X.env := by rfl) (hline : (apos.endLine == pos.line) = true := by rfl) : DE X (.Call (.Attribute a "bit_length" apos) [] [] pos) ρ (.int (Builtin.Int.intBits i : Nat)) := fun σ Hb H E Q q =>
  ofE (pe_bits peE hbase hline) (ha σ Hb H E _ fun v Hb2 H2 n r => ⟨i, r.int_inv, q _ Hb2 H2 n (.int _)⟩)
/-- tuple(a list) -/
theorem d_tupleL (hm : X.mg "tuple" = none) (ha : DE X a ρ (.lst ds)) (hg : Gl X "tuple" := by rfl) (st : St1 X a := by rfl) : DE X (.Call (.Name "tuple" np) [a] [] pos) ρ (.tup ds) :=
  d_callTy call_tuple_of hm boot_tuple (a_cons ha a_nil st) (fun Hb H vs s r Q q => by
    obtain ⟨v, rfl, rv⟩ := r.one
    obtain ⟨p, vs, rfl, hv, rs⟩ := rv.lst_inv
    exact ⟨p, vs, rfl, .inl ⟨SqL.of (s _ _ hv), fun l hl => q _ _ _ (Nw.new s hl) (.tup upd_same (rs.mono (sm_new (sm_none s hl))))⟩⟩) hg (he := st)
theorem f_call {r : List V → Hp → VK → Prop} {T : String} {x : Str} {xs : List D} (hc : CallR X (.type T) r) (hm : X.mg x = none) (hv : bootBuiltins x = some (.type T)) (ha : DA X (e :: es) ρ xs)
    (hr : ∀ Hb H vs, Same Hb H → Reps X.K X.mg Hb vs xs → ∀ Q : VK, (∀ l vs2 Hb2 H2, Nw Hb H Hb2 H2 → H l = none → Hb2 l = none → H2 l = some (.lst vs2) → Reps X.K X.mg Hb2 vs2 ds → Q (.ref l) H2) → r vs H Q) (hg : Gl X x := by rfl)
    (hn : x ≠ "__name__" := by decide) (hdb : (x == ("__debug__" : Str)) = false := by decide) (he : starEach (e :: es) X.env = (false, eval e X.env) :: starEach es X.env := by rfl) (hpl : (backTo pos (starEach es X.env)).any (·.1) = false := by rfl) : DF X (.Call (.Name x np) (e :: es) [] pos) ρ ds := fun σ Hb H E Q q =>
  ofE (pe_callTy hc hg hm hv peA hn hdb he hpl) (ha σ Hb H E _ fun vs Hb2 H2 n rs => hr Hb2 H2 vs n.i rs Q fun l vs2 Hb3 H3 n2 hl hb hv rv => q l vs2 Hb3 H3 (n.trans n2) (Nw.no n hl) hb hv rv)
/-- list(a list or a tuple) -/
theorem f_listS (hm : X.mg "list" = none) (ha : DE X a ρ x) (hs : Sqd x ds) (hg : Gl X "list" := by rfl) (st : St1 X a := by rfl) : DF X (.Call (.Name "list" np) [a] [] pos) ρ ds :=
  f_call call_list_of hm boot_list (a_cons ha a_nil st) (fun Hb H vs s r Q q => by
    obtain ⟨v, rfl, rv⟩ := r.one
    obtain ⟨p, vs, rfl, hv, rs⟩ := hs.inv rv
    refine ⟨p, vs, rfl, ?_, fun l hl => q l vs Hb _ (Nw.more s hl) hl (sm_none s hl) upd_same rs⟩
    rcases hv with hv | hv
    · exact .inr (sm_tup s hv)
    · exact .inl (Same.seq s hv)) hg (he := st)
/-- xs + ys, lists -/
theorem f_cat {xs ys : List D} (ha : DE X a ρ (.lst xs)) (hb : DE X b ρ (.lst ys)) (hl : xs.length + ys.length ≤ sizeLine) : DF X (.BinOp a .Add b pos) ρ (xs ++ ys) := fun σ Hb H E Q q =>
  ofE (pe_op op_cat peE peE) (ha σ Hb H E _ fun v Hb2 H2 n r => hb σ Hb2 H2 (E.mono n) _ fun u Hb3 H3 n2 r2 => by
    obtain ⟨p, vs, rfl, hv, rs⟩ := (r.mono n2.b).lst_inv
    obtain ⟨p2, vs2, rfl, hv2, rs2⟩ := r2.lst_inv
    have nn := n.trans n2
    exact ⟨p, p2, vs, vs2, rfl, rfl, nn.i _ _ hv, nn.i _ _ hv2, by rw [rs.length, rs2.length]; exact hl, fun l hl => q l _ Hb3 _ (nn.trans (Nw.more nn.i hl)) (Nw.no nn hl) (sm_none nn.i hl) upd_same (rs.append rs2)⟩)
/-- xs + ys, tuples -/
theorem d_catT {xs ys : List D} (ha : DE X a ρ (.tup xs)) (hb : DE X b ρ (.tup ys)) (hl : xs.length + ys.length ≤ sizeLine) : DE X (.BinOp a .Add b pos) ρ (.tup (xs ++ ys)) := fun σ Hb H E Q q =>
  ofE (pe_op op_catA peE peE) (ha σ Hb H E _ fun v Hb2 H2 n r => hb σ Hb2 H2 (E.mono n) _ fun u Hb3 H3 n2 r2 => by
    obtain ⟨p, vs, rfl, hv, rs⟩ := (r.mono n2.b).tup_at
    obtain ⟨p2, vs2, rfl, hv2, rs2⟩ := r2.tup_at
    have nn := n.trans n2
    refine ⟨p, p2, vs, vs2, rfl, rfl, SqT.of (nn.i _ _ hv), SqT.of (nn.i _ _ hv2), by rw [rs.length, rs2.length]; exact hl, fun e1 => ?_, fun e1 e2 => ?_, fun _ _ l hl => q _ _ _ (nn.trans (Nw.new nn.i hl)) (.tup upd_same ((rs.append rs2).mono (sm_new (sm_none nn.i hl))))⟩
    · subst e1
      cases rs
      exact q _ Hb3 H3 nn (.tup hv2 rs2)
    · subst e2
      cases rs2
      rw [List.append_nil] at q
      exact q _ Hb3 H3 nn (.tup hv rs))
/-- [..] * n -/
theorem Reps.rep {K : PySem.W.Frag} {mg : Str → Option Value} {H : Hp} {vs : List V} (r : Reps K mg H vs ds) : ∀ n : Nat, Reps K mg H (List.replicate n vs).flatten (List.replicate n ds).flatten
  | 0 => .nil
  | n + 1 => by rw [List.replicate_succ, List.replicate_succ, List.flatten_cons, List.flatten_cons]; exact r.append (Reps.rep r n)
theorem f_rep (ha : DE X a ρ (.lst ds)) (hb : DE X b ρ (.int i)) (h1 : -(2 ^ 63) ≤ i) (h2 : i < 2 ^ 63) (hl : ds.length * i.toNat ≤ sizeLine) : DF X (.BinOp a .Mult b pos) ρ (List.replicate i.toNat ds).flatten := fun σ Hb H E Q q =>
  ofE (pe_op op_rep peE peE) (ha σ Hb H E _ fun v Hb2 H2 n r => hb σ Hb2 H2 (E.mono n) _ fun u Hb3 H3 n2 r2 => by
    obtain ⟨p, vs, rfl, hv, rs⟩ := (r.mono n2.b).lst_inv
    cases r2.int_inv
    have nn := n.trans n2
    exact ⟨p, i, vs, rfl, rfl, nn.i _ _ hv, h1, h2, by rw [rs.length]; exact hl, fun l hl => q l _ Hb3 _ (nn.trans (Nw.more nn.i hl)) (Nw.no nn hl) (sm_none nn.i hl) upd_same (rs.rep _)⟩)
/-- xs[::-1] -/
theorem f_revL {kk : Nat} {p1 p2 p3 : Pos} (ha : DE X a ρ (.lst ds)) : DF X (.Subscript a (.Slice none none (some (.UnaryOp .USub (.Constant (.int 1) kk p1) p2)) p3) pos) ρ ds.reverse := fun σ Hb H E Q q =>
  ofE (pe_revL peE) (ha σ Hb H E _ fun v Hb2 H2 n r => by
    obtain ⟨p, vs, rfl, hv, rs⟩ := r.lst_inv
    exact ⟨p, vs, rfl, SqL.of (n.i _ _ hv), fun l hl => q l _ Hb2 _ (n.trans (Nw.more n.i hl)) (Nw.no n hl) (sm_none n.i hl) upd_same rs.reverse⟩)
/-- max, min of a list of ints -/
theorem d_maxL {α : Type} {xs : List α} {f : α → Int} {m : Int} (hm : X.mg "max" = none) (ha : DE X a ρ (.lst (xs.map fun x => .int (f x)))) (h1 : m ∈ xs.map f) (h2 : ∀ y ∈ xs.map f, y ≤ m) (hc : X.calm = true := by rfl) (hg : Gl X "max" := by rfl) (st : St1 X a := by rfl) : DE X (.Call (.Name "max" np) [a] [] pos) ρ (.int m) :=
  d_callB (cr_max hc) hm (by decide +kernel) (a_cons ha a_nil st) (fun Hb H vs s r Q q => by
    obtain ⟨v, rfl, rv⟩ := r.one
    obtain ⟨p, vs, rfl, hv, rs⟩ := rv.lst_inv
    rw [map_int_inv rs] at hv
    refine ⟨p, xs.map f, rfl, SqL.of (s _ _ hv), List.length_pos_of_mem h1, fun m' a1 a2 => ?_⟩
    have e : m' = m := Int.le_antisymm (h2 m' a1) (a2 m h1)
    rw [e]
    exact q _ Hb H (Nw.refl s) (.int _)) hg (he := st)
theorem d_minL {α : Type} {xs : List α} {f : α → Int} {m : Int} (hm : X.mg "min" = none) (ha : DE X a ρ (.lst (xs.map fun x => .int (f x)))) (h1 : m ∈ xs.map f) (h2 : ∀ y ∈ xs.map f, m ≤ y) (hc : X.calm = true := by rfl) (hg : Gl X "min" := by rfl) (st : St1 X a := by rfl) : DE X (.Call (.Name "min" np) [a] [] pos) ρ (.int m) :=
  d_callB (cr_min hc) hm (by decide +kernel) (a_cons ha a_nil st) (fun Hb H vs s r Q q => by
    obtain ⟨v, rfl, rv⟩ := r.one
    obtain ⟨p, vs, rfl, hv, rs⟩ := rv.lst_inv
    rw [map_int_inv rs] at hv
    refine ⟨p, xs.map f, rfl, SqL.of (s _ _ hv), List.length_pos_of_mem h1, fun m' a1 a2 => ?_⟩
    have e : m' = m := Int.le_antisymm (a2 m h1) (h2 m' a1)
    rw [e]
    exact q _ Hb H (Nw.refl s) (.int _)) hg (he := st)
/-! ### sorts -/
theorem perm_sorted_eq {α : Type} {le : α → α → Prop} (anti : ∀ a b, le a b → le b a → a = b) : ∀ {l m : List α}, l.Perm m → l.Pairwise le → m.Pairwise le → l = m
  | [], m, h, _, _ => (List.Perm.nil_eq h)
  | x :: l, [], h, _, _ => absurd h.length_eq (by simp)
  | x :: l, y :: m, h, hl, hm => by
    have e : x = y := by
      rcases List.mem_cons.mp (h.mem_iff.mp (List.mem_cons_self (a := x) (l := l))) with e | hx
      · exact e
      · rcases List.mem_cons.mp (h.mem_iff.mpr (List.mem_cons_self (a := y) (l := m))) with e | hy
        · exact e.symm
        · exact anti x y ((List.pairwise_cons.mp hl).1 y hy) ((List.pairwise_cons.mp hm).1 x hx)
    subst e
    rw [perm_sorted_eq anti h.cons_inv (List.pairwise_cons.mp hl).2 (List.pairwise_cons.mp hm).2]
theorem f_callB {r : List V → Hp → VK → Prop} {id : String} {x : Str} {xs : List D} (hc : CallR X (.builtin id) r) (hm : X.mg x = none) (hv : bootBuiltins x = some (.builtin id)) (ha : DA X (e :: es) ρ xs)
    (hr : ∀ Hb H vs, Same Hb H → Reps X.K X.mg Hb vs xs → ∀ Q : VK, (∀ l vs2 Hb2 H2, Nw Hb H Hb2 H2 → H l = none → Hb2 l = none → H2 l = some (.lst vs2) → Reps X.K X.mg Hb2 vs2 ds → Q (.ref l) H2) → r vs H Q) (hg : Gl X x := by rfl)
    (hn : x ≠ "__name__" := by decide) (hdb : (x == ("__debug__" : Str)) = false := by decide) (he : starEach (e :: es) X.env = (false, eval e X.env) :: starEach es X.env := by rfl) (hpl : (backTo pos (starEach es X.env)).any (·.1) = false := by rfl) : DF X (.Call (.Name x np) (e :: es) [] pos) ρ ds := fun σ Hb H E Q q =>
  ofE (pe_callB hc hg hm hv peA hn hdb he hpl) (ha σ Hb H E _ fun vs Hb2 H2 n rs => hr Hb2 H2 vs n.i rs Q fun l vs2 Hb3 H3 n2 hl hb hv rv => q l vs2 Hb3 H3 (n.trans n2) (Nw.no n hl) hb hv rv)
/-- pairs by their first ints, then by the second ones -/
def lexLe (p q : Int × Int) : Prop := p.1 < q.1 ∨ (p.1 = q.1 ∧ p.2 ≤ q.2)
theorem lexLe_anti (a b : Int × Int) (h1 : lexLe a b) (h2 : lexLe b a) : a = b := by
  unfold lexLe at h1 h2
  ext <;> omega
@[reducible] def dPr (p : Int × Int) : D := .tup [.int p.1, .int p.2]
/-- sorted(pairs) -/
theorem f_sortedP {ps qs : List (Int × Int)} (hm : X.mg "sorted" = none) (ha : DE X a ρ (.lst (ps.map dPr))) (hp : qs.Perm ps) (hs : qs.Pairwise lexLe) (hg : Gl X "sorted" := by rfl) (st : St1 X a := by rfl) : DF X (.Call (.Name "sorted" np) [a] [] pos) ρ (qs.map dPr) :=
  f_callB cr_sortedPO hm (by decide +kernel) (a_cons ha a_nil st) (fun Hb H vs s r Q q => by
    obtain ⟨v, rfl, rv⟩ := r.one
    obtain ⟨l, vs, rfl, hv, rs⟩ := rv.lst_inv
    let kf : V → Int × Int := fun v => match v with
      | .ref t => (match Hb t with
        | some (.tup [.int i, .int j]) => (i, j)
        | _ => (0, 0))
      | _ => (0, 0)
    have one : ∀ {v : V} {p : Int × Int}, Rep X.K X.mg Hb v (dPr p) → ∃ t, v = .ref t ∧ Hb t = some (.tup [.int p.1, .int p.2]) ∧ kf v = p := fun {v p} h => by
      obtain ⟨t, ws, rfl, ht, rw'⟩ := h.tup_at
      obtain ⟨u1, u2, rfl, r1, r2⟩ := rw'.two
      cases r1.int_inv
      cases r2.int_inv
      refine ⟨t, rfl, ht, ?_⟩
      show (match Hb t with
        | some (.tup [.int i, .int j]) => (i, j)
        | _ => (0, 0)) = p
      rw [ht]
    have all : ∀ {vs : List V} {ps : List (Int × Int)}, Reps X.K X.mg Hb vs (ps.map dPr) → vs.map kf = ps ∧ ∀ v ∈ vs, Rep X.K X.mg Hb v (dPr (kf v)) := by
      intro vs
      induction vs with
      | nil => intro ps h; cases ps with
        | nil => exact ⟨rfl, fun v hv => nomatch hv⟩
        | cons p ps => cases h
      | cons v vs ih =>
        intro ps h
        cases ps with
        | nil => cases h
        | cons p ps =>
          cases h with
          | cons h r =>
            obtain ⟨t, e1, e2, e3⟩ := one h
            obtain ⟨i1, i2⟩ := ih r
            refine ⟨by rw [List.map_cons, e3, i1], fun u hu => ?_⟩
            rcases List.mem_cons.mp hu with e | hu
            · rw [e, e3]; exact h
            · exact i2 u hu
    obtain ⟨a1, a2⟩ := all rs
    refine ⟨l, vs, kf, rfl, SqL.of (s _ _ hv), fun v hv' => ?_, fun ys p h1 h2 hp' => ?_⟩
    · obtain ⟨t, e1, e2, e3⟩ := one (a2 v hv')
      exact ⟨t, e1, s _ _ e2⟩
    · have pm : (ys.map kf).Perm qs := by
        refine (h2.perm.map kf).trans ?_
        rw [a1]
        exact hp.symm
      have ss : (ys.map kf).Pairwise lexLe := by
        rw [List.pairwise_map]
        refine h1.imp ?_
        intro x y hxy
        have := SrtO.lexB_no.mp hxy
        unfold lexLe
        omega
      have e : ys.map kf = qs := perm_sorted_eq lexLe_anti pm ss hs
      refine q p ys Hb _ (Nw.more s hp') hp' (sm_none s hp') upd_same ?_
      rw [← e]
      have : ∀ zs : List V, (∀ z ∈ zs, Rep X.K X.mg Hb z (dPr (kf z))) → Reps X.K X.mg Hb zs ((zs.map kf).map dPr) := by
        intro zs
        induction zs with
        | nil => intro _; exact .nil
        | cons z zs ih => intro h; exact .cons (h z List.mem_cons_self) (ih fun y hy => h y (List.mem_cons_of_mem _ hy))
      exact this ys fun z hz => a2 z (h2.perm.mem_iff.mp hz)) hg (he := st)
/-- sorted(a dict of ints) -/
theorem f_sortedDI {kvs : List (Int × D)} {ns : List Int} (hm : X.mg "sorted" = none) (ha : DE X a ρ (.dct kvs)) (hp : ns.Perm (kvs.map (·.1))) (hs : ns.Pairwise (· ≤ ·)) (h64 : kvs.length < 64) (hg : Gl X "sorted" := by rfl) (hc : X.calm = true := by rfl) (st : St1 X a := by rfl) : DF X (.Call (.Name "sorted" np) [a] [] pos) ρ (ns.map D.int) :=
  f_callB (call_sortedDI hc) hm (by decide +kernel) (a_cons ha a_nil st) (fun Hb H vs s r Q q => by
    obtain ⟨v, rfl, rv⟩ := r.one
    obtain ⟨l, vs, rfl, hv, rs⟩ := rv.dct_inv
    have hk : ∀ {vs : List (Key × V)} {kvs : List (Int × D)}, RepK X.K X.mg Hb vs kvs → vs.map (·.1) = (kvs.map (·.1)).map Sum.inl := by
      intro vs
      induction vs with
      | nil => intro kvs h; cases h; rfl
      | cons v vs ih => intro kvs h; cases h with | cons h r => simp only [List.map_cons, ih r]
    refine ⟨l, vs, kvs.map (·.1), rfl, Rd.of (s _ _ hv), hk rs, by simpa using h64, fun ys p h1 h2 hp' => ?_⟩
    have e : ys = ns := perm_sorted_eq (fun a b => Int.le_antisymm) (h1.trans hp.symm) h2 hs
    rw [e]
    exact q p _ Hb _ (Nw.more s hp') hp' (sm_none s hp') upd_same (Reps.ints ns)) hg (he := st)
/-- len(set(ints)), all unlike -/
theorem d_lenSet {ns : List Int} {p2 q : Pos} (hm : X.mg "len" = none) (hm2 : X.mg "set" = none) (ha : DE X a ρ (.lst (ns.map D.int))) (hn : ns.Nodup) (hl : ns.length ≤ 4000)
    (hpe : ∀ {ta : TE}, PE X a ta → PE X (.Call (.Name "len" np) [.Call (.Name "set" p2) [a] [] q] [] pos) (RZ.tLenSetI X.K ta)) : DE X (.Call (.Name "len" np) [.Call (.Name "set" p2) [a] [] q] [] pos) ρ (.int (ns.length : Nat)) := fun σ Hb H E Q q =>
  ofE (hpe peE) (ha σ Hb H E _ fun v Hb2 H2 n r => by
    obtain ⟨l, vs, rfl, hv, rs⟩ := r.lst_inv
    rw [rs.ofInts] at hv
    exact ⟨l, ns, rfl, SqL.of (n.i _ _ hv), hn, hl, q _ Hb2 H2 n (.int _)⟩)
end
end K76
set_option maxRecDepth 100000
set_option maxHeartbeats 4000000
namespace PySem
open Sem (wp)
theorem k76_enum_new {v : Value} {o : Obj} {H : Heap → Prop} (B : Begins v o H) :
    Meets (Builtin.«enumerate.__new__» ⟨[.type "enumerate", v], []⟩) (fun _ R s => H s.heap ∧
      R (.ok (.ret (.ref (s.heap.push o).objs.size))) { s with heap := (s.heap.push o).push { cls := .type "enumerate", data := .fields #[.none, .bool false, .ref s.heap.objs.size, rawInt 0, .none, .none] } }) :=
  .of_wp fun prog w A R s h => by
    obtain ⟨hp, g, d, tk, os⟩ := s; obtain ⟨h1, h⟩ := h
    have hsub := sub_enumerate
    have q1 : ∀ {A' : Around} {E : Value → Shared → Prop} {Q : Value → Shared → Prop}, Q (.ref hp.objs.size) ⟨hp.push o, g, d, tk, os⟩ → wpAny (model prog w) A' (pyIter v) Q E ⟨hp, g, d, tk, os⟩ :=
      fun q => B.iter prog w _ _ ⟨hp, g, d, tk, os⟩ _ h1 q
    wp_walk using q1
    refine wpAny_stack_any fun st => wpAny_pure ?_
    split
    · rename_i c _ _ _ _ _
      cases (c == Value.type "enumerate")
      · wp_walk using q1
        exact ⟨_, rfl, h⟩
      · wp_walk using q1
        exact ⟨_, rfl, h⟩
    · wp_walk using q1
      exact ⟨_, rfl, h⟩
section
variable {prog : Program} {w : World} {A : Around} {E : Value → Shared → Prop} {s : Shared}
theorem k76_enum_begins {v : Value} {o : Obj} {H : Heap → Prop} {Q : Value → Shared → Prop} (B : Begins v o H) (h1 : H s.heap)
    (h : ∀ h', IsEnum h' (s.heap.objs.size + 1) s.heap.objs.size 0 .none → h'.get? s.heap.objs.size = some o → h'.objs.size = s.heap.objs.size + 2 →
      (∀ b o, s.heap.get? b = some o → h'.get? b = some o) → Q (.ref (s.heap.objs.size + 1)) { s with heap := h' }) :
    wpAny (model prog w) A (call (.type "enumerate") [v]) Q E s := by
  refine callType_new F.called_enumerate (by decide) (F.typeCall_enumerate_1 _) (F.newCall_enumerate_1 _) (fun obj => F.args_object_init_2 obj _) F.entry_enumerate_new
    (k76_enum_new B) ⟨h1, ?_⟩
  have hz : (s.heap.push o).objs.size = s.heap.objs.size + 1 := Heap.size_push ..
  show _ ∧ _
  rw [hz]
  have he : IsEnum ((s.heap.push o).push { cls := .type "enumerate", data := .fields #[.none, .bool false, .ref s.heap.objs.size, rawInt 0, .none, .none] }) (s.heap.objs.size + 1) s.heap.objs.size 0 .none := by
    have := Heap.get?_push_size (s.heap.push o) (o := { cls := .type "enumerate", data := .fields #[.none, .bool false, .ref s.heap.objs.size, rawInt 0, .none, .none] }) rfl
    rw [hz] at this; exact this
  refine ⟨⟨_, he, rfl⟩, h _ he (Heap.get?_push_of_some _ (Heap.get?_push_size _ B.free)) (by rw [Heap.size_push, hz]) fun b o x => Heap.get?_push_of_some _ (Heap.get?_push_of_some _ x)⟩
end
end PySem
namespace K76
open PySem PySem.Spec PyProof.Rows L2
/-! ### enumerate(a tuple) -/
def IteT (a : Addr) (ys : List V) : It :=
  ⟨fun i H => H a = some (.tup ys) ∧ i < ys.length, fun i H v H' => ∃ T x, v = .ref T ∧ H T = none ∧ H' = upd H T (.tup [.int (i : Nat), x]) ∧ ys[i]? = some x, fun i H => H a = some (.tup ys) ∧ i = ys.length⟩
theorem turn_enumT {P : Program} {w : World} {K : PySem.W.Frag} {elts : List Expr} {kk : Nat} {tpos : Pos} (a e it : Addr) (ys : List V) :
    Turn P w K (.Tuple elts kk tpos) (IteT a ys) [e, it] e (fun i h => (∃ old, IsEnum h e it ((i : Nat) : Int) old) ∧ h.IsTupleIter it a i ∧ e ≠ it ∧ e < h.objs.size ∧ it < h.objs.size ∧ e ≠ a) where
  mem := by simp
  obj := fun i h st b hb => by
    obtain ⟨⟨old, he⟩, ⟨o, ho, hc, hd⟩, _⟩ := st
    have e' : b = e ∨ b = it := by simpa using hb
    rcases e' with z | z
    · rw [z]; exact ⟨_, he, fun v q => nomatch q⟩
    · rw [z]; exact ⟨o, ho, fun v q => by rw [hd] at q; cases q⟩
  keep := fun i h h' st k => let ⟨⟨old, he⟩, hi, hne, _, _, ha⟩ := st; ⟨⟨old, k e (by simp) _ he⟩, hi.at fun o q => k it (by simp) o q, hne, Heap.lt_size (k e (by simp) _ he), (let ⟨o, ho, _⟩ := hi; Heap.lt_size (k it (by simp) o ho)), ha⟩
  item := by
    intro X hP hw hK hc i pins s σ H E I hf st hg
    subst hP hw hK
    obtain ⟨⟨old, he⟩, hit, hne, le, li, hea⟩ := st
    obtain ⟨ht, hi⟩ := hg
    obtain ⟨hz, its, rv, p⟩ := I.hok a _ ht
    have hl := rv.length
    have hai : a ≠ it := fun z => by
      have := (hf it (by simp)).1
      rw [← z, ht] at this
      cases this
    have hA : X.A.in1.handled = none := I.ok.hd hc
    have D := Draws.tuple (prog := X.prog) (w := X.w) (A := X.A.in1) hA it a hai its.toArray
    have G := GoesN.enumFrom (prog := X.prog) (w := X.w) (A := X.A) (elts := elts) (x1 := kk) (pos := tpos) 0 D e hne (by
      intro hm
      have e' : e = it ∨ e = a := by simpa using hm
      rcases e' with z | z
      · exact hne z
      · exact hea z) (by simp)
    have hn : i < its.toArray.size := by rw [List.size_toArray]; omega
    refine G.goes i s _ E hn ⟨⟨old, by rw [Int.zero_add]; exact he⟩, hit, (show s.heap.IsTuple a its.toArray from p)⟩ fun v h' tk Y st' hk htk => ?_
    obtain ⟨T, t, x, ev, hT, hx, hTt⟩ := Y
    rw [Int.zero_add] at hTt
    subst ev
    have hx2 : its[i]? = some x := by simpa using hx
    obtain ⟨y, hy, ry⟩ : ∃ y, ys[i]? = some y ∧ RelV y x := by
      have h1 : i < ys.length := hi
      obtain ⟨u, hu, ru⟩ := rv.get (List.getElem?_eq_getElem h1)
      rw [hx2] at hu
      cases hu
      exact ⟨_, List.getElem?_eq_getElem h1, ru⟩
    obtain ⟨⟨old', he'⟩, hit', _⟩ := st'
    have e1 : (0 : Int) + ((i + 1 : Nat) : Int) = ((i + 1 : Nat) : Int) := Int.zero_add _
    rw [e1] at he'
    have new : ObjOk X.prog X.w (upd H T (.tup [.int (i : Nat), y])) h' T (.tup [.int (i : Nat), y]) := ⟨by show 2 ≤ sizeLine; decide, [.int (i : Nat) t, x], .cons ⟨_, rfl⟩ (.cons ry .nil), hTt⟩
    have I1 : Inv X pins σ (upd H T (.tup [.int (i : Nat), y])) { s with heap := h', toks := tk } := I.turnedNew (ch := [e, it]) hk hf hT new
    refine ⟨.ref T, _, I1, rfl, ⟨T, y, rfl, I.hok.fresh hT, rfl, hy⟩, ⟨⟨_, he'⟩, hit', hne, Heap.lt_size he', (let ⟨o, ho, _⟩ := hit'; Heap.lt_size ho), hea⟩, fun b hb => ?_⟩
    have hb' : b < s.heap.objs.size := by
      have e' : b = e ∨ b = it := by simpa using hb
      rcases e' with z | z
      · rw [z]; exact le
      · rw [z]; exact li
    rw [upd_ne (Nat.ne_of_lt (Nat.lt_of_lt_of_le hb' hT))]
    exact (hf b hb).1
  done := by
    intro X hP hw hK hc i pins s σ H E I hf st hg
    subst hP hw hK
    obtain ⟨⟨old, he⟩, hit, hne, le, li, hea⟩ := st
    obtain ⟨ht, hi⟩ := hg
    obtain ⟨hz, its, rv, p⟩ := I.hok a _ ht
    have hl := rv.length
    have hai : a ≠ it := fun z => by
      have := (hf it (by simp)).1
      rw [← z, ht] at this
      cases this
    have hA : X.A.in1.handled = none := I.ok.hd hc
    have D := Draws.tuple (prog := X.prog) (w := X.w) (A := X.A.in1) hA it a hai its.toArray
    have G := GoesN.enumFrom (prog := X.prog) (w := X.w) (A := X.A) (elts := elts) (x1 := kk) (pos := tpos) 0 D e hne (by
      intro hm
      have e' : e = it ∨ e = a := by simpa using hm
      rcases e' with z | z
      · exact hne z
      · exact hea z) (by simp)
    have hn : i = its.toArray.size := by rw [List.size_toArray]; omega
    refine G.stops s (fun s1 => Inv X pins σ H s1) E (by rw [← hn]; exact ⟨⟨old, by rw [Int.zero_add]; exact he⟩, hit, (show s.heap.IsTuple a its.toArray from p)⟩) fun h' tk hk htk => ?_
    exact I.turnedL (t' := tk) hk hf
  self := fun A i s Q E st h => let ⟨⟨_, he⟩, _⟩ := st; wpAny_pyIter_enum he h
def iEnumT (ta : TA) : TI := fun σ H R => ta σ H fun vs H1 => ∃ a xs, vs = [.ref a] ∧ H1 a = some (.tup xs) ∧ R (IteT a xs) H1
theorem pi_enumT {X : Cx} {e : Expr} {ta : TA} {p pos tpos : Pos} {elts : List Expr} {kk : Nat} (hg : Gl X "enumerate") (hm : X.mg "enumerate" = none) (ha : PA X [e] ta) (hs : starEach [e] X.env = [(false, eval e X.env)] := by rfl) :
    PI X (.Tuple elts kk tpos) (.Call (.Name "enumerate" p) [e] [] pos) (iEnumT ta) := by
  refine ⟨fun pins s σ H R I h => ?_⟩
  refine Call_ (ld_blt I hg hm boot_enumerate (PyProof.Rows.callWith_type1 (thn (ha.run pos pins s σ H _ I h) fun us s1 ⟨vs, H1, I1, r1, q1⟩ => ?_) hs rfl))
  obtain ⟨a, xs, ex, hq, q⟩ := q1
  subst ex
  cases r1 with
  | cons r rr =>
    cases rr
    cases r
    obtain ⟨hz, its, rv, p'⟩ := I1.hok a _ hq
    refine k76_enum_begins (begins_tuple a its.toArray) (show s1.heap.IsTuple a its.toArray from p') fun h' he ho hsz hk => wpAny_pyIter_enum he ?_
    have I2 : Inv X pins σ H1 { s1 with heap := h' } := I1.kept (t' := s1.toks) hk
    have la : a < s1.heap.objs.size := I1.hok.lt hq
    refine ⟨s1.heap.objs.size + 1, [s1.heap.objs.size + 1, s1.heap.objs.size], _, _, H1, rfl, I2, turn_enumT a (s1.heap.objs.size + 1) s1.heap.objs.size xs, ⟨⟨.none, he⟩, ⟨_, ho, rfl, rfl⟩, Nat.succ_ne_self _, (by rw [hsz]; exact Nat.lt_succ_self _), (by rw [hsz]; exact Nat.lt_succ_of_lt (Nat.lt_succ_self _)), Nat.ne_of_gt (Nat.lt_succ_of_lt la)⟩, fun b hb => ?_, q⟩
    have e' : b = s1.heap.objs.size + 1 ∨ b = s1.heap.objs.size := by simpa using hb
    have hle : s1.heap.objs.size ≤ b := by
      rcases e' with z | z
      · rw [z]; exact Nat.le_add_right _ _
      · rw [z]; exact Nat.le_refl _
    exact I1.fpOk hle (I1.hok.fresh hle)
section
variable {X : Cx} {ρ : Env} {e e2 : Expr} {ds es : List D} {pos np tpos : Pos} {elts : List Expr} {kk : Nat}
@[reducible] def dEn {α : Type} (enc : α → D) (q : Nat × α) : D := .tup [.int (q.1 : Nat), enc q.2]
theorem i_enumT {α : Type} {xs : List α} {enc : α → D} (hm : X.mg "enumerate" = none) (h : DE X e ρ (.tup (xs.map enc))) (hg : Gl X "enumerate" := by rfl) (hs : starEach [e] X.env = [(false, eval e X.env)] := by rfl) : DI X (.Tuple elts kk tpos) (.Call (.Name "enumerate" np) [e] [] pos) ρ (((List.range xs.length).zip xs).map (dEn enc)) := fun σ Hb H E R q =>
  ofI (pi_enumT hg hm peA hs) (a_cons h a_nil hs σ Hb H E _ fun vs Hb2 H2 n r => by
    obtain ⟨v, rfl, r1⟩ := r.one
    obtain ⟨a, vs, rfl, hv, rs⟩ := r1.tup_at
    refine ⟨a, vs, rfl, n.i _ _ hv, q _ Hb2 H2 n fun i Hb3 H3 s1 s2 => ?_⟩
    have hl := rs.length
    rw [List.length_map] at hl
    have ha := s2 _ _ (s1 _ _ hv)
    refine ⟨fun hi hi2 => ⟨ha, ?_⟩, fun d hd => ?_⟩
    · simp only [List.length_map, List.length_zip, List.length_range, Nat.min_self] at hi hi2
      omega
    · rw [List.getElem?_map] at hd
      by_cases hi : i < xs.length
      · have e1 : ((List.range xs.length).zip xs)[i]? = some (i, xs[i]) := by
          rw [List.getElem?_zip_eq_some]
          exact ⟨List.getElem?_range hi, List.getElem?_eq_getElem hi⟩
        rw [e1] at hd
        cases hd
        refine ⟨⟨ha, by omega⟩, fun x H' hy => ?_⟩
        obtain ⟨T, y, rfl, hT, rfl, hy⟩ := hy
        have hT2 : Hb3 T = none := sm_none s2 hT
        obtain ⟨w, g1, g2⟩ := rs.get (show (xs.map enc)[i]? = some (enc xs[i]) by rw [List.getElem?_map, List.getElem?_eq_getElem hi]; rfl)
        rw [hy] at g1
        cases g1
        exact ⟨_, Nw.new s2 hT, .tup upd_same (.cons (.int _) (.cons ((g2.mono s1).mono (sm_new hT2)) .nil))⟩
      · rw [List.getElem?_eq_none (by simp; omega)] at hd
        cases hd)
@[reducible] def dZp {α β : Type} (enc : α → D) (enc1 : β → D) (q : α × β) : D := .tup [enc q.1, enc1 q.2]
theorem yl_zip {α β : Type} {xs : List α} {ys : List β} {enc : α → D} {enc1 : β → D} {K : PySem.W.Frag} {mg : Str → Option Value} {J : It} {Hb : Hp} {vs us : List V} (rs : Reps K mg Hb vs (xs.map enc)) (ru : Reps K mg Hb us (ys.map enc1))
    (go : ∀ i H, Same Hb H → i < xs.length → i < ys.length → J.go i H) (st : ∀ i H, Same Hb H → (xs.length ≤ i ∨ ys.length ≤ i) → i ≤ xs.length → i ≤ ys.length → J.stop i H)
    (yld : ∀ i H v H', Same Hb H → J.yld i H v H' → ∃ T x y, v = .ref T ∧ H T = none ∧ H' = upd H T (.tup [x, y]) ∧ vs[i]? = some x ∧ us[i]? = some y) : Yl K mg J Hb ((xs.zip ys).map (dZp enc enc1)) := fun i Hb3 H3 s1 s2 => by
  refine ⟨fun hi hi2 => st i H3 (s1.trans s2) ?_ ?_ ?_, fun d hd => ?_⟩
  · simp only [List.length_map, List.length_zip] at hi; omega
  · simp only [List.length_map, List.length_zip] at hi2; omega
  · simp only [List.length_map, List.length_zip] at hi2; omega
  · rw [List.getElem?_map] at hd
    by_cases hi : i < xs.length ∧ i < ys.length
    · have e1 : (xs.zip ys)[i]? = some (xs[i], ys[i]) := by
        rw [List.getElem?_zip_eq_some]
        exact ⟨List.getElem?_eq_getElem hi.1, List.getElem?_eq_getElem hi.2⟩
      rw [e1] at hd
      cases hd
      refine ⟨go i H3 (s1.trans s2) hi.1 hi.2, fun x H' hy => ?_⟩
      obtain ⟨T, y, z, rfl, hT, rfl, hy, hz⟩ := yld i H3 x H' (s1.trans s2) hy
      have hT2 : Hb3 T = none := sm_none s2 hT
      obtain ⟨w, g1, g2⟩ := rs.get (show (xs.map enc)[i]? = some (enc xs[i]) by rw [List.getElem?_map, List.getElem?_eq_getElem hi.1]; rfl)
      obtain ⟨w', g3, g4⟩ := ru.get (show (ys.map enc1)[i]? = some (enc1 ys[i]) by rw [List.getElem?_map, List.getElem?_eq_getElem hi.2]; rfl)
      rw [hy] at g1
      cases g1
      rw [hz] at g3
      cases g3
      exact ⟨_, Nw.new s2 hT, .tup upd_same (.cons ((g2.mono s1).mono (sm_new hT2)) (.cons ((g4.mono s1).mono (sm_new hT2)) .nil))⟩
    · rw [List.getElem?_eq_none (by rw [List.length_zip]; omega)] at hd
      cases hd
theorem i_zipTT {α β : Type} {xs : List α} {ys : List β} {enc : α → D} {enc1 : β → D} (hm : X.mg "zip" = none) (h : DE X e ρ (.tup (xs.map enc))) (h2 : DE X e2 ρ (.tup (ys.map enc1))) (hg : Gl X "zip" := by rfl) (hs : starEach [e, e2] X.env = (false, eval e X.env) :: starEach [e2] X.env := by rfl) (st : starEach [e2] X.env = (false, eval e2 X.env) :: starEach [] X.env := by rfl) (hpl : (backTo pos (starEach [e2] X.env)).any (·.1) = false := by rfl) :
    DI X (.Tuple elts kk tpos) (.Call (.Name "zip" np) [e, e2] [] pos) ρ ((xs.zip ys).map (dZp enc enc1)) := fun σ Hb H E R q =>
  ofI (RZ.pi_zipA hg hm peA hs hpl) (a_cons h (a_cons h2 a_nil st) hs σ Hb H E _ fun vs Hb2 H2 n r => by
    obtain ⟨v, u, rfl, r1, r2⟩ := r.two
    obtain ⟨a, vs, rfl, hv, rs⟩ := r1.tup_at
    obtain ⟨b, us, rfl, hu, ru⟩ := r2.tup_at
    have lv := rs.length
    have lu := ru.length
    rw [List.length_map] at lv lu
    refine ⟨a, b, vs, us, rfl, .inr ⟨SqT.of (n.i _ _ hv), SqT.of (n.i _ _ hu), q _ Hb2 H2 n (yl_zip rs ru (fun i H' s h1 h2 => ⟨vs, us, vs[i]'(by omega), us[i]'(by omega), SqT.of (s _ _ hv), SqT.of (s _ _ hu), List.getElem?_eq_getElem _, List.getElem?_eq_getElem _⟩) (fun i H' s h1 _ _ => ⟨vs, us, SqT.of (s _ _ hv), SqT.of (s _ _ hu), by omega⟩) (fun i H' v H'' s hy => ?_))⟩⟩
    obtain ⟨T, x, y, e1, e2, e3, e4, e5⟩ := hy
    exact ⟨T, x, y, e1, e2, e3, e4 vs (SqT.of (s _ _ hv)), e5 us (SqT.of (s _ _ hu))⟩)
theorem i_zipLL {α β : Type} {xs : List α} {ys : List β} {enc : α → D} {enc1 : β → D} (hm : X.mg "zip" = none) (h : DE X e ρ (.lst (xs.map enc))) (h2 : DE X e2 ρ (.lst (ys.map enc1))) (hg : Gl X "zip" := by rfl) (hs : starEach [e, e2] X.env = (false, eval e X.env) :: starEach [e2] X.env := by rfl) (st : starEach [e2] X.env = (false, eval e2 X.env) :: starEach [] X.env := by rfl) (hpl : (backTo pos (starEach [e2] X.env)).any (·.1) = false := by rfl) :
    DI X (.Tuple elts kk tpos) (.Call (.Name "zip" np) [e, e2] [] pos) ρ ((xs.zip ys).map (dZp enc enc1)) := fun σ Hb H E R q =>
  ofI (RZ.pi_zipA hg hm peA hs hpl) (a_cons h (a_cons h2 a_nil st) hs σ Hb H E _ fun vs Hb2 H2 n r => by
    obtain ⟨v, u, rfl, r1, r2⟩ := r.two
    obtain ⟨a, vs, rfl, hv, rs⟩ := r1.lst_inv
    obtain ⟨b, us, rfl, hu, ru⟩ := r2.lst_inv
    have lv := rs.length
    have lu := ru.length
    rw [List.length_map] at lv lu
    refine ⟨a, b, vs, us, rfl, .inl ⟨SqL.of (n.i _ _ hv), SqL.of (n.i _ _ hu), q _ Hb2 H2 n (yl_zip rs ru (fun i H' s h1 h2 => ⟨vs, us, vs[i]'(by omega), us[i]'(by omega), SqL.of (s _ _ hv), SqL.of (s _ _ hu), List.getElem?_eq_getElem _, List.getElem?_eq_getElem _⟩) (fun i H' s h1 _ _ => ⟨vs, us, SqL.of (s _ _ hv), SqL.of (s _ _ hu), by omega⟩) (fun i H' v H'' s hy => ?_))⟩⟩
    obtain ⟨T, x, y, e1, e2, e3, e4, e5⟩ := hy
    exact ⟨T, x, y, e1, e2, e3, e4 vs (SqL.of (s _ _ hv)), e5 us (SqL.of (s _ _ hu))⟩)
end
end K76
set_option maxRecDepth 100000
set_option maxHeartbeats 4000000
namespace K76
open PySem PySem.Spec PyProof.Rows L2
/-! ### expressions that change one's own -/
section
variable (X : Cx)
def XE (e : Expr) (ρ : Env) (P : Env → D → Prop) : Prop := ∀ Hb0 H0 σ Hb H, So X.K X.mg Hb0 H0 ρ σ Hb H → ∀ Q : VK, (∀ v d ρ' Hb2 H2, P ρ' d → So X.K X.mg Hb0 H0 ρ' σ Hb2 H2 → Same Hb Hb2 → Rep X.K X.mg Hb2 v d → Q v H2) → wpE X e σ H Q
def XT (e : Expr) (ρ : Env) (P : Env → Bool → Prop) : Prop := ∀ Hb0 H0 σ Hb H, So X.K X.mg Hb0 H0 ρ σ Hb H → ∀ Q : Bool → Hp → Prop, (∀ b ρ' Hb2 H2, P ρ' b → So X.K X.mg Hb0 H0 ρ' σ Hb2 H2 → Same Hb Hb2 → Q b H2) → wpT X e σ H Q
def XW (e : Expr) (ρ : Env) (P : Env → Bool → Prop) : Prop := ∀ Hb0 H0 σ Hb H, So X.K X.mg Hb0 H0 ρ σ Hb H → ∀ Q : Bool → Hp → Prop, (∀ b ρ' Hb2 H2, P ρ' b → So X.K X.mg Hb0 H0 ρ' σ Hb2 H2 → Same Hb Hb2 → Q b H2) → wpW X e σ H Q
def XA (es : List Expr) (ρ : Env) (P : Env → List D → Prop) : Prop := ∀ Hb0 H0 σ Hb H, So X.K X.mg Hb0 H0 ρ σ Hb H → ∀ Q : List V → Hp → Prop, (∀ vs ds ρ' Hb2 H2, P ρ' ds → So X.K X.mg Hb0 H0 ρ' σ Hb2 H2 → Same Hb Hb2 → Reps X.K X.mg Hb2 vs ds → Q vs H2) → wpA X es σ H Q
end
section
variable {X : Cx} {ρ : Env} {a b c e : Expr} {es : List Expr} {pos np : Pos} {x y z d : D} {ds : List D} {i j : Int} {P P' : Env → D → Prop} {PT' : Env → Bool → Prop} {PA' : Env → List D → Prop}
theorem x_pure (h : DE X e ρ d) (hP : P ρ d) : XE X e ρ P := fun Hb0 H0 σ Hb H s Q q => h σ Hb H s.en Q fun v Hb2 H2 n r => q v d ρ Hb2 H2 hP (s.mono n) n.b r
theorem xt_pure {p : Bool} (h : DT X e ρ p) (hP : PT' ρ p) : XT X e ρ PT' := fun Hb0 H0 σ Hb H s Q q => h σ Hb H s.en Q fun Hb2 H2 n => q p ρ Hb2 H2 hP (s.mono n) n.b
theorem xa_pure (h : DA X es ρ ds) (hP : PA' ρ ds) : XA X es ρ PA' := fun Hb0 H0 σ Hb H s Q q => h σ Hb H s.en Q fun v Hb2 H2 n r => q v ds ρ Hb2 H2 hP (s.mono n) n.b r
theorem x_imp (h : XE X e ρ P) (hP : ∀ ρ' d, P ρ' d → P' ρ' d) : XE X e ρ P' := fun Hb0 H0 σ Hb H s Q q => h Hb0 H0 σ Hb H s Q fun v d ρ' Hb2 H2 p => q v d ρ' Hb2 H2 (hP _ _ p)
theorem xa_nil (h : PA' ρ []) : XA X [] ρ PA' := xa_pure a_nil h
theorem xa_cons (h : XE X e ρ fun ρ1 d => XA X es ρ1 fun ρ2 ds => PA' ρ2 (d :: ds)) (hs : starEach (e :: es) X.env = (false, eval e X.env) :: starEach es X.env := by rfl) : XA X (e :: es) ρ PA' := fun Hb0 H0 σ Hb H s Q q =>
  ofA (pa_cons peE peA hs) (h Hb0 H0 σ Hb H s _ fun v d ρ1 Hb2 H2 p s2 n r => p Hb0 H0 σ Hb2 H2 s2 _ fun vs ds ρ2 Hb3 H3 p2 s3 n2 rs => q _ _ ρ2 Hb3 H3 p2 s3 (n.trans n2) (.cons (r.mono n2) rs))
theorem x_op {op : Operator} {r : R2} (ho : OpR X (binaryOp op) r) (h : XE X a ρ fun ρ1 x => XE X b ρ1 fun ρ2 y => ∃ z, OpD X.K X.mg r x y z ∧ P ρ2 z) : XE X (.BinOp a op b pos) ρ P := fun Hb0 H0 σ Hb H s Q q =>
  ofE (pe_op ho peE peE) (h Hb0 H0 σ Hb H s _ fun v x ρ1 Hb2 H2 p s2 n r1 => p Hb0 H0 σ Hb2 H2 s2 _ fun u y ρ2 Hb3 H3 p2 s3 n2 r2 => by
    obtain ⟨z, hz, p3⟩ := p2
    exact hz Hb3 H3 v u s3.en.s (r1.mono n2) r2 Q fun w Hb4 H4 n3 r3 => q w z ρ2 Hb4 H4 p3 (s3.mono n3) (n.trans (n2.trans n3.b)) r3)
theorem xt_cmp {op : CmpOp} {r : R2} (ho : OpR X (compareOp op) r) (h : XE X a ρ fun ρ1 x => XE X b ρ1 fun ρ2 y => ∃ z, OpD X.K X.mg r x y (.bl z) ∧ PT' ρ2 z) (hm : behindInMarks op b = false := by first | exact nomark _ | rfl) : XT X (.Compare a [op] [b] pos) ρ PT' := fun Hb0 H0 σ Hb H s Q q =>
  ofT (pt_cmpR ho peE peE hm) (h Hb0 H0 σ Hb H s _ fun v x ρ1 Hb2 H2 p s2 n r1 => p Hb0 H0 σ Hb2 H2 s2 _ fun u y ρ2 Hb3 H3 p2 s3 n2 r2 => by
    obtain ⟨z, hz, p3⟩ := p2
    exact hz Hb3 H3 v u s3.en.s (r1.mono n2) r2 _ fun w Hb4 H4 n3 r3 => ⟨z, r3.bl_inv, q z ρ2 Hb4 H4 p3 (s3.mono n3) (n.trans (n2.trans n3.b))⟩)
/-- + of ints, the left known -/
theorem x_addL (ha : DE X a ρ (.int i)) (h : XE X b ρ fun ρ2 y => ∃ j, y = .int j ∧ P ρ2 (.int (i + j))) : XE X (.BinOp a .Add b pos) ρ P :=
  x_op op_add (x_pure ha (x_imp h fun ρ' d h => by obtain ⟨j, rfl, hp⟩ := h; exact ⟨_, od_I0 (X := X), hp⟩))
theorem x_addR (h : XE X a ρ fun ρ2 y => ∃ i j, y = .int i ∧ DE X b ρ2 (.int j) ∧ P ρ2 (.int (i + j))) : XE X (.BinOp a .Add b pos) ρ P :=
  x_op op_add (x_imp h fun ρ' d h => by obtain ⟨i, j, rfl, hb, hp⟩ := h; exact x_pure hb ⟨_, od_I0 (X := X), hp⟩)
theorem xt_eqI (h : XE X a ρ fun ρ2 y => ∃ i j, y = .int i ∧ DE X b ρ2 (.int j) ∧ PT' ρ2 (decide (i = j))) : XT X (.Compare a [.Eq] [b] pos) ρ PT' :=
  xt_cmp op_eq (x_imp h fun ρ' d h => by obtain ⟨i, j, rfl, hb, hp⟩ := h; exact x_pure hb ⟨_, od_eqI, hp⟩)
theorem xt_lt (h : XE X a ρ fun ρ2 y => ∃ i j, y = .int i ∧ DE X b ρ2 (.int j) ∧ PT' ρ2 (decide (i < j))) : XT X (.Compare a [.Lt] [b] pos) ρ PT' :=
  xt_cmp op_lt (x_imp h fun ρ' d h => by obtain ⟨i, j, rfl, hb, hp⟩ := h; exact x_pure hb ⟨_, od_B0 (X := X), hp⟩)
theorem xw_t (h : XW X e ρ PT') : XT X e ρ PT' := fun Hb0 H0 σ Hb H s Q q => ofT (PW.pt peW) (h Hb0 H0 σ Hb H s Q q)
theorem xw_and1 (h : XT X a ρ PT') : XW X (.BoolOp .And [a] pos) ρ PT' := fun Hb0 H0 σ Hb H s Q q => ofW (pw_and1 peT) (h Hb0 H0 σ Hb H s Q q)
theorem xw_and {p : Bool} {rest : List Expr} (h : DT X a ρ p) (h2 : p = true → XW X (.BoolOp .And (b :: rest) pos) ρ PT') (h3 : p = false → PT' ρ false) : XW X (.BoolOp .And (a :: b :: rest) pos) ρ PT' := fun Hb0 H0 σ Hb H s Q q =>
  ofW (pw_and peT peW) (h σ Hb H s.en _ fun Hb2 H2 n => by
    cases p with
    | true => exact h2 rfl Hb0 H0 σ Hb2 H2 (s.mono n) Q fun b ρ' Hb3 H3 p3 s3 n3 => q b ρ' Hb3 H3 p3 s3 (n.b.trans n3)
    | false => exact q false ρ Hb2 H2 (h3 rfl) (s.mono n) n.b)
theorem x_if (hc : XT X c ρ fun ρ1 t => if t = true then XE X a ρ1 P else XE X b ρ1 P) : XE X (.IfExp c a b pos) ρ P := fun Hb0 H0 σ Hb H s Q q =>
  ofE (pe_ifExp peT peE peE) (hc Hb0 H0 σ Hb H s _ fun t ρ1 Hb2 H2 p s2 n => by
    cases t with
    | true => rw [if_pos rfl] at p; exact p Hb0 H0 σ Hb2 H2 s2 Q fun v d ρ' Hb3 H3 p3 s3 n3 => q v d ρ' Hb3 H3 p3 s3 (n.trans n3)
    | false => rw [if_neg Bool.false_ne_true] at p; exact p Hb0 H0 σ Hb2 H2 s2 Q fun v d ρ' Hb3 H3 p3 s3 n3 => q v d ρ' Hb3 H3 p3 s3 (n.trans n3))
theorem x_lst (h : XA X es ρ fun ρ1 ds => ds.length ≤ sizeLine ∧ P ρ1 (.lst ds)) : XE X (.List es pos) ρ P := fun Hb0 H0 σ Hb H s Q q =>
  ofE (pe_lst peA) (h Hb0 H0 σ Hb H s _ fun vs ds ρ1 Hb2 H2 p s2 n r => ⟨by rw [r.length]; exact p.1, fun l hl => by
    have nn : Nw Hb2 H2 (upd Hb2 l (.lst vs)) (upd H2 l (.lst vs)) := Nw.new s2.en.s hl
    exact q _ _ ρ1 _ _ p.2 (s2.mono nn) (n.trans nn.b) (.lst upd_same (r.mono nn.b))⟩)
theorem x_tup {k} (h : XA X es ρ fun ρ1 ds => ds.length ≤ sizeLine ∧ P ρ1 (.tup ds)) : XE X (.Tuple es k pos) ρ P := fun Hb0 H0 σ Hb H s Q q =>
  ofE (pe_tup peA) (h Hb0 H0 σ Hb H s _ fun vs ds ρ1 Hb2 H2 p s2 n r => ⟨by rw [r.length]; exact p.1, fun l hl => by
    have nn : Nw Hb2 H2 (upd Hb2 l (.tup vs)) (upd H2 l (.tup vs)) := Nw.new s2.en.s hl
    exact q _ _ ρ1 _ _ p.2 (s2.mono nn) (n.trans nn.b) (.tup upd_same (r.mono nn.b))⟩)
/-- e[i], i an expression that changes, e known -/
theorem x_ix (h : XE X a ρ fun ρ1 x => XE X b ρ1 fun ρ2 y => ∃ i ds z, y = .int i ∧ Sqd x ds ∧ L2.atI ds i = some z ∧ P ρ2 z) (hp : PlainIx b := by exact fun _ _ => rfl) : XE X (.Subscript a b pos) ρ P := fun Hb0 H0 σ Hb H s Q q =>
  ofE (pe_ix ix_seq peE peE hp) (h Hb0 H0 σ Hb H s _ fun v x ρ1 Hb2 H2 p s2 n r1 => p Hb0 H0 σ Hb2 H2 s2 _ fun u y ρ2 Hb3 H3 p2 s3 n2 r2 => by
    obtain ⟨i, ds, z, rfl, hs, hz, p3⟩ := p2
    exact od_ix (X := X) hs hz Hb3 H3 v u s3.en.s (r1.mono n2) r2 Q fun w Hb4 H4 n3 r3 => q w z ρ2 Hb4 H4 p3 (s3.mono n3) (n.trans (n2.trans n3.b)) r3)
/-! ### statements -/
variable {k : Out → Prop} {A B : List Stmt}
theorem xs_set (n : Nat) {x : Str} {pos' : Pos} (hN : X.N.Nodup) (h : XE X e ρ fun ρ1 d => k (.nx (ρ1.set n (some (.val d))))) (hi : X.N[n]? = some x := by rfl) (hx : Loc X.env.scope x := by first | exact Or.inl rfl | exact Or.inr rfl) (hs : swapsWith e (some (.Name x pos')) pos.line X.env = pure false := by rfl)
    (hf : X.fn x = true ∨ X.env.scope.names.lookup x = some .local := by first | exact .inl rfl | exact .inr rfl) : DS X (.Assign [.Name x pos'] e pos) ρ k := fun Hb0 H0 σ Hb H s D r =>
  ofS (ps_set hN hi hx peE hs hf) (h Hb0 H0 σ Hb H s _ fun v d ρ1 Hb2 H2 p s2 n2 rv => r _ p _ Hb2 H2 (s2.set_val rv))
theorem xs_ret (h : XE X e ρ fun ρ1 d => k (.rte d ρ1)) : DS X (.Return (some e) pos) ρ k := fun Hb0 H0 σ Hb H s D r =>
  ofS (ps_ret peE) (h Hb0 H0 σ Hb H s _ fun v d ρ1 Hb2 H2 p s2 n2 rv => r _ p v σ Hb2 H2 s2 rv)
theorem s_rete (h : DE X e ρ d) (hk : k (.rte d ρ)) : DS X (.Return (some e) pos) ρ k := xs_ret (x_pure h hk)
theorem xs_if (h : XT X c ρ fun ρ1 t => if t = true then DSs X A ρ1 k else DSs X B ρ1 k) : DS X (.If c A B pos) ρ k := fun Hb0 H0 σ Hb H s D r =>
  ofS (ps_if peT peSs peSs) (h Hb0 H0 σ Hb H s _ fun t ρ1 Hb2 H2 p s2 n => by
    cases t with
    | true => rw [if_pos rfl] at p; exact p Hb0 H0 σ Hb2 H2 s2 D r
    | false => rw [if_neg Bool.false_ne_true] at p; exact p Hb0 H0 σ Hb2 H2 s2 D r)
theorem setR_reps {K : PySem.W.Frag} {mg : Str → Option Value} {Hb0 H0 Hb H : Hp} : ∀ (is : List Nat) {vs : List V} {ds : List D} {ρ : Env} {σ : L2.St}, Reps K mg Hb vs ds → So K mg Hb0 H0 ρ σ Hb H → So K mg Hb0 H0 (setS ρ is (ds.map .val)) (setV σ is vs) Hb H
  | [], vs, ds, ρ, σ, r, s => by
    have e1 : setS ρ [] (ds.map .val) = ρ := by cases ds <;> rfl
    have e2 : setV σ [] vs = σ := by cases vs <;> rfl
    rw [e1, e2]; exact s
  | i :: is, _, _, ρ, σ, .nil, s => s
  | i :: is, _, _, ρ, σ, .cons h r, s => setR_reps is r (s.set_val h)
theorem xs_par3 (i j m : Nat) {x y w : Str} {px py pw pt : Pos} {kt k2 pt2} (hN : X.N.Nodup) (h : XA X [a, b, c] ρ fun ρ1 ds => ds.length = 3 ∧ k (.nx (setS ρ1 [i, j, m] (ds.map .val)))) (hi : X.N[i]? = some x := by rfl) (hj : X.N[j]? = some y := by rfl) (hm : X.N[m]? = some w := by rfl) (hij : i ≠ j := by decide) (him : i ≠ m := by decide) (hjm : j ≠ m := by decide)
    (hx : X.env.scope.names.lookup x = some .local := by rfl) (hy : X.env.scope.names.lookup y = some .local := by rfl) (hz : X.env.scope.names.lookup w = some .local := by rfl) (hw : swappedStores [.Tuple [.Name x px, .Name y py, .Name w pw] kt pt] (.Tuple [a, b, c] k2 pt2) X.env = pure (some [x, y, w]) := by rfl)
    (hs : swapsWithSole [.Tuple [.Name x px, .Name y py, .Name w pw] kt pt] (.Tuple [a, b, c] k2 pt2) pos.line X.env = pure false := by rfl) (hc : X.calm = true := by rfl) : DS X (.Assign [.Tuple [.Name x px, .Name y py, .Name w pw] kt pt] (.Tuple [a, b, c] k2 pt2) pos) ρ k := fun Hb0 H0 σ Hb H so D r =>
  ofS (ps_par3 hc hN hi hj hm hij him hjm hx hy hz peA hw hs) (h Hb0 H0 σ Hb H so _ fun vs ds ρ1 Hb2 H2 p s2 n rs => by
    have hlen : vs.length = 3 := by rw [rs.length]; exact p.1
    match vs, hlen, rs with
    | [v, u, t], _, rs => exact ⟨v, u, t, rfl, r _ p.2 _ Hb2 H2 (setR_reps [i, j, m] rs s2)⟩)
theorem xs_parN (is : List Nat) {tg : Expr} {k2 pt2} (h : XA X es ρ fun ρ1 ds => ds.length = is.length ∧ k (.nx (setS ρ1 is (ds.map .val)))) (hg : PG X tg (gPat X.K (.tp (is.map Pat.nm)))) (h100 : is.length ≤ sizeLine := by decide) (hs : swapsWithSole [tg] (.Tuple es k2 pt2) pos.line X.env = pure false := by rfl) (hw : swappedStores [tg] (.Tuple es k2 pt2) X.env = pure none := by rfl)
    (h1 : (assignEach [tg] X.env).map (·.2) = [assign tg X.env] := by rfl) : DS X (.Assign [tg] (.Tuple es k2 pt2) pos) ρ k := fun Hb0 H0 σ Hb H so D r =>
  ofS (ps_asg (pe_tup peA) hg hs hw h1) (h Hb0 H0 σ Hb H so _ fun vs ds ρ1 Hb2 H2 p s2 n rs => by
    have hl2 : vs.length = is.length := rs.length.trans p.1
    refine ⟨by rw [hl2]; exact h100, fun q hq => ⟨q, vs, rfl, SqT.of upd_same, by rw [hl2, List.length_map], gNames is vs σ _ _ hl2 ?_⟩⟩
    exact r _ p.2 _ Hb2 _ ((setR_reps is rs s2).mono (Nw.more s2.en.s hq)))
/-- a, b, c = x, y, [..]: the last a list of one's own -/
theorem xs_par3o (i j m : Nat) {x y w : Str} {px py pw pt : Pos} {kt k2 pt2} (hN : X.N.Nodup) (h : XE X a ρ fun ρ1 d1 => XE X b ρ1 fun ρ2 d2 => ∃ ds, DF X c ρ2 ds ∧ k (.nx (((ρ2.set i (some (.val d1))).set j (some (.val d2))).set m (some (.ml ds)))))
    (hi : X.N[i]? = some x := by rfl) (hj : X.N[j]? = some y := by rfl) (hm : X.N[m]? = some w := by rfl) (hij : i ≠ j := by decide) (him : i ≠ m := by decide) (hjm : j ≠ m := by decide)
    (hx : X.env.scope.names.lookup x = some .local := by rfl) (hy : X.env.scope.names.lookup y = some .local := by rfl) (hz : X.env.scope.names.lookup w = some .local := by rfl) (hw : swappedStores [.Tuple [.Name x px, .Name y py, .Name w pw] kt pt] (.Tuple [a, b, c] k2 pt2) X.env = pure (some [x, y, w]) := by rfl)
    (hs : swapsWithSole [.Tuple [.Name x px, .Name y py, .Name w pw] kt pt] (.Tuple [a, b, c] k2 pt2) pos.line X.env = pure false := by rfl) (hc : X.calm = true := by rfl)
    (h1 : starEach [a, b, c] X.env = (false, eval a X.env) :: starEach [b, c] X.env := by rfl) (h2 : starEach [b, c] X.env = (false, eval b X.env) :: starEach [c] X.env := by rfl) (h3 : starEach [c] X.env = (false, eval c X.env) :: starEach [] X.env := by rfl) : DS X (.Assign [.Tuple [.Name x px, .Name y py, .Name w pw] kt pt] (.Tuple [a, b, c] k2 pt2) pos) ρ k := fun Hb0 H0 σ Hb H so D r =>
  ofS (ps_par3 hc hN hi hj hm hij him hjm hx hy hz (pa_cons peE (pa_cons peE (pa_cons peE pa_nil h3) h2) h1) hw hs) (h Hb0 H0 σ Hb H so _ fun v d1 ρ1 Hb1 H1 p1 s1 n1 r1 => p1 Hb0 H0 σ Hb1 H1 s1 _ fun u d2 ρ2 Hb2 H2 p2 s2 n2 r2 => by
    obtain ⟨ds, p3, p4⟩ := p2
    refine p3 σ Hb2 H2 s2.en _ fun l vs Hb3 H3 n3 hl hb hv rs => ⟨v, u, .ref l, rfl, ?_⟩
    have s3 := (s2.set_val (i := i) (r1.mono n2)).set_val (i := j) r2
    exact r _ p4 _ Hb3 H3 (s3.own_new n3 (fun _ z => nomatch z) hl hb ⟨vs, hv, rs⟩))
end
end K76
set_option maxRecDepth 100000
set_option maxHeartbeats 4000000
namespace K76
open PySem PySem.Spec PyProof.Rows L2
/-! ### defs that are handed a list and change it -/
/-- a list of one's own -/
inductive OwnL : Sl → List D → (List D → Sl) → Prop
  | ml (ds : List D) : OwnL (.ml ds) ds .ml
  | pu (l : Addr) (ds : List D) : OwnL (.pu l ds) ds (.pu l)
section
variable {K : PySem.W.Frag} {mg : Str → Option Value} {ρ : Env} {σ : L2.St} {Hb0 H0 Hb H Hb2 H2 : Hp} {x : Sl} {mk : List D → Sl} {s s' : List D}
theorem OwnL.nv (o : OwnL x s mk) : ∀ d, x ≠ .val d := by cases o <;> intro d h <;> cases h
theorem OwnL.nv2 (o : OwnL x s mk) (t : List D) : ∀ d, mk t ≠ .val d := by cases o <;> intro d h <;> cases h
theorem OwnL.get (o : OwnL x s mk) {l : Addr} (h : Own K mg Hb H l x) : ∃ vs, H l = some (.lst vs) ∧ Reps K mg Hb vs s := by
  cases o with
  | ml => exact h
  | pu l' => exact h.2
theorem OwnL.put (o : OwnL x s mk) {l : Addr} {t : List D} {vs : List V} (h : Own K mg Hb H l x) (h1 : H2 l = some (.lst vs)) (h2 : Reps K mg Hb2 vs t) : Own K mg Hb2 H2 l (mk t) := by
  cases o with
  | ml => exact ⟨vs, h1, h2⟩
  | pu l' => exact ⟨h.1, vs, h1, h2⟩
/-- the callee has changed l -/
theorem So.called {i : Nat} {l : Addr} {ws' : List V} (h : So K mg Hb0 H0 ρ σ Hb H) (hi : ρ[i]? = some (some x)) (o : OwnL x s mk) (hl : σ[i]? = some (some (.ref l))) (n : Nw Hb (er H l) Hb2 (er H2 l)) (hb : Hb2 l = none) (h2 : H2 l = some (.lst ws')) (r : Reps K mg Hb2 ws' s') :
    So K mg Hb0 H0 (ρ.set i (some (mk s'))) σ Hb2 H2 := by
  obtain ⟨l', e1, e2, e3⟩ := h.en.own i x hi o.nv
  rw [hl] at e1
  cases e1
  obtain ⟨vs, hv, rv⟩ := o.get e3
  have nn : Nw Hb H Hb2 (upd H2 l (.lst vs)) := n.back hb e2 hv (fun _ z => nomatch z)
  have s1 := h.mono nn
  have e : upd (upd H2 l (.lst vs)) l (.lst ws') = H2 := by
    funext a
    by_cases e : a = l
    · subst e; rw [upd_same, h2]
    · rw [upd_ne e, upd_ne e]
  have := s1.chg (o := .lst ws') hi o.nv (o.nv2 s') hl (by rw [e]; exact o.put e3 h2 r)
  rwa [e] at this
end
/-- the def's promise: the first argument is a list, known to the caller alone -/
def spX (K : PySem.W.Frag) (mg : Str → Option Value) (Pre : List D → List D → Prop) (Post : List D → List D → List D → D → Prop) : Sp := fun vs H Q _ => ∃ l us Hb s ds ws, vs = .ref l :: us ∧ Gd Hb H ∧ Hb l = none ∧ H l = some (.lst ws) ∧ Reps K mg Hb ws s ∧ Reps K mg Hb us ds ∧ Pre ds s ∧
  ∀ v d s' ws' Hb2 H2, Post ds s s' d → Nw Hb (er H l) Hb2 (er H2 l) → Hb2 l = none → H2 l = some (.lst ws') → Reps K mg Hb2 ws' s' → Rep K mg Hb2 v d → Q v H2
structure KnX (P : Program) (w : World) (K : PySem.W.Frag) (mg : Str → Option Value) (base : Heap) (x : Str) (k : Nat) (Pre : List D → List D → Prop) (Post : List D → List D → List D → D → Prop) : Prop where
  ex : ∃ (f : Addr) (fd : FuncData) (ps : List Str) (vs : List Value), FnOk P w K mg base CX0 k f fd ps (spX K mg Pre Post) ∧ mg x = some (.ref f) ∧ PySem.W.keepIn K (.ref f) = true ∧ Binds K fd ps vs ∧ vs = []
def startX (N : List Str) (l : Addr) (s ds : List D) : Env := some (.pu l s) :: (ds.map (fun d => some (.val d)) ++ List.replicate (N.length - (ds.length + 1)) none)
def retX (Post : List D → D → Prop) (l : Addr) : Out → Prop
  | .rte d ρ => ∃ s', ρ[0]? = some (some (.pu l s')) ∧ Post s' d
  | _ => False
section
variable {P : Program} {w : World} {K : PySem.W.Frag} {mg : Str → Option Value} {base : Heap}
theorem so_startX {N : List Str} {l : Addr} {us : List V} {ws : List V} {s ds : List D} {Hb H : Hp} (hs : Gd Hb H) (hb : Hb l = none) (hl : H l = some (.lst ws)) (rw' : Reps K mg Hb ws s) (r : Reps K mg Hb us ds) :
    So K mg Hb (er H l) (startX N l s ds) (L2.start N (.ref l :: us)) Hb H := by
  have hlen := r.length
  have sp : ∀ {i : Nat} {x : Sl}, (startX N l s ds)[i]? = some (some x) → (i = 0 ∧ x = .pu l s) ∨ ∃ j d, i = j + 1 ∧ j < ds.length ∧ ds[j]? = some d ∧ x = .val d := fun {i x} h => by
    unfold startX at h
    cases i with
    | zero => simp at h; exact .inl ⟨rfl, h.symm⟩
    | succ j =>
      rw [List.getElem?_cons_succ] at h
      by_cases hi : j < ds.length
      · rw [List.getElem?_append_left (by simpa using hi), List.getElem?_map, List.getElem?_eq_getElem hi] at h
        cases h
        exact .inr ⟨j, ds[j], rfl, hi, List.getElem?_eq_getElem hi, rfl⟩
      · rw [List.getElem?_append_right (by simpa using hi)] at h
        have := List.mem_of_getElem? h
        rw [List.mem_replicate] at this
        cases this.2
  have st0 : (L2.start N (.ref l :: us))[0]? = some (some (.ref l)) := by unfold L2.start; simp
  refine ⟨⟨hs.s, hs.t, ?_, fun i d h => ?_, fun i x h hx => ?_, fun i j x y q hi hj hx hy e1 e2 => ?_⟩, Nw.erStart hs.s, fun i x q hi hx hq => ?_⟩
  · unfold L2.start startX
    simp only [List.length_append, List.length_map, List.length_replicate, List.length_cons]
    omega
  · rcases sp h with ⟨_, e⟩ | ⟨j, d', rfl, hj, e, e2⟩
    · cases e
    · cases e2
      obtain ⟨v, h3, h4⟩ := r.get e
      refine ⟨v, ?_, h4⟩
      unfold L2.start
      rw [List.getElem?_append_left (by simp; omega), List.getElem?_map, List.getElem?_cons_succ, h3]
      rfl
  · rcases sp h with ⟨rfl, rfl⟩ | ⟨j, d', _, _, _, e2⟩
    · exact ⟨l, st0, hb, rfl, ws, hl, rw'⟩
    · exact absurd e2 (hx d')
  · rcases sp hi with ⟨rfl, rfl⟩ | ⟨_, d', _, _, _, e3⟩
    · rcases sp hj with ⟨rfl, rfl⟩ | ⟨_, d', _, _, _, e3⟩
      · rfl
      · exact absurd e3 (hy d')
    · exact absurd e3 (hx d')
  · rcases sp hi with ⟨rfl, rfl⟩ | ⟨_, d', _, _, _, e3⟩
    · rw [st0] at hq; cases hq; exact er_at
    · exact absurd e3 (hx d')
theorem fn_bodyX {x qual : Str} {params : Arguments} {body : List Stmt} {scope : Scope} {dvs : List V} {kws : List (Str × V)} {f : Addr} {fd : FuncData} {N ps : List Str} {k : Nat} {Pre : List D → List D → Prop} {Post : List D → List D → List D → D → Prop} (F : FunD K x qual params body scope dvs kws f fd) (S : FnScope N ps scope) (len : ∀ ds s, Pre ds s → ds.length + 1 = ps.length)
    (hb : ∀ (cdv : Value) (A : Around) (outer : List PySem.Env) (s : Shared) (H : Hp) (E : XK), Room k (Cxf P w K mg base N qual scope f cdv A outer s H E).A → ∀ l ds t, Pre ds t → DSs (Cxf P w K mg base N qual scope f cdv A outer s H E) body (startX N l t ds) (retX (Post ds t) l)) :
    FnOk P w K mg base CX0 (k + 1) f fd ps (spX K mg Pre Post) := by
  refine F.ok S (fun vs H Q E h => ?_) (fun cdv A outer s H vs Q E hr h => ?_)
  · obtain ⟨l, us, Hb, t, ds, ws, rfl, _, _, _, _, r, hR, _⟩ := h
    rw [List.length_cons, r.length]
    exact len ds t hR
  · obtain ⟨l, us, Hb, t, ds, ws, rfl, hs, hbl, hl, rws, r, hR, q⟩ := h
    refine ⟨_, PSs.nox peSs, ?_⟩
    refine hb cdv A outer s H E hr l ds t hR Hb (er H l) (L2.start N (.ref l :: us)) Hb H (so_startX hs hbl hl rws r) _ fun o ho => ?_
    cases o with
    | rte d ρ =>
      obtain ⟨s', h1, h2⟩ := ho
      refine fun v σ Hb2 H2 so rv => ?_
      obtain ⟨l', e1, e2, e3, ws', e4, e5⟩ := so.en.own 0 _ h1 (fun _ z => nomatch z)
      subst e3
      exact q v d s' ws' Hb2 H2 h2 (so.nw.erase e2) e2 e4 e5 rv
    | _ => exact ho.elim
theorem knX_of {x qual : Str} {params : Arguments} {body : List Stmt} {scope : Scope} {kws : List (Str × V)} {f : Addr} {fd : FuncData} {N ps : List Str} {k : Nat} {Pre : List D → List D → Prop} {Post : List D → List D → List D → D → Prop} (F : FunD K x qual params body scope [] kws f fd) (gl : mg x = some (.ref f)) (S : FnScope N ps scope) (len : ∀ ds s, Pre ds s → ds.length + 1 = ps.length)
    (h : ∀ (kV doc pm : Value) (an : Option Addr) (cdv ct : Value) (us : List Value), us.length = ps.length → bindArgs (PySem.W.fnOf x qual params body scope .none kV doc pm an cdv ct) ⟨us, []⟩ = pure (ps.zip us))
    (hb : ∀ (cdv : Value) (A : Around) (outer : List PySem.Env) (s : Shared) (H : Hp) (E : XK), Room k (Cxf P w K mg base N qual scope f cdv A outer s H E).A → ∀ l ds t, Pre ds t → DSs (Cxf P w K mg base N qual scope f cdv A outer s H E) body (startX N l t ds) (retX (Post ds t) l)) :
    KnX P w K mg base x (k + 1) Pre Post := ⟨f, fd, ps, [], fn_bodyX F S len hb, gl, F.kp, F.bindsN h, rfl⟩
end
section
variable {X : Cx} {ρ : Env} {a b c e : Expr} {es : List Expr} {pos np : Pos} {x y z d : D} {ds : List D} {i j : Int} {PP : Env → D → Prop}
/-- the call; the list stands in the slot n -/
theorem x_call {x px : Str} {j k : Nat} {Pre : List D → List D → Prop} {Post : List D → List D → List D → D → Prop} {p0 : Pos} {sl : Sl} (n : Nat) (F : KnX X.prog X.w X.K X.mg X.base x j Pre Post) (hr : Room k X.A)
    (h : XA X es ρ fun ρ1 ds => ∃ sl1 s1 mk, ρ1[n]? = some (some sl1) ∧ OwnL sl1 s1 mk ∧ Pre ds s1 ∧ ∀ s' d, Post ds s1 s' d → PP (ρ1.set n (some (mk s'))) d) (hsl : ρ[n]? = some (some sl) := by rfl) (hnv : ∀ d, sl ≠ .val d := by intro d h; cases h) (hN : X.N[n]? = some px := by rfl) (hv : Vis X.env.scope px := by first | exact Or.inl rfl | exact Or.inr (Or.inl rfl) | exact Or.inr (Or.inr rfl)) (hk : j ≤ k := by decide) (hg : Gl X x := by rfl) (hx : X.xe = (fun _ _ => False) := by rfl)
    (hd : (px == ("__debug__" : Str)) = false := by decide) (hcd : (px == ("__classdict__" : Str)) = false := by decide) (hdb : (x == ("__debug__" : Str)) = false := by decide) (he : starEach (.Name px p0 :: es) X.env = (false, eval (.Name px p0) X.env) :: starEach es X.env := by rfl) (hpl : (backTo pos (starEach es X.env)).any (·.1) = false := by rfl) :
    XE X (.Call (.Name x np) (.Name px p0 :: es) [] pos) ρ PP := fun Hb0 H0 σ Hb H s Q q => by
  obtain ⟨f, fd, ps, vs, h1, h2, h3, h4, rfl⟩ := F.ex
  refine ofE (pe_call h1 (hr.mono hk) hg h2 h3 h4 .nil pass0 (pa_cons (pe_var hN hv hd hcd) peA he) hdb he hpl) ?_
  obtain ⟨l, e1, e2, e3⟩ := s.en.own n sl hsl hnv
  refine ⟨.ref l, e1, h Hb0 H0 σ Hb H s _ fun us ds ρ1 Hb2 H2 p s2 nb rs => ?_⟩
  obtain ⟨sl1, s1, mk, g1, g2, g3, g4⟩ := p
  obtain ⟨l', k1, k2, k3⟩ := s2.en.own n sl1 g1 g2.nv
  rw [e1] at k1
  cases k1
  obtain ⟨ws, k4, k5⟩ := g2.get k3
  exact ⟨l, us, Hb2, s1, ds, ws, by rw [List.append_nil], ⟨s2.en.s, s2.en.t⟩, k2, k4, k5, rs, g3, fun v d s' ws' Hb3 H3 post nn hb hl rws rv => q v d _ Hb3 H3 (g4 s' d post) (s2.called g1 g2 e1 nn hb hl rws) (nb.trans nn.b) rv⟩
/-- an item of one's own list -/
theorem d_ixW (n : Nat) {x : Str} {npos : Pos} {sl : Sl} {mk : List D → Sl} (o : OwnL sl ds mk) (hb : DE X b ρ (.int i)) (h : L2.atI ds i = some z) (hn : ρ[n]? = some (some sl) := by rfl) (hN : X.N[n]? = some x := by rfl) (hv : Vis X.env.scope x := by first | exact Or.inl rfl | exact Or.inr (Or.inl rfl) | exact Or.inr (Or.inr rfl)) (hp : PlainIx b := by exact fun _ _ => rfl)
    (hd : (x == ("__debug__" : Str)) = false := by decide) (hcd : (x == ("__classdict__" : Str)) = false := by decide) : DE X (.Subscript (.Name x npos) b pos) ρ z := fun σ Hb H E Q q =>
  ofE (pe_ix ix_list (pe_var hN hv hd hcd) peE hp) (by
    obtain ⟨l, h1, h2, h3⟩ := E.own n _ hn o.nv
    refine ⟨.ref l, h1, hb σ Hb H E _ fun u Hb2 H2 n2 r2 => ?_⟩
    cases r2.int_inv
    obtain ⟨vs, h4, h5⟩ := o.get (h3.mono n2)
    obtain ⟨w, q1, q2⟩ := h5.atI h
    exact ⟨l, vs, i, w, rfl, rfl, SqL.of h4, q1, q w Hb2 H2 n2 q2⟩)
/-- l[i] = e -/
theorem Reps.set' {K : PySem.W.Frag} {mg : Str → Option Value} {H : Hp} {v : V} {d : D} {vs : List V} {ds : List D} (i : Nat) (r : Reps K mg H vs ds) (h : Rep K mg H v d) : Reps K mg H (vs.set i v) (ds.set i d) := Reps.set h i r
theorem s_lputW {kk : Out → Prop} (n : Nat) {x : Str} {npos tpos : Pos} {sl : Sl} {mk : List D → Sl} {m : Nat} (o : OwnL sl ds mk) (hv' : DE X e ρ d) (hb : DE X b ρ (.int i)) (hi : ixN ds.length i = some m) (hk : kk (.nx (ρ.set n (some (mk (ds.set m d)))))) (hn : ρ[n]? = some (some sl) := by rfl) (hN : X.N[n]? = some x := by rfl) (hv : Vis X.env.scope x := by first | exact Or.inl rfl | exact Or.inr (Or.inl rfl) | exact Or.inr (Or.inr rfl))
    (hd : (x == ("__debug__" : Str)) = false := by decide) (hcd : (x == ("__classdict__" : Str)) = false := by decide) (hs : swapsWithSole [.Subscript (.Name x npos) b tpos] e pos.line X.env = pure false := by rfl) (hw : swappedStores [.Subscript (.Name x npos) b tpos] e X.env = pure none := by rfl)
    (h1 : (assignEach [.Subscript (.Name x npos) b tpos] X.env).map (·.2) = [assign (.Subscript (.Name x npos) b tpos) X.env] := by rfl)
    (ha : ∀ v, assign (.Subscript (.Name x npos) b tpos) X.env v = (do
      let ov ← holding [v] (eval (.Name x npos) X.env)
      let iv ← holding [v, ov] (eval b X.env)
      standAt tpos
      holding [v, ov, iv] (setItem ov iv v)
      release [v, ov, iv] []) := by intro _; rfl) : DS X (.Assign [.Subscript (.Name x npos) b tpos] e pos) ρ kk := fun Hb0 H0 σ Hb H s D r =>
  ofS (ps_asg peE (pg_sub (pe_var hN hv hd hcd) peE set_list ha) hs hw h1) (hv' σ Hb H s.en _ fun v Hb2 H2 n2 rv => by
    have s2 := s.mono n2
    obtain ⟨l, e1, e2, e3⟩ := s2.en.own n _ hn o.nv
    refine ⟨.ref l, e1, hb σ Hb2 H2 s2.en _ fun u Hb3 H3 n3 r3 => ?_⟩
    cases r3.int_inv
    have s3 := s2.mono n3
    obtain ⟨vs, h4, h5⟩ := o.get (e3.mono n3)
    refine ⟨l, vs, i, m, rfl, rfl, h4, by rw [h5.length]; exact hi, r _ hk σ Hb3 _ (s3.chg hn o.nv (o.nv2 _) e1 (o.put (e3.mono n3) upd_same (h5.set' m (rv.mono n3.b))))⟩)
end
end K76
set_option maxRecDepth 100000
set_option maxHeartbeats 4000000
namespace K76
open PySem PySem.Spec PyProof.Rows L2
/-! ### a comprehension whose element changes one's own list -/
section
variable {K : PySem.W.Frag} {mg : Str → Option Value} {ρ ρ' : Env} {σ σ' : L2.St} {Hb0 H0 Hb H Hb2 H2 : Hp}
open Classical in
/-- all but one's own -/
noncomputable def minus (ρ : Env) (σ : L2.St) (H : Hp) : Hp := fun a => if ∃ (i : Nat) (x : Sl), ρ[i]? = some (some x) ∧ (∀ d, x ≠ .val d) ∧ σ[i]? = some (some (.ref a)) then none else H a
theorem minus_own {i : Nat} {x : Sl} {a : Addr} (h1 : ρ[i]? = some (some x)) (h2 : ∀ d, x ≠ .val d) (h3 : σ[i]? = some (some (.ref a))) : minus ρ σ H a = none := if_pos ⟨i, x, h1, h2, h3⟩
theorem minus_not {a : Addr} (h : ¬ ∃ (i : Nat) (x : Sl), ρ[i]? = some (some x) ∧ (∀ d, x ≠ .val d) ∧ σ[i]? = some (some (.ref a))) : minus ρ σ H a = H a := if_neg h
theorem minus_some {a : Addr} {u : HO} (h : minus ρ σ H a = some u) : H a = some u := by
  unfold minus at h
  split at h
  · cases h
  · exact h
theorem minus_there {a : Addr} (h : minus ρ σ H a ≠ none) : H a ≠ none := by
  cases q : minus ρ σ H a with
  | none => exact absurd q h
  | some u => rw [minus_some q]; exact Option.some_ne_none _
theorem So.strong (s : So K mg Hb0 H0 ρ σ Hb H) : So K mg Hb (minus ρ σ H) ρ σ Hb H := by
  refine ⟨s.en, ⟨Same.refl _, s.en.s, ⟨fun a u h _ => minus_some h, fun a h => minus_there h⟩, fun _ _ => rfl, fun _ => s.en.t⟩, fun i x l h1 h2 h3 => minus_own h1 h2 h3⟩
theorem So.rejoin (s : So K mg Hb0 H0 ρ σ Hb H) (t : So K mg Hb (minus ρ σ H) ρ' σ' Hb2 H2) : So K mg Hb0 H0 ρ' σ' Hb2 H2 := by
  have key : ∀ a, H0 a ≠ none → minus ρ σ H a = H a := fun a ha => minus_not fun ⟨i, x, h1, h2, h3⟩ => ha (s.fr i x a h1 h2 h3)
  refine ⟨t.en, ⟨s.nw.b.trans t.nw.b, t.en.s, ⟨fun a u h nt => t.nw.g.s a u ?_ nt, fun a ha => t.nw.g.k a (by rw [key a ha]; exact s.nw.g.k a ha)⟩, fun a ha => ?_, fun _ => t.en.t⟩, fun i x l h1 h2 h3 => ?_⟩
  · rw [key a (by rw [h]; exact Option.some_ne_none _)]; exact s.nw.g.s a u h nt
  · have h1 : minus ρ σ H a ≠ none := by
      rw [key a ha]
      exact s.nw.g.k a ha
    rw [t.nw.f a h1, s.nw.f a ha]
  · have := t.fr i x l h1 h2 h3
    by_cases q : ∃ (j : Nat) (y : Sl), ρ[j]? = some (some y) ∧ (∀ d, y ≠ .val d) ∧ σ[j]? = some (some (.ref l))
    · obtain ⟨j, y, g1, g2, g3⟩ := q
      exact s.fr j y l g1 g2 g3
    · rw [minus_not q] at this
      exact s.nw.no this
theorem Own.sb {l : Addr} {x : Sl} (n : Same Hb Hb2) (h : Own K mg Hb H l x) : Own K mg Hb2 H l x := by
  cases x with
  | val d => exact h
  | ml ds => obtain ⟨vs, h1, h2⟩ := h; exact ⟨vs, h1, h2.mono n⟩
  | md ds => obtain ⟨vs, h1, h2⟩ := h; exact ⟨vs, h1, h2.mono n⟩
  | ins l' c fs => obtain ⟨e, C, dx, fvs, m, h1, h4⟩ := h; exact ⟨e, C, dx, fvs, m, h1, h4.mono n⟩
  | pu l' ds => obtain ⟨e, vs, h1, h2⟩ := h; exact ⟨e, vs, h1, h2.mono n⟩
/-- another look at the same things -/
theorem So.view {ρ1 : Env} {σ1 : L2.St} (s : So K mg Hb0 H0 ρ1 σ1 Hb H) (hl : σ.length = ρ.length) (h : ∀ (i : Nat) x, ρ[i]? = some (some x) → ρ1[i]? = some (some x) ∧ σ1[i]? = σ[i]?) : So K mg Hb0 H0 ρ σ Hb H := by
  refine ⟨⟨s.en.s, s.en.t, hl, fun i d hi => ?_, fun i x hi hx => ?_, fun i j x y l hi hj hx hy e1 e2 => ?_⟩, s.nw, fun i x l hi hx hs => ?_⟩
  · obtain ⟨h1, h2⟩ := h i _ hi; rw [← h2]; exact s.en.val i d h1
  · obtain ⟨h1, h2⟩ := h i _ hi; rw [← h2]; exact s.en.own i x h1 hx
  · obtain ⟨h1, h2⟩ := h i _ hi
    obtain ⟨h3, h4⟩ := h j _ hj
    exact s.en.apart i j x y l h1 h3 hx hy (by rw [h2]; exact e1) (by rw [h4]; exact e2)
  · obtain ⟨h1, h2⟩ := h i _ hi; exact s.fr i x l h1 hx (by rw [h2]; exact hs)
theorem So.wipe (s : So K mg Hb0 H0 ρ σ Hb H) (vs : List Nat) : So K mg Hb0 H0 (wipeR ρ vs) (L2.wipe σ vs) Hb H := by
  refine s.view (by rw [wipe_length, wipeR_length]; exact s.en.len) fun i x hi => ?_
  obtain ⟨h1, h2⟩ := wipeR_some hi
  exact ⟨h1, (wipe_out h2).symm⟩
/-- nothing of one's own is touched: the heap has grown alone -/
theorem So.putD {Dl : Addr} {o : HO} (s : So K mg Hb0 H0 ρ σ Hb H) (h0 : H0 Dl = none) (hb : Hb Dl = none) {ws : List V} (hd : H Dl = some (.lst ws)) (hn : ∀ (n : Nat) z, ρ[n]? = some (some z) → (∀ d, z ≠ .val d) → σ[n]? ≠ some (some (.ref Dl))) : So K mg Hb0 H0 ρ σ Hb (upd H Dl o) :=
  ⟨s.en.putD hb hd hn, s.nw.put h0 hb, s.fr⟩
end
section
variable {X : Cx} {ρ : Env} {tg iter elt : Expr} {pos : Pos}
theorem x_lc {α : Type} {xs : List α} {enc : α → D} {p : Pat} {scope : Scope} {PP : Env → D → Prop} {sl : Sl} {s0 : List D} {mk : List D → Sl} (n : Nat) (o : OwnL sl s0 mk) (I : Nat → List D → List D → Prop) (own : List (Str × Nat)) (hN : X.N.Nodup) (hi : DI X tg iter ρ (xs.map enc)) (ok : BlkOk X.N X.env.scope scope own)
    (hg : Blk X scope fun X' => PG X' tg (gPat X'.K p)) (hp : ∀ i ∈ p.slots, i ∈ own.map (·.2)) (h0 : I 0 s0 [])
    (body : ∀ (i : Nat) x t out, xs[i]? = some x → I i t out → ∃ ρ2, bindP p (enc x) (wipeR (ρ.set n (some (mk t))) (own.map (·.2))) = some ρ2 ∧ (Blk X scope fun X' => XE X' elt ρ2 fun ρ3 d => ∃ t', ρ3 = ρ2.set n (some (mk t')) ∧ I (i + 1) t' (out ++ [d])))
    (hend : ∀ t out, I xs.length t out → PP (ρ.set n (some (mk t))) (.lst out)) (hout : ∀ i t out, I i t out → out.length ≤ 1000000) (hn : ρ[n]? = some (some sl) := by rfl) (hw : wipeR ρ (own.map (·.2)) = ρ := by rfl) (hno : n ∉ own.map (·.2) := by decide)
    (hc : X.calm = true := by rfl) (hs : ∀ x, foldedSetIterable iter X.env x = pure x := by intro _; rfl) : XE X (.ListComp elt [⟨tg, iter, [], 0⟩] scope pos) ρ PP := fun Hb0 H0 σ Hb H S0 Q q => by
  have E := S0.en
  have hnl : n < ρ.length := (List.getElem?_eq_some_iff.mp hn).1
  refine ofE (pe_lc hc hN peI ok (g := gPat X.K p) (tt := uTs X scope []) (te := uE X scope elt) (fun s H C cl fp => hg s H C cl fp) (fun s H C cl fp => ⟨fun pins s1 σ H1 Q I h => h s H C cl fp pins s1 I⟩) (fun s H C cl fp => ⟨fun pins s1 σ H1 Q I h => h s H C cl fp pins s1 I⟩) hs) ?_
  refine hi σ Hb H E _ fun J Hb1 H1 n1 y => fun Dl hD => ?_
  have hD0 : Hb1 Dl = none := sm_none n1.i hD
  have S1 := S0.mono n1
  have hH0 : H0 Dl = none := Nw.no S1.nw hD
  have notD : ∀ t, ∀ (j : Nat) z, (ρ.set n (some (mk t)))[j]? = some (some z) → (∀ d, z ≠ .val d) → σ[j]? ≠ some (some (.ref Dl)) := fun t j z hj hz hs => by
    have : ∃ z', ρ[j]? = some (some z') ∧ ∀ d, z' ≠ .val d := by
      by_cases e : n = j
      · subst e; exact ⟨sl, hn, o.nv⟩
      · rw [List.getElem?_set_ne e] at hj; exact ⟨z, hj, hz⟩
    obtain ⟨z', g1, g2⟩ := this
    obtain ⟨l, k1, k2, k3⟩ := S1.en.own j z' g1 g2
    rw [k1] at hs
    cases hs
    exact k3.there hD
  have e00 : ρ.set n (some (mk s0)) = ρ := by
    have : mk s0 = sl := by cases o <;> rfl
    rw [this]
    refine List.ext_getElem? fun j => ?_
    by_cases e : n = j
    · subst e; rw [List.getElem?_set_self hnl, hn]
    · rw [List.getElem?_set_ne e]
  refine ⟨fun i m H2 => m = xs.length - i ∧ i ≤ xs.length ∧ ∃ Hb2 vs t out, I i t out ∧ So X.K X.mg Hb0 H0 (ρ.set n (some (mk t))) σ Hb2 H2 ∧ Same Hb1 Hb2 ∧ Hb2 Dl = none ∧ H2 Dl = some (.lst vs) ∧ Reps X.K X.mg Hb2 vs out,
    ⟨xs.length, by simp, Nat.zero_le _, Hb1, [], s0, [], h0, by rw [e00]; exact S1.mono (Nw.more S1.en.s hD), Same.refl _, hD0, upd_same, .nil⟩, ?_⟩
  rintro i m H2 ⟨rfl, hle, Hb2, vs, t, out, hI, S2, b2, hDb, hv, rs⟩
  obtain ⟨ys, yg⟩ := y i Hb2 H2 b2 S2.en.s
  rw [List.length_map] at ys
  by_cases hlt : i < xs.length
  · obtain ⟨yg1, yg2⟩ := yg (enc xs[i]) (by rw [List.getElem?_map, List.getElem?_eq_getElem hlt]; rfl)
    refine .inr ⟨yg1, fun H3 => ∃ Hb3 vs3 t3 out3, I (i + 1) t3 out3 ∧ So X.K X.mg Hb0 H0 (ρ.set n (some (mk t3))) σ Hb3 H3 ∧ Same Hb1 Hb3 ∧ Hb3 Dl = none ∧ H3 Dl = some (.lst vs3) ∧ Reps X.K X.mg Hb3 vs3 out3, fun H3 h3 => ⟨xs.length - (i + 1), by omega, rfl, hlt, h3⟩, fun x H3 hy => ?_⟩
    obtain ⟨Hb3, n3, rx⟩ := yg2 x H3 hy
    obtain ⟨ρ2, e1, e3⟩ := body i xs[i] t out (List.getElem?_eq_getElem hlt) hI
    have S3 := S2.mono n3
    have S3w := S3.wipe (own.map (·.2))
    obtain ⟨σ', E4, w4, o4, k4⟩ := gPat_ok p (enc xs[i]) _ ρ2 _ x e1 S3w.en rx
    have S4 : So X.K X.mg Hb0 H0 ρ2 σ' Hb3 H3 := by
      refine ⟨E4, S3w.nw, fun j z l hj hz hs => ?_⟩
      by_cases hm : j ∈ p.slots
      · obtain ⟨d, hd⟩ := bindP_val p _ _ ρ2 e1 j hm z hj
        exact absurd hd (hz d)
      · rw [bindP_out p _ _ ρ2 e1 j hm] at hj
        rw [(o4 j hm).1] at hs
        exact S3w.fr j z l hj hz hs
    have hl3 : H3 Dl = some (.lst vs) := n3.h _ _ hv
    have hb3 : Hb3 Dl = none := (n3.f Dl (by rw [hv]; exact Option.some_ne_none _)).trans hDb
    -- one's own in the block is one's own outside
    have own4 : ∀ (j : Nat) z, ρ2[j]? = some (some z) → (∀ d, z ≠ .val d) → (ρ.set n (some (mk t)))[j]? = some (some z) ∧ σ'[j]? = σ[j]? := fun j z hj hz => by
      by_cases hm : j ∈ p.slots
      · obtain ⟨d, hd⟩ := bindP_val p _ _ ρ2 e1 j hm z hj
        exact absurd hd (hz d)
      · rw [bindP_out p _ _ ρ2 e1 j hm] at hj
        obtain ⟨g1, g2⟩ := wipeR_some hj
        exact ⟨g1, by rw [(o4 j hm).1, wipe_out g2]⟩
    have hmin : minus ρ2 σ' H3 Dl = some (.lst vs) := by
      rw [minus_not, hl3]
      rintro ⟨j, z, hj, hz, hs⟩
      obtain ⟨g1, g2⟩ := own4 j z hj hz
      rw [g2] at hs
      exact notD t j z g1 hz hs
    refine k4 _ ⟨?_, fun s H' C cl fp pins s1 I1 => ?_⟩
    · rw [w4 _ hp, wipe_wipe]
    · refine ts_nil (X := X.blk s H' scope (compEnvC scope cl C X.env) fp) σ' Hb3 H3 E4 _ (fun Hb4 H4 n4 => ?_) pins s1 I1
      rw [if_pos rfl]
      have S5 := S4.mono n4
      have hmin5 : minus ρ2 σ' H4 Dl = some (.lst vs) := by
        have h4 : H4 Dl = some (.lst vs) := n4.h _ _ hl3
        rw [minus_not, h4]
        rintro ⟨j, z, hj, hz, hs⟩
        obtain ⟨g1, g2⟩ := own4 j z hj hz
        rw [g2] at hs
        exact notD t j z g1 hz hs
      have hb4 : Hb4 Dl = none := (n4.f Dl (by rw [hl3]; exact Option.some_ne_none _)).trans hb3
      refine fun s' H'' C' cl' fp' => e3 s' H'' C' cl' fp' Hb4 (minus ρ2 σ' H4) σ' Hb4 H4 S5.strong _ fun v d ρ3 Hb5 H5 pp S6 b5 r5 => ?_
      obtain ⟨t', rfl, hI'⟩ := pp
      have hl5 : H5 Dl = some (.lst vs) := S6.nw.h _ _ hmin5
      have hb5 : Hb5 Dl = none := (S6.nw.f Dl (by rw [hmin5]; exact Option.some_ne_none _)).trans hb4
      have S7 := S5.rejoin S6
      have hlen : vs.length ≤ 1000000 := by rw [rs.length]; exact hout i t out hI
      have hl2 : ρ2.length = ρ.length := by
        rw [bindP_len p _ _ ρ2 e1, wipeR_length, List.length_set]
      have S8 : So X.K X.mg Hb0 H0 (ρ.set n (some (mk t'))) σ Hb5 H5 := by
        refine S7.view (by rw [List.length_set]; exact E.len) fun j z hj => ?_
        by_cases e : n = j
        · subst e
          rw [List.getElem?_set_self hnl] at hj
          have hnp : n ∉ p.slots := fun hm => hno (hp n hm)
          refine ⟨by rw [List.getElem?_set_self (by omega)]; exact hj, ?_⟩
          rw [(o4 n hnp).1, wipe_out hno]
        · rw [List.getElem?_set_ne e] at hj
          rw [List.getElem?_set_ne e]
          have hjo : j ∉ own.map (·.2) := fun hm => by
            have := hw
            rw [← this] at hj
            exact (wipeR_some hj).2 hm
          have hjp : j ∉ p.slots := fun hm => hjo (hp j hm)
          refine ⟨?_, by rw [(o4 j hjp).1, wipe_out hjo]⟩
          rw [bindP_out p _ _ ρ2 e1 j hjp]
          have : ∀ (vs : List Nat) (ρ : Env), j ∉ vs → (wipeR ρ vs)[j]? = ρ[j]? := by
            intro vs
            induction vs with
            | nil => intro ρ _; rfl
            | cons v vs ih =>
              intro ρ hv
              show ((wipeR ρ vs).set v none)[j]? = _
              rw [List.getElem?_set_ne (fun e => hv (by rw [e]; exact List.mem_cons_self)), ih ρ (fun h => hv (List.mem_cons_of_mem _ h))]
          rw [this _ _ hjo, List.getElem?_set_ne e]
          exact hj
      refine ⟨vs, hl5, Nat.lt_of_le_of_lt hlen (by decide), Hb5, vs ++ [v], t', out ++ [d], hI', S8.putD hH0 hb5 hl5 (notD t'), b2.trans (n3.b.trans (n4.b.trans b5)), hb5, upd_same, ?_⟩
      exact (((rs.mono n3.b).mono n4.b).mono b5).append (.cons r5 .nil)
  · have : i = xs.length := by omega
    subst this
    refine .inl ⟨ys (Nat.le_refl _) (Nat.le_refl _), ?_⟩
    have sb : Same Hb2 (upd Hb2 Dl (.lst vs)) := sm_new hDb
    have S9 : So X.K X.mg Hb0 H0 (ρ.set n (some (mk t))) σ (upd Hb2 Dl (.lst vs)) H2 := by
      have hH : Same (upd Hb2 Dl (.lst vs)) H2 := fun a u ha => by
        by_cases e : a = Dl
        · subst e; rw [upd_same] at ha; cases ha; exact hv
        · rw [upd_ne e] at ha; exact S2.en.s a u ha
      refine ⟨⟨hH, S2.en.t.updB (S2.en.t.nt hv (fun _ z => nomatch z)) hDb, S2.en.len, fun j d hj => ?_, fun j z hj hz => ?_, S2.en.apart⟩, ⟨S2.nw.b.trans sb, hH, S2.nw.g, fun a ha => ?_, fun _ => S2.en.t.updB (S2.en.t.nt hv (fun _ z => nomatch z)) hDb⟩, S2.fr⟩
      · obtain ⟨v, g1, g2⟩ := S2.en.val j d hj; exact ⟨v, g1, g2.mono sb⟩
      · obtain ⟨l, g1, g2, g3⟩ := S2.en.own j z hj hz
        have ne : l ≠ Dl := fun e => notD t j z hj hz (by rw [g1, e])
        exact ⟨l, g1, by rw [upd_ne ne]; exact g2, g3.sb sb⟩
      · rw [upd_ne (fun e => ha (by rw [e]; exact hH0))]; exact S2.nw.f a ha
    exact q (.ref Dl) (.lst out) _ _ H2 (hend t out hI) S9 (n1.b.trans (b2.trans sb)) (.lst upd_same (rs.mono sb))
end
end K76
set_option maxRecDepth 100000
set_option maxHeartbeats 4000000
namespace K76
open PySem PySem.Spec PyProof.Rows L2
/-! ### instances -/
def putFD (f : Str) (v : D) : List (Str × D) → List (Str × D)
  | [] => [(f, v)]
  | (g, x) :: r => if g = f then (g, v) :: r else (g, x) :: putFD f v r
theorem RepF.put {K : PySem.W.Frag} {mg : Str → Option Value} {H : Hp} {f : Str} {v : V} {d : D} (h : Rep K mg H v d) : ∀ {vs : List (Str × V)} {ds : List (Str × D)}, RepF K mg H vs ds → RepF K mg H (putF f v vs) (putFD f d ds)
  | _, _, .nil => .cons h .nil
  | _, _, @RepF.cons _ _ _ g _ _ _ _ q r => by
    unfold putF putFD
    split
    · exact .cons h r
    · exact .cons q (RepF.put h r)
theorem RepF.length {K : PySem.W.Frag} {mg : Str → Option Value} {H : Hp} : ∀ {vs : List (Str × V)} {ds : List (Str × D)}, RepF K mg H vs ds → vs.length = ds.length
  | _, _, .nil => rfl
  | _, _, .cons _ r => congrArg Nat.succ (RepF.length r)
/-- __init__: the first argument is the instance that is being made -/
def spI (K : PySem.W.Frag) (mg : Str → Option Value) (c : Str) (R : List D → List (Str × D) → Prop) : Sp := fun vs H Q _ => ∃ l C dx us Hb ds fs, vs = .ref l :: us ∧ mg c = some (.ref C) ∧ Gd Hb H ∧ Hb l = none ∧ H l = some (.ins C dx []) ∧ Reps K mg Hb us ds ∧ R ds fs ∧
  ∀ C dx' fvs Hb2 H2, mg c = some (.ref C) → Nw Hb (er H l) Hb2 (er H2 l) → Hb2 l = none → H2 l = some (.ins C dx' fvs) → RepF K mg Hb2 fvs fs → Q .non H2
structure KnI (P : Program) (w : World) (K : PySem.W.Frag) (mg : Str → Option Value) (base : Heap) (c : Str) (k : Nat) (R : List D → List (Str × D) → Prop) : Prop where
  ex : ∃ (C f : Addr) (fd : FuncData) (ps : List Str) (vs : List Value), FnOk P w K mg base CX0 k f fd ps (spI K mg c R) ∧ mg c = some (.ref C) ∧ Mk K C f ∧ Binds K fd ps vs ∧ vs = []
def startI (N : List Str) (l : Addr) (c : Str) (fs : List (Str × D)) (ds : List D) : Env := some (.ins l c fs) :: (ds.map (fun d => some (.val d)) ++ List.replicate (N.length - (ds.length + 1)) none)
def retI (l : Addr) (c : Str) (fs : List (Str × D)) : Out → Prop
  | .nx ρ => ρ[0]? = some (some (.ins l c fs))
  | _ => False
section
variable {P : Program} {w : World} {K : PySem.W.Frag} {mg : Str → Option Value} {base : Heap}
theorem so_startI {N : List Str} {l C dx : Addr} {c : Str} {fvs : List (Str × V)} {fs : List (Str × D)} {us : List V} {ds : List D} {Hb H : Hp} (hs : Gd Hb H) (hb : Hb l = none) (hm : mg c = some (.ref C)) (hl : H l = some (.ins C dx fvs)) (rf : RepF K mg Hb fvs fs) (r : Reps K mg Hb us ds) :
    So K mg Hb (er H l) (startI N l c fs ds) (L2.start N (.ref l :: us)) Hb H := by
  have hlen := r.length
  have sp : ∀ {i : Nat} {x : Sl}, (startI N l c fs ds)[i]? = some (some x) → (i = 0 ∧ x = .ins l c fs) ∨ ∃ j d, i = j + 1 ∧ j < ds.length ∧ ds[j]? = some d ∧ x = .val d := fun {i x} h => by
    unfold startI at h
    cases i with
    | zero => simp at h; exact .inl ⟨rfl, h.symm⟩
    | succ j =>
      rw [List.getElem?_cons_succ] at h
      by_cases hi : j < ds.length
      · rw [List.getElem?_append_left (by simpa using hi), List.getElem?_map, List.getElem?_eq_getElem hi] at h
        cases h
        exact .inr ⟨j, ds[j], rfl, hi, List.getElem?_eq_getElem hi, rfl⟩
      · rw [List.getElem?_append_right (by simpa using hi)] at h
        have := List.mem_of_getElem? h
        rw [List.mem_replicate] at this
        cases this.2
  have st0 : (L2.start N (.ref l :: us))[0]? = some (some (.ref l)) := by unfold L2.start; simp
  refine ⟨⟨hs.s, hs.t, ?_, fun i d h => ?_, fun i x h hx => ?_, fun i j x y q hi hj hx hy e1 e2 => ?_⟩, Nw.erStart hs.s, fun i x q hi hx hq => ?_⟩
  · unfold L2.start startI
    simp only [List.length_append, List.length_map, List.length_replicate, List.length_cons]
    omega
  · rcases sp h with ⟨_, e⟩ | ⟨j, d', rfl, hj, e, e2⟩
    · cases e
    · cases e2
      obtain ⟨v, h3, h4⟩ := r.get e
      refine ⟨v, ?_, h4⟩
      unfold L2.start
      rw [List.getElem?_append_left (by simp; omega), List.getElem?_map, List.getElem?_cons_succ, h3]
      rfl
  · rcases sp h with ⟨rfl, rfl⟩ | ⟨j, d', _, _, _, e2⟩
    · exact ⟨l, st0, hb, rfl, C, dx, fvs, hm, hl, rf⟩
    · exact absurd e2 (hx d')
  · rcases sp hi with ⟨rfl, rfl⟩ | ⟨_, d', _, _, _, e3⟩
    · rcases sp hj with ⟨rfl, rfl⟩ | ⟨_, d', _, _, _, e3⟩
      · rfl
      · exact absurd e3 (hy d')
    · exact absurd e3 (hx d')
  · rcases sp hi with ⟨rfl, rfl⟩ | ⟨_, d', _, _, _, e3⟩
    · rw [st0] at hq; cases hq; exact er_at
    · exact absurd e3 (hx d')
/-- what the def leaves, seen from the caller -/
theorem So.left {l : Addr} {ρ : Env} {σ : L2.St} {Hb H Hb2 H2 : Hp} (so : So K mg Hb (er H l) ρ σ Hb2 H2) (h : Hb2 l = none) : Nw Hb (er H l) Hb2 (er H2 l) := so.nw.erase h
theorem fn_bodyI {x qual c : Str} {params : Arguments} {body : List Stmt} {scope : Scope} {dvs : List V} {kws : List (Str × V)} {f : Addr} {fd : FuncData} {N ps : List Str} {k : Nat} {R : List D → List (Str × D) → Prop} (F : FunD K x qual params body scope dvs kws f fd) (S : FnScope N ps scope) (len : ∀ ds s, R ds s → ds.length + 1 = ps.length)
    (hb : ∀ (cdv : Value) (A : Around) (outer : List PySem.Env) (s : Shared) (H : Hp) (E : XK), Room k (Cxf P w K mg base N qual scope f cdv A outer s H E).A → ∀ l ds fs, R ds fs → DSs (Cxf P w K mg base N qual scope f cdv A outer s H E) body (startI N l c [] ds) (retI l c fs)) :
    FnOk P w K mg base CX0 (k + 1) f fd ps (spI K mg c R) := by
  refine F.ok S (fun vs H Q E h => ?_) (fun cdv A outer s H vs Q E hr h => ?_)
  · obtain ⟨l, C, dx, us, Hb, ds, fs, rfl, _, _, _, _, r, hR, _⟩ := h
    rw [List.length_cons, r.length]
    exact len ds fs hR
  · obtain ⟨l, C, dx, us, Hb, ds, fs, rfl, hm, hs, hbl, hl, r, hR, q⟩ := h
    refine ⟨_, PSs.nox peSs, ?_⟩
    refine hb cdv A outer s H E hr l ds fs hR Hb (er H l) (L2.start N (.ref l :: us)) Hb H (so_startI hs hbl hm hl .nil r) _ fun o ho => ?_
    cases o with
    | nx ρ =>
      refine fun σ Hb2 H2 so => ?_
      obtain ⟨l', e1, e2, e3, C', dx', fvs, e4, e5, e6⟩ := so.en.own 0 _ ho (fun _ z => nomatch z)
      subst e3
      exact q C' dx' fvs Hb2 H2 e4 (so.left e2) e2 e5 e6
    | _ => exact ho.elim
theorem knI_of {x qual c : Str} {params : Arguments} {body : List Stmt} {scope : Scope} {kws : List (Str × V)} {C f : Addr} {fd : FuncData} {N ps : List Str} {k : Nat} {R : List D → List (Str × D) → Prop} (F : FunD K x qual params body scope [] kws f fd) (gl : mg c = some (.ref C)) (M : Mk K C f) (S : FnScope N ps scope) (len : ∀ ds s, R ds s → ds.length + 1 = ps.length)
    (h : ∀ (kV doc pm : Value) (an : Option Addr) (cdv ct : Value) (us : List Value), us.length = ps.length → bindArgs (PySem.W.fnOf x qual params body scope .none kV doc pm an cdv ct) ⟨us, []⟩ = pure (ps.zip us))
    (hb : ∀ (cdv : Value) (A : Around) (outer : List PySem.Env) (s : Shared) (H : Hp) (E : XK), Room k (Cxf P w K mg base N qual scope f cdv A outer s H E).A → ∀ l ds fs, R ds fs → DSs (Cxf P w K mg base N qual scope f cdv A outer s H E) body (startI N l c [] ds) (retI l c fs)) :
    KnI P w K mg base c (k + 1) R := ⟨C, f, fd, ps, [], fn_bodyI F S len hb, gl, M, F.bindsN h, rfl⟩
end
section
variable {X : Cx} {ρ : Env} {a b e : Expr} {es : List Expr} {pos np : Pos} {d : D} {ds : List D} {k : Out → Prop} {i : Int}
/-- C(e, ..) -/
theorem d_make {c : Str} {j m : Nat} {R : List D → List (Str × D) → Prop} {fs : List (Str × D)} (F : KnI X.prog X.w X.K X.mg X.base c j R) (hr : Room (m + 1) X.A) (ha : DA X (e :: es) ρ ds) (hR : R ds fs) (hk : j ≤ m := by decide) (hg : Gl X c := by rfl) (hx : X.xe = (fun _ _ => False) := by rfl)
    (hdb : (c == ("__debug__" : Str)) = false := by decide) (he : starEach (e :: es) X.env = (false, eval e X.env) :: starEach es X.env := by rfl) (hpl : (backTo pos (starEach es X.env)).any (·.1) = false := by rfl) : DE X (.Call (.Name c np) (e :: es) [] pos) ρ (.obj c fs) := fun σ Hb H E Q q => by
  obtain ⟨C, f, fd, ps, vs, h1, h2, h3, h4, rfl⟩ := F.ex
  refine ofE (pe_make h3 (h1.mono hk) hr hg h2 h4 .nil pass0 peA hdb he hpl) ?_
  refine ha σ Hb H E _ fun ws Hb2 H2 n rs l dx hl hdx hne => ?_
  have hbl := sm_none n.i hl
  have hbd := sm_none n.i hdx
  let Hm := upd (upd H2 dx (.own l)) l (.ins C dx [])
  have hsm : Same Hb2 Hm := (n.i.trans (sm_new hdx)).trans (sm_new (by rw [upd_ne (Ne.symm hne)]; exact hl))
  refine ⟨l, C, dx, ws, Hb2, ds, fs, by rw [List.append_nil], h2, ⟨hsm, ((n.t E.t).updH ((n.t E.t).ne hdx)).updH ((n.t E.t).ne hl)⟩, hbl, upd_same, rs, hR, fun C' dx' fvs Hb3 H3 hm nn hb3 hl3 rf => ⟨rfl, ?_⟩⟩
  have em : ∀ a, H2 a ≠ none → er Hm l a = H2 a := fun a ha => by
    have n1 : a ≠ l := fun e => ha (by rw [e]; exact hl)
    have n2 : a ≠ dx := fun e => ha (by rw [e]; exact hdx)
    rw [er_ne n1]; show upd _ _ _ a = _; rw [upd_ne n1, upd_ne n2]
  have ss : Gr H2 H3 := ⟨fun a u ha nt => by
    have h0 : H2 a ≠ none := by rw [ha]; exact Option.some_ne_none _
    exact (er_some (nn.g.s a u (by rw [em a h0]; exact ha) nt)).2, fun a ha => (er_there (nn.g.k a (by rw [em a ha]; exact ha))).2⟩
  have i3 : Same Hb3 H3 := fun a u ha => by
    have n1 : a ≠ l := ne_of_none ha hb3
    have := nn.i a u ha
    rw [er_ne n1] at this
    exact this
  refine q (.ref l) (upd Hb3 l (.ins C' dx' fvs)) H3 (n.trans ⟨nn.b.trans (sm_new hb3), fun a u ha => ?_, ss, fun a ha => ?_, fun t => ?_⟩) (.obj hm upd_same (rf.mono (sm_new hb3)))
  · by_cases e : a = l
    · subst e; rw [upd_same] at ha; cases ha; exact hl3
    · rw [upd_ne e] at ha; exact i3 a u ha
  · have n1 : a ≠ l := fun e => ha (by rw [e]; exact hl)
    have n2 : a ≠ dx := fun e => ha (by rw [e]; exact hdx)
    rw [upd_ne n1]
    exact nn.f a (by rw [em a ha]; exact ha)
  · exact (nn.t (t.cg (em _ (fun e => t.ne e rfl)))).unEr.updB (t.ne hl) hb3
/-- self.f = e -/
theorem s_fldI (n : Nat) {x c f : Str} {l : Addr} {fs : List (Str × D)} {npos apos : Pos} (h : DE X e ρ d) (hc : ClF X c f) (hk : k (.nx (ρ.set n (some (.ins l c (putFD f d fs)))))) (hn : ρ[n]? = some (some (.ins l c fs)) := by rfl) (hN : X.N[n]? = some x := by rfl) (hv : Vis X.env.scope x := by first | exact Or.inl rfl | exact Or.inr (Or.inl rfl) | exact Or.inr (Or.inr rfl)) (hf : fs.length < 1000 := by first | decide | exact Nat.le_of_ble_eq_true rfl)
    (hd : (x == ("__debug__" : Str)) = false := by decide) (hcd : (x == ("__classdict__" : Str)) = false := by decide) (hs : swapsWith e (some (.Attribute (.Name x npos) f apos)) pos.line X.env = pure false := by rfl) : DS X (.Assign [.Attribute (.Name x npos) f apos] e pos) ρ k := fun Hb0 H0 σ Hb H s D r =>
  ofS (ps_fld (pe_var hN hv hd hcd) peE hs) (h σ Hb H s.en _ fun v Hb2 H2 n2 rv => by
    have s2 := s.mono n2
    obtain ⟨l', e1, e2, e3, C, dx, fvs, e4, e5, e6⟩ := s2.en.own n _ hn (fun _ z => nomatch z)
    subst e3
    exact ⟨.ref l', e1, l', C, dx, fvs, rfl, e5, (hc.ok C e4).1, (hc.ok C e4).2, by rw [e6.length]; exact hf, r _ hk σ Hb2 _ (s2.chg hn (fun _ z => nomatch z) (fun _ z => nomatch z) e1 ⟨rfl, C, dx, _, e4, upd_same, e6.put rv⟩)⟩)
/-- a field of the instance that is being made -/
theorem d_fldI (n : Nat) {x c f : Str} {l : Addr} {fs : List (Str × D)} {npos : Pos} (hc : ClF X c f) (hl : fs.lookup f = some d := by rfl) (hn : ρ[n]? = some (some (.ins l c fs)) := by rfl) (hN : X.N[n]? = some x := by rfl) (hv : Vis X.env.scope x := by first | exact Or.inl rfl | exact Or.inr (Or.inl rfl) | exact Or.inr (Or.inr rfl))
    (hd : (x == ("__debug__" : Str)) = false := by decide) (hcd : (x == ("__classdict__" : Str)) = false := by decide) (hb : attributeBase (.Name x npos) f X.env (eval (.Name x npos) X.env) = eval (.Name x npos) X.env := by rfl) : DE X (.Attribute (.Name x npos) f pos) ρ d := fun σ Hb H E Q q =>
  ofE (pe_fld (pe_var hN hv hd hcd) hb) (by
    obtain ⟨l', e1, e2, e3, C, dx, fvs, e4, e5, e6⟩ := E.own n _ hn (fun _ z => nomatch z)
    subst e3
    obtain ⟨w, h1, h2⟩ := e6.lookup hl
    exact ⟨.ref l', e1, l', C, dx, fvs, w, rfl, e5, (hc.ok C e4).1, (hc.ok C e4).2, h1, q w Hb H (Nw.refl E.s) h2⟩)
/-! ### new lists handed back -/
theorem s_retf (h : DF X e ρ ds) (hk : k (.rtf ds)) : DS X (.Return (some e) pos) ρ k := fun Hb0 H0 σ Hb H s D r => ofS (ps_ret peE) (h σ Hb H s.en _ fun l vs Hb2 H2 n hl hb hv rv => r _ hk l vs Hb2 H2 (s.nw.trans n) (Nw.no s.nw hl) hb hv rv)
/-! ### one's own list: its length, a slice -/
theorem d_lenW (n : Nat) {x : Str} {npos : Pos} {sl : Sl} {mk : List D → Sl} (hm : X.mg "len" = none) (o : OwnL sl ds mk) (hn : ρ[n]? = some (some sl) := by rfl) (hN : X.N[n]? = some x := by rfl) (hv : Vis X.env.scope x := by first | exact Or.inl rfl | exact Or.inr (Or.inl rfl) | exact Or.inr (Or.inr rfl)) (hg : Gl X "len" := by rfl)
    (hd : (x == ("__debug__" : Str)) = false := by decide) (hcd : (x == ("__classdict__" : Str)) = false := by decide) (st : starEach [.Name x npos] X.env = (false, eval (.Name x npos) X.env) :: starEach [] X.env := by rfl) : DE X (.Call (.Name "len" np) [.Name x npos] [] pos) ρ (.int (ds.length : Int)) := fun σ Hb H E Q q =>
  ofE (pe_callB call_len_seq hg hm PySem.boot_len (pa_cons (pe_var hN hv hd hcd) pa_nil st) (by decide) (by decide) st (by rfl)) (by
    obtain ⟨l, e1, e2, e3⟩ := E.own n _ hn o.nv
    obtain ⟨vs, e4, e5⟩ := o.get e3
    exact ⟨.ref l, e1, l, vs, rfl, .inl (SqL.of e4), by rw [e5.length]; exact q _ Hb H (Nw.refl E.s) (.int _)⟩)
theorem f_sliceW (n : Nat) {x : Str} {npos : Pos} {sl : Sl} {mk : List D → Sl} {lo hi : Option Expr} {l u : Option Int} {p2 : Pos} (o : OwnL sl ds mk) (hl : DO X lo ρ l) (hu : DO X hi ρ u) (hn : ρ[n]? = some (some sl) := by rfl) (hN : X.N[n]? = some x := by rfl) (hv : Vis X.env.scope x := by first | exact Or.inl rfl | exact Or.inr (Or.inl rfl) | exact Or.inr (Or.inr rfl))
    (hd : (x == ("__debug__" : Str)) = false := by decide) (hcd : (x == ("__classdict__" : Str)) = false := by decide) : DF X (.Subscript (.Name x npos) (.Slice lo hi none p2) pos) ρ (cutL ds l u) := fun σ Hb H E Q q =>
  ofE (pe_slice sl_list (pe_var hN hv hd hcd) peO peO) (by
    obtain ⟨a, e1, e2, e3⟩ := E.own n _ hn o.nv
    refine ⟨.ref a, e1, wpO_of hl E fun Hb3 H3 n2 => wpO_of hu (E.mono n2) fun Hb4 H4 n3 => ?_⟩
    have nn := n2.trans n3
    obtain ⟨vs, e4, e5⟩ := o.get (e3.mono nn)
    exact ⟨a, vs, rfl, SqL.of e4, fun p hp => q p _ Hb4 _ (nn.trans (Nw.more nn.i hp)) (Nw.no nn hp) (sm_none nn.i hp) upd_same (e5.cut l u)⟩)
end
end K76
set_option maxRecDepth 100000
set_option maxHeartbeats 4000000
namespace K76
open PySem PySem.Spec PyProof.Rows L2
/-! ### zip(a tuple, a list) -/
def IzTL (a b : Addr) (xs ys : List V) : It :=
  ⟨fun i H => H a = some (.tup xs) ∧ H b = some (.lst ys) ∧ i < xs.length ∧ i < ys.length, fun i H v H' => ∃ T x y, v = .ref T ∧ H T = none ∧ H' = upd H T (.tup [x, y]) ∧ xs[i]? = some x ∧ ys[i]? = some y,
    fun i H => H a = some (.tup xs) ∧ H b = some (.lst ys) ∧ i = min xs.length ys.length⟩
def StTL (a b z TI TO i1 i2 : Addr) (i : Nat) (h : Heap) : Prop := IsZip h z TI TO .none ∧ IsTupOf2 h TI (.ref i1) (.ref i2) ∧ (∃ a1 a2, IsTupOf2 h TO a1 a2) ∧ h.IsTupleIter i1 a i ∧ h.IsListIter i2 b i
theorem turn_zipTL {P : Program} {w : World} {K : PySem.W.Frag} {elts : List Expr} {kk : Nat} {tpos : Pos} (a b z TI TO i1 i2 : Addr) (xs ys : List V) (S : ZipSep2 z TI TO i1 i2 [i1, a] [i2, b]) :
    Turn P w K (.Tuple elts kk tpos) (IzTL a b xs ys) [z, TI, TO, i1, i2] z (StTL a b z TI TO i1 i2) where
  mem := by simp
  obj := fun i h st c hc => by
    obtain ⟨hz, hTI, ⟨x, y, hTO⟩, ⟨o1, e1, _, d1⟩, ⟨o2, e2, _, d2⟩⟩ := st
    have e' : c = z ∨ c = TI ∨ c = TO ∨ c = i1 ∨ c = i2 := by simpa using hc
    rcases e' with q | q | q | q | q
    · rw [q]; exact ⟨_, hz, fun v q => nomatch q⟩
    · rw [q]; exact ⟨_, hTI, fun v q => nomatch q⟩
    · rw [q]; exact ⟨_, hTO, fun v q => nomatch q⟩
    · rw [q]; exact ⟨o1, e1, fun v q => by rw [d1] at q; cases q⟩
    · rw [q]; exact ⟨o2, e2, fun v q => by rw [d2] at q; cases q⟩
  keep := fun i h h' st k => by
    obtain ⟨hz, hTI, ⟨x, y, hTO⟩, h1, h2⟩ := st
    exact ⟨k z (by simp) _ hz, k TI (by simp) _ hTI, ⟨x, y, k TO (by simp) _ hTO⟩, h1.at fun o q => k i1 (by simp) o q, h2.at fun o q => k i2 (by simp) o q⟩
  item := by
    intro X hP hw hK hc i pins s σ H E I hf st hg
    subst hP hw hK
    obtain ⟨ht, hl, hi1, hi2⟩ := hg
    obtain ⟨hz1, its, rv, p1⟩ := I.hok a _ ht
    obtain ⟨its2, n2, rv2, p2, hz2⟩ := I.lst hl
    have l1 := rv.length
    have l2 := rv2.length
    have hA : X.A.in1.handled = none := I.ok.hd hc
    have na : a ≠ i1 := fun q => by have := (hf i1 (by simp)).1; rw [← q, ht] at this; cases this
    have nb : b ≠ i2 := fun q => by have := (hf i2 (by simp)).1; rw [← q, hl] at this; cases this
    have D1 := Draws.tuple (prog := X.prog) (w := X.w) (A := X.A.in1) hA i1 a na its.toArray
    have D2 := Draws.list (prog := X.prog) (w := X.w) (A := X.A.in1) hA i2 b nb its2.toArray
    have G := GoesN.zip2 (prog := X.prog) (w := X.w) (A := X.A) (elts := elts) (x1 := kk) (pos := tpos) S D1 D2
    have hn : i < min its.toArray.size its2.toArray.size := by rw [List.size_toArray, List.size_toArray]; omega
    have q1 : s.heap.IsTuple a its.toArray := p1
    have q2 : s.heap.IsList b its2.toArray := ⟨_, p2, rfl, _, rfl⟩
    have hlt : ∀ c ∈ [z, TI, TO, i1, i2], c < s.heap.objs.size := fun c hc => by
      obtain ⟨hz, hTI, ⟨x, y, hTO⟩, ⟨o1, e1, _, d1⟩, ⟨o2, e2, _, d2⟩⟩ := st
      have e' : c = z ∨ c = TI ∨ c = TO ∨ c = i1 ∨ c = i2 := by simpa using hc
      rcases e' with q | q | q | q | q
      · rw [q]; exact Heap.lt_size hz
      · rw [q]; exact Heap.lt_size hTI
      · rw [q]; exact Heap.lt_size hTO
      · rw [q]; exact Heap.lt_size e1
      · rw [q]; exact Heap.lt_size e2
    refine G.goes i s _ E hn ⟨st.1, st.2.1, st.2.2.1, ⟨st.2.2.2.1, q1⟩, ⟨st.2.2.2.2, q2⟩⟩ fun v h' tk Y st' hk htk => ?_
    obtain ⟨T, x, y, ev, hT, hx, hy, hTt⟩ := Y
    subst ev
    have hx2 : its[i]? = some x := by simpa using hx
    have hy2 : its2[i]? = some y := by simpa using hy
    obtain ⟨x', hx', rx⟩ : ∃ y, xs[i]? = some y ∧ RelV y x := by
      obtain ⟨u, hu, ru⟩ := rv.get (List.getElem?_eq_getElem hi1)
      rw [hx2] at hu
      cases hu
      exact ⟨_, List.getElem?_eq_getElem hi1, ru⟩
    obtain ⟨y', hy', ry⟩ : ∃ z, ys[i]? = some z ∧ RelV z y := by
      obtain ⟨u, hu, ru⟩ := rv2.get (List.getElem?_eq_getElem hi2)
      rw [hy2] at hu
      cases hu
      exact ⟨_, List.getElem?_eq_getElem hi2, ru⟩
    have new : ObjOk X.prog X.w (upd H T (.tup [x', y'])) h' T (.tup [x', y']) := ⟨by show 2 ≤ sizeLine; decide, [x, y], .cons rx (.cons ry .nil), hTt⟩
    have I1 : Inv X pins σ (upd H T (.tup [x', y'])) { s with heap := h', toks := tk } := I.turnedNew (ch := [z, TI, TO, i1, i2]) (fun c o hb q => hk c o (fun hm => hb (by
      have e' : c = z ∨ c = TO ∨ c = i1 ∨ c = i2 := by simpa using hm
      rcases e' with q | q | q | q <;> simp [q])) q) hf hT new
    obtain ⟨g1, g2, g3, ⟨g4, _⟩, ⟨g5, _⟩⟩ := st'
    refine ⟨.ref T, _, I1, rfl, ⟨T, x', y', rfl, I.hok.fresh hT, rfl, hx', hy'⟩, ⟨g1, g2, g3, g4, g5⟩, fun c hc => ?_⟩
    rw [upd_ne (Nat.ne_of_lt (Nat.lt_of_lt_of_le (hlt c hc) hT))]
    exact (hf c hc).1
  done := by
    intro X hP hw hK hc i pins s σ H E I hf st hg
    subst hP hw hK
    obtain ⟨ht, hl, hi⟩ := hg
    obtain ⟨hz1, its, rv, p1⟩ := I.hok a _ ht
    obtain ⟨its2, n2, rv2, p2, hz2⟩ := I.lst hl
    have l1 := rv.length
    have l2 := rv2.length
    have hA : X.A.in1.handled = none := I.ok.hd hc
    have na : a ≠ i1 := fun q => by have := (hf i1 (by simp)).1; rw [← q, ht] at this; cases this
    have nb : b ≠ i2 := fun q => by have := (hf i2 (by simp)).1; rw [← q, hl] at this; cases this
    have D1 := Draws.tuple (prog := X.prog) (w := X.w) (A := X.A.in1) hA i1 a na its.toArray
    have D2 := Draws.list (prog := X.prog) (w := X.w) (A := X.A.in1) hA i2 b nb its2.toArray
    have G := GoesN.zip2 (prog := X.prog) (w := X.w) (A := X.A) (elts := elts) (x1 := kk) (pos := tpos) S D1 D2
    have hn : i = min its.toArray.size its2.toArray.size := by rw [List.size_toArray, List.size_toArray]; omega
    have q1 : s.heap.IsTuple a its.toArray := p1
    have q2 : s.heap.IsList b its2.toArray := ⟨_, p2, rfl, _, rfl⟩
    refine G.stops s (fun s1 => Inv X pins σ H s1) E (by rw [← hn]; exact ⟨st.1, st.2.1, st.2.2.1, ⟨st.2.2.2.1, q1⟩, ⟨st.2.2.2.2, q2⟩⟩) fun h' tk hk htk => ?_
    exact I.turnedL (t' := tk) (ch := [z, TI, TO, i1, i2]) (fun c o hb q => hk c o (fun hm => hb (by
      have e' : c = z ∨ c = TO ∨ c = i1 ∨ c = i2 := by simpa using hm
      rcases e' with q | q | q | q <;> simp [q])) q) hf
  self := fun A i s Q E st h => wpAny_pyIter_zip st.1 h
def iZipTL (ta : TA) : TI := fun σ H R => ta σ H fun vs H1 => ∃ a b xs ys, vs = [.ref a, .ref b] ∧ H1 a = some (.tup xs) ∧ H1 b = some (.lst ys) ∧ R (IzTL a b xs ys) H1
theorem pi_zipTL {X : Cx} {e e2 : Expr} {ta : TA} {p pos tpos : Pos} {elts : List Expr} {kk : Nat} (hg : Gl X "zip") (hm : X.mg "zip" = none) (ha : PA X [e, e2] ta)
    (hs : starEach [e, e2] X.env = (false, eval e X.env) :: starEach [e2] X.env := by rfl) (hpl : (backTo pos (starEach [e2] X.env)).any (·.1) = false := by rfl) :
    PI X (.Tuple elts kk tpos) (.Call (.Name "zip" p) [e, e2] [] pos) (iZipTL ta) := by
  refine ⟨fun pins s σ H R I h => ?_⟩
  refine Call_ (ld_blt I hg hm PyProof.Rows.boot_zip (PyProof.Rows.callWith_type1 (thn (ha.run pos pins s σ H _ I h) fun us s1 ⟨vs, H1, I1, r1, q1⟩ => ?_) hs hpl))
  obtain ⟨a, b, xs, ys, ex, hqa, hqb, q⟩ := q1
  subst ex
  cases r1 with
  | cons r rr =>
    cases rr with
    | cons r' rr =>
      cases rr
      cases r
      cases r'
      obtain ⟨hz1, its, rv, p1⟩ := I1.hok a _ hqa
      obtain ⟨its2, n2, rv2, p2, hz2⟩ := I1.lst hqb
      have la : a < s1.heap.objs.size := I1.hok.lt hqa
      have lb : b < s1.heap.objs.size := I1.hok.lt hqb
      refine zip_begins2 (begins_tuple a its.toArray) (begins_list b its2.toArray) (show s1.heap.IsTuple a its.toArray from p1) (show s1.heap.IsList b its2.toArray from ⟨_, p2, rfl, _, rfl⟩) fun h' hz hTI hTO h1 h2 hsz hk => wpAny_pyIter_zip hz ?_
      have I2 : Inv X pins σ H1 { s1 with heap := h' } := I1.kept (t' := s1.toks) hk
      refine ⟨s1.heap.objs.size + 4, [s1.heap.objs.size + 4, s1.heap.objs.size + 2, s1.heap.objs.size + 3, s1.heap.objs.size, s1.heap.objs.size + 1], _, _, H1, rfl, I2,
        turn_zipTL a b (s1.heap.objs.size + 4) (s1.heap.objs.size + 2) (s1.heap.objs.size + 3) s1.heap.objs.size (s1.heap.objs.size + 1) xs ys (zip_sep2 (fp1 := [a]) (fp2 := [b]) (fun c hc => by rw [List.mem_singleton.mp hc]; exact la) (fun c hc => by rw [List.mem_singleton.mp hc]; exact lb)),
        ⟨hz, hTI, ⟨_, _, hTO⟩, ⟨_, h1, rfl, rfl⟩, ⟨_, h2, rfl, rfl⟩⟩, fun c hcm => ?_, q⟩
      have e' : c = s1.heap.objs.size + 4 ∨ c = s1.heap.objs.size + 2 ∨ c = s1.heap.objs.size + 3 ∨ c = s1.heap.objs.size ∨ c = s1.heap.objs.size + 1 := by simpa using hcm
      have hle : s1.heap.objs.size ≤ c := by
        rcases e' with z | z | z | z | z <;> rw [z] <;> omega
      exact I1.fpOk hle (I1.hok.fresh hle)
section
variable {X : Cx} {ρ : Env} {e e2 : Expr} {ds es : List D} {pos np tpos : Pos} {elts : List Expr} {kk : Nat}
theorem i_zipTL {α β : Type} {xs : List α} {ys : List β} {enc : α → D} {enc1 : β → D} (hm : X.mg "zip" = none) (h : DE X e ρ (.tup (xs.map enc))) (h2 : DE X e2 ρ (.lst (ys.map enc1))) (hg : Gl X "zip" := by rfl) (hs : starEach [e, e2] X.env = (false, eval e X.env) :: starEach [e2] X.env := by rfl) (st : starEach [e2] X.env = (false, eval e2 X.env) :: starEach [] X.env := by rfl) (hpl : (backTo pos (starEach [e2] X.env)).any (·.1) = false := by rfl) :
    DI X (.Tuple elts kk tpos) (.Call (.Name "zip" np) [e, e2] [] pos) ρ ((xs.zip ys).map (dZp enc enc1)) := fun σ Hb H E R q =>
  ofI (pi_zipTL hg hm peA hs hpl) (a_cons h (a_cons h2 a_nil st) hs σ Hb H E _ fun vs Hb2 H2 n r => by
    obtain ⟨v, u, rfl, r1, r2⟩ := r.two
    obtain ⟨a, vs, rfl, hv, rs⟩ := r1.tup_at
    obtain ⟨b, us, rfl, hu, ru⟩ := r2.lst_inv
    have lv := rs.length
    have lu := ru.length
    rw [List.length_map] at lv lu
    refine ⟨a, b, vs, us, rfl, n.i _ _ hv, n.i _ _ hu, q _ Hb2 H2 n (yl_zip rs ru (fun i H' s h1 h2 => ⟨s _ _ hv, s _ _ hu, by omega, by omega⟩) (fun i H' s h1 h2 h3 => ⟨s _ _ hv, s _ _ hu, by omega⟩) (fun i H' v H'' s hy => hy))⟩)
end
end K76
set_option maxRecDepth 100000
set_option maxHeartbeats 4000000
namespace K76
open PySem PySem.Spec PyProof.Rows L2
/-! ### a def with one default, that lacks -/
section
variable {P : Program} {w : World} {K : PySem.W.Frag} {mg : Str → Option Value} {base : Heap}
theorem kn_ofD {x qual : Str} {params : Arguments} {body : List Stmt} {scope : Scope} {kws : List (Str × V)} {f : Addr} {fd : FuncData} {N ps : List Str} {k : Nat} {dv : V} {dd : D} {R : List D → D → Prop} (n : Nat) (F : FunD K x qual params body scope [dv] kws f fd) (gl : mg x = some (.ref f)) (S : FnScope N ps scope) (hn : n + 1 = ps.length) (len : ∀ ds d, R ds d → ds.length = n)
    (hd : ∀ H, Rep K mg H dv dd) (h : ∀ (T : Addr) (kV doc pm : Value) (an : Option Addr) (cdv ct : Value) (us its : List Value), us.length = n → its.length = 1 →
      ∃ k, bindArgs (PySem.W.fnOf x qual params body scope (.ref T) kV doc pm an cdv ct) ⟨us, []⟩ = seqItems? (.ref T) >>= k ∧ k (some its.toArray) = pure (ps.zip (us ++ its.drop 0)))
    (hb : ∀ (cdv : Value) (A : Around) (outer : List PySem.Env) (s : Shared) (H : Hp) (E : XK), Room k (Cxf P w K mg base N qual scope f cdv A outer s H E).A → ∀ ds d, R ds d → DSs (Cxf P w K mg base N qual scope f cdv A outer s H E) body (start0 N (ds ++ [dd])) (retK d)) :
    Kn P w K mg base x (k + 1) R := by
  obtain ⟨vs, h1, h2⟩ := F.binds1 n 0 (by simp) (by simpa using hn) (fun T kV doc pm an cdv ct us its hl hi => h T kV doc pm an cdv ct us its hl hi)
  exact ⟨f, fd, ps, [dv], vs, [dd], fun ds d => ∃ ds', ds = ds' ++ [dd] ∧ R ds' d, fn_body F S (fun ds d hR => by obtain ⟨ds', rfl, hR⟩ := hR; rw [List.length_append, len ds' d hR]; exact hn)
    (fun cdv A outer s H E hr ds d hR => by obtain ⟨ds', rfl, hR⟩ := hR; exact hb cdv A outer s H E hr ds' d hR), gl, F.kp, h2, h1, fun H => .cons (hd H) .nil, fun ds d hR => ⟨ds, rfl, hR⟩⟩
/-! ### a def that hands back a new list -/
def spF (K : PySem.W.Frag) (mg : Str → Option Value) (R : List D → List D → Prop) : Sp := fun vs H Q _ => ∃ Hb ds es, Gd Hb H ∧ Reps K mg Hb vs ds ∧ R ds es ∧ ∀ l ws Hb2 H2, Nw Hb H Hb2 H2 → H l = none → Hb2 l = none → H2 l = some (.lst ws) → Reps K mg Hb2 ws es → Q (.ref l) H2
structure KnF (P : Program) (w : World) (K : PySem.W.Frag) (mg : Str → Option Value) (base : Heap) (x : Str) (k : Nat) (R : List D → List D → Prop) : Prop where
  ex : ∃ (f : Addr) (fd : FuncData) (ps : List Str) (vs : List Value), FnOk P w K mg base CX0 k f fd ps (spF K mg R) ∧ mg x = some (.ref f) ∧ PySem.W.keepIn K (.ref f) = true ∧ Binds K fd ps vs ∧ vs = []
def retF (es : List D) : Out → Prop
  | .rtf ds => ds = es
  | _ => False
theorem start_nv {N : List Str} {ds : List D} {i : Nat} {x : Sl} (hi : (start0 N ds)[i]? = some (some x)) : ∃ d, x = .val d := by
  unfold start0 at hi
  by_cases hi' : i < ds.length
  · rw [List.getElem?_append_left (by simpa using hi'), List.getElem?_map, List.getElem?_eq_getElem hi'] at hi
    cases hi
    exact ⟨_, rfl⟩
  · rw [List.getElem?_append_right (by simpa using hi')] at hi
    have := List.mem_of_getElem? hi
    rw [List.mem_replicate] at this
    cases this.2
theorem knF_of {x qual : Str} {params : Arguments} {body : List Stmt} {scope : Scope} {kws : List (Str × V)} {f : Addr} {fd : FuncData} {N ps : List Str} {k : Nat} {R : List D → List D → Prop} (F : FunD K x qual params body scope [] kws f fd) (gl : mg x = some (.ref f)) (S : FnScope N ps scope) (len : ∀ ds d, R ds d → ds.length = ps.length)
    (h : ∀ (kV doc pm : Value) (an : Option Addr) (cdv ct : Value) (us : List Value), us.length = ps.length → bindArgs (PySem.W.fnOf x qual params body scope .none kV doc pm an cdv ct) ⟨us, []⟩ = pure (ps.zip us))
    (hb : ∀ (cdv : Value) (A : Around) (outer : List PySem.Env) (s : Shared) (H : Hp) (E : XK), Room k (Cxf P w K mg base N qual scope f cdv A outer s H E).A → ∀ ds es, R ds es → DSs (Cxf P w K mg base N qual scope f cdv A outer s H E) body (start0 N ds) (retF es)) :
    KnF P w K mg base x (k + 1) R := by
  refine ⟨f, fd, ps, [], F.ok S (fun vs H Q E h => ?_) (fun cdv A outer s H vs Q E hr h => ?_), gl, F.kp, F.bindsN h, rfl⟩
  · obtain ⟨Hb, ds, d, _, r, hR, _⟩ := h
    rw [r.length]
    exact len ds d hR
  · obtain ⟨Hb, ds, es, hs, r, hR, q⟩ := h
    refine ⟨_, PSs.nox peSs, ?_⟩
    refine hb cdv A outer s H E hr ds es hR Hb H (L2.start N vs) Hb H ⟨en_start hs r, Nw.refl hs.s, fun i x l hi hx => ?_⟩ _ fun o ho => ?_
    · obtain ⟨d, rfl⟩ := start_nv hi
      exact absurd rfl (hx d)
    · cases o with
      | rtf ds' => cases (show ds' = es from ho); exact fun l ws Hb2 H2 n h1 h2 h3 rv => q l ws Hb2 H2 n h1 h2 h3 rv
      | _ => exact ho.elim
end
section
variable {X : Cx} {ρ : Env} {a b e : Expr} {es : List Expr} {ds es' : List D} {d x : D} {pos np : Pos}
theorem f_callF {x : Str} {j k : Nat} {R : List D → List D → Prop} (F : KnF X.prog X.w X.K X.mg X.base x j R) (hr : Room k X.A) (ha : DA X (e :: es) ρ ds) (hR : R ds es') (hk : j ≤ k := by decide) (hg : Gl X x := by rfl) (hx : X.xe = (fun _ _ => False) := by rfl)
    (hdb : (x == ("__debug__" : Str)) = false := by decide) (he : starEach (e :: es) X.env = (false, eval e X.env) :: starEach es X.env := by rfl) (hpl : (backTo pos (starEach es X.env)).any (·.1) = false := by rfl) : DF X (.Call (.Name x np) (e :: es) [] pos) ρ es' := fun σ Hb H E Q q => by
  obtain ⟨f, fd, ps, vs, h1, h2, h3, h4, rfl⟩ := F.ex
  refine ofE (pe_call h1 (hr.mono hk) hg h2 h3 h4 .nil pass0 peA hdb he hpl) ?_
  refine ha σ Hb H E _ fun ws Hb2 H2 n rs => ?_
  exact ⟨Hb2, ds, es', ⟨n.i, n.t E.t⟩, by rw [List.append_nil]; exact rs, hR, fun l ws' Hb3 H3 n2 h1 h2 h3 r2 => q l ws' Hb3 H3 (n.trans n2) (Nw.no n h1) h2 h3 r2⟩
/-! ### min of a list of pairs -/
/-- the first of the least -/
def minP (p : Int × Int) (ps : List (Int × Int)) : Int × Int := PySem.W.minOf p ps
theorem ids_of {K : PySem.W.Frag} {mg : Str → Option Value} {Hb H : Hp} (s : Same Hb H) : ∀ {vs : List V} {ps : List (Int × Int)}, Reps K mg Hb vs (ps.map dPr) → DpAll K H vs (ps.map fun p => PyData.tuple [.int p.1, .int p.2])
  | _, [], .nil => .nil
  | _, p :: ps, .cons h r => by
    obtain ⟨a, us, rfl, h1, h2⟩ := h.tup_inv
    obtain ⟨v1, v2, rfl, r1, r2⟩ := h2.two
    cases r1.int_inv
    cases r2.int_inv
    exact .cons (.tup (sm_tup s h1) (.cons (.int _) (.cons (.int _) .nil))) (ids_of s r)
def rMinP (K : PySem.W.Frag) : List V → Hp → VK → Prop := fun vs H Q => ∃ (l : Addr) (ws : List V) (p : Int × Int) (ps : List (Int × Int)), vs = [.ref l] ∧ H l = some (.lst ws) ∧ DpAll K H ws ((p :: ps).map fun p => PyData.tuple [.int p.1, .int p.2]) ∧ ∀ (i : Nat) v, ws[i]? = some v → (p :: ps)[i]? = some (minP p ps) → Q v H
theorem cr_minP {n : Nat} (hc : X.calm = true) (hr : Room n X.A) : CallR X (.builtin "min") (rMinP X.K) := by
  intro pins s σ H vs us Q I r h
  obtain ⟨l, ws, p, ps, rfl, hl, hd, q⟩ := h
  obtain ⟨its, n2, rv, p2, hz2⟩ := I.lst hl
  obtain ⟨as, rds⟩ := Dp.readsAll I _ _ _ hd rv
  have q2 : s.heap.IsList l its.toArray := ⟨_, p2, rfl, _, rfl⟩
  rw [Vals.ref1 r]
  have HA : PySem.W.HoldAll s.heap its.toArray.toList (p :: ps) := ⟨as, by
    have e : (p :: ps).map PySem.W.Datum.toD = (p :: ps).map fun p : Int × Int => PyData.tuple [.int p.1, .int p.2] := rfl
    rw [e]; exact rds⟩
  refine PySem.W.min_list_datum (I.ok.hd hc) q2 HA (by have := hr.un; show X.A.units + 1 + (max 0 0 + 1) < cLine; omega) fun i v h' tk hi Hv hk => ?_
  have hi2 : its[i]? = some v := by simpa using hi
  obtain ⟨u, hu, ru⟩ : ∃ u, ws[i]? = some u ∧ RelV u v := by
    have hlt : i < ws.length := by
      rw [rv.length]; exact (List.getElem?_eq_some_iff.mp hi2).1
    obtain ⟨w', h1, h2⟩ := rv.get (List.getElem?_eq_getElem hlt)
    rw [hi2] at h1
    cases h1
    exact ⟨_, List.getElem?_eq_getElem hlt, h2⟩
  refine ⟨u, H, I.kept hk, ru, q i u hu ?_⟩
  obtain ⟨y, hy, Hy⟩ := HA.at (by simpa using hi)
  rw [hy]
  have Hy2 := Hy.keeps hk
  obtain ⟨l1, a1, b1, e1, t1, x1, y1⟩ := PySem.W.pair_of_holds Hy2
  obtain ⟨l2, a2, b2, e2, t2, x2, y2⟩ := PySem.W.pair_of_holds Hv
  rw [e1] at e2
  cases e2
  obtain ⟨o1, g1, _, m1, d1⟩ := t1
  obtain ⟨o2, g2, _, m2, d2⟩ := t2
  rw [g1] at g2
  cases g2
  rw [d1] at d2
  obtain ⟨t1', h1⟩ := PySem.W.int_of_holds x1
  obtain ⟨t2', h2⟩ := PySem.W.int_of_holds x2
  obtain ⟨t3', h3⟩ := PySem.W.int_of_holds y1
  obtain ⟨t4', h4⟩ := PySem.W.int_of_holds y2
  subst h1 h2 h3 h4
  have e5 : (#[Value.int y.1 t1', Value.int y.2 t3'] : Array Value) = #[Value.int (PySem.W.minOf p ps).1 t2', Value.int (PySem.W.minOf p ps).2 t4'] := by
    injection d2
  have e6 := congrArg Array.toList e5
  simp only [List.cons.injEq, Value.int.injEq, and_true] at e6
  show some y = some (PySem.W.minOf p ps)
  exact congrArg some (Prod.ext e6.1.1 e6.2.1)
theorem d_minP {n : Nat} {p : Int × Int} {ps : List (Int × Int)} (hm : X.mg "min" = none) (hr : Room n X.A) (ha : DE X a ρ (.lst ((p :: ps).map dPr))) (hc : X.calm = true := by rfl) (hg : Gl X "min" := by rfl) (st : St1 X a := by rfl) : DE X (.Call (.Name "min" np) [a] [] pos) ρ (dPr (minP p ps)) :=
  d_callB (cr_minP hc hr) hm (by decide +kernel) (a_cons ha a_nil st) (fun Hb H vs s r Q q => by
    obtain ⟨v, rfl, rv⟩ := r.one
    obtain ⟨l, vs, rfl, hv, rs⟩ := rv.lst_inv
    refine ⟨l, vs, p, ps, rfl, s _ _ hv, ids_of s rs, fun i v hi he => q v Hb H (Nw.refl s) ?_⟩
    obtain ⟨d, h1, h2⟩ := rs.getV hi
    rw [List.getElem?_map, he] at h1
    cases h1
    exact h2) hg (he := st)
/-! ### repr of two ints -/
def rRepr2 : List V → Hp → VK → Prop := fun vs H Q => ∃ (l : Addr) (i j : Int), vs = [.ref l] ∧ H l = some (.tup [.int i, .int j]) ∧ i.natAbs.log2 < 1920 ∧ j.natAbs.log2 < 1920 ∧ (PyData.tuple [.int i, .int j]).shown.length ≤ sizeLine ∧ Q (.str (PyData.tuple [.int i, .int j]).shown) H
theorem cr_repr2 {n : Nat} (hgd : X.A.guards = some []) (hr : Room n X.A) : CallR X (.builtin "repr") rRepr2 := by
  intro pins s σ H vs us Q I r h
  obtain ⟨l, i, j, rfl, hl, hi, hj, hsz, q⟩ := h
  rw [Vals.ref1 r]
  obtain ⟨as, rds⟩ := Dp.reads I (.tuple [.int i, .int j]) (.ref l) (.ref l) (Dp.tup (SqT.of hl) (.cons (.int _) (.cons (.int _) .nil))) rfl
  refine repr_of_reads' rds ?_ (fun e => by simp [PyData.hasDict, PyData.hasDictAll] at e) hgd ?_ (fun _ _ e => e) (fun h' u tk hk => ?_) hsz
  · simp [PyData.showable, PyData.showableAll, hi, hj]
  · have := hr.un
    simp only [PyData.depth, PyData.depthAll]
    omega
  · exact ⟨.str _, H, I.kept hk, ⟨u, rfl⟩, q⟩
end
end K76
set_option maxRecDepth 100000
set_option maxHeartbeats 4000000
namespace K76
open PySem PySem.Spec PyProof.Rows L2
/-! ### sorted(set(a list of ints)) -/
section
variable {P : Program} {w : World} {A : Around} {E : Value → Shared → Prop} {s : Shared}
abbrev set0 (w : World) : Obj := { cls := .type "set", dict := none, data := .set #[] 0 (.fresh 0 0 (!w.params.followText "set-order")) }
/-- the new set after its items have been walked -/
theorem set_init_lst {l : Addr} {items : Array Value} (ns : List Int) {R : Result → Shared → Prop} (hh : A.handled = none) (hl : s.heap.IsList l items) (hit : IntsAre items.toList ns) (hb : ns.length + 1 < scanBound) (hR : ∀ h' tk c, SetR w h' s.heap.objs.size (fun j => decide (j ∈ ns)) c → c ≤ ns.length → (∀ b o, s.heap.get? b = some o → h'.get? b = some o) → R (.ok (.ret .none)) { s with heap := h', toks := tk }) :
    codeAny (model P w) A (.call (.builtin "set.__init__") ⟨[.ref s.heap.objs.size, .ref l], []⟩) R { s with heap := s.heap.push (set0 w) } := by
  have hS : (s.heap.push (set0 w)).get? s.heap.objs.size = some (set0 w) := Heap.get?_push_size _ rfl
  have hT : Shared.TypeIs { s with heap := s.heap.push (set0 w) } (.ref s.heap.objs.size) "set" := ⟨_, hS, rfl⟩
  have hsz : items.size = ns.length := by have q := IntsAre.length hit; rwa [Array.length_toList] at q
  refine codeAny_call_builtin F.called_set.init.plain F.entry_set_init (check_set_init_1 hT ?_)
  obtain ⟨⟨ocls, odict, odata, oslots⟩, hol, hcl, nl, hdl⟩ := hl
  simp only at hcl hdl
  subst hcl; subst hdl
  have hl0 : s.heap.IsList l items := ⟨_, hol, rfl, nl, rfl⟩
  have hol' := Heap.get?_push_of_some (set0 w) hol
  have k1 := F.sub_list_set
  have k2 := F.sub_list_frozenset
  have k3 : (Value.type "list" == Value.type "dict") = false := by decide
  have hl1 : (s.heap.push (set0 w)).IsList l items := ⟨_, hol', rfl, nl, rfl⟩
  have hlS : l < s.heap.objs.size := Heap.lt_size hol
  have hz : (s.heap.push (set0 w)).objs.size = s.heap.objs.size + 1 := Heap.size_push ..
  unfold Builtin.«set.__init__» noKeywords Builtin.Frozenset.updateFrom
  generalize hPI : pyIter = PI
  wp_walk
  subst hPI
  refine wpAny_pyIter_list hl1 ?_
  refine wpAny_bind (wpAny_runValue ?_)
  have hA : A.in1.in1.handled = none := by simp [hh]
  have hne : l ≠ (s.heap.push (set0 w)).objs.size := by rw [hz]; exact Nat.ne_of_lt (Nat.lt_succ_of_lt hlS)
  have hSf : s.heap.objs.size ∉ [(s.heap.push (set0 w)).objs.size, l] := by
    rw [hz]
    simp only [List.mem_cons, List.not_mem_nil, or_false, not_or]
    exact ⟨Nat.ne_of_lt (Nat.lt_succ_self _), Nat.ne_of_gt hlS⟩
  refine set_update_ints ((Walks.list hA _ l hne items).toS) s.heap.objs.size hSf ns hsz hb (fun i v hv => ?_) (items.size - 0) 0 _ (by omega) (Nat.zero_le _) ?hst ?hS0 fun s' c hm hc hS' => ?_
  case hst => exact ⟨⟨_, Heap.get?_push_size _ rfl, rfl, rfl⟩, hl1.push _⟩
  case hS0 =>
    have hget : ((s.heap.push (set0 w)).push { cls := .type "list_iterator", data := .fields #[.ref l, .int 0 0] }).get? s.heap.objs.size = some (set0 w) := Heap.get?_push_of_some _ hS
    exact ⟨0, Nat.le_refl 0, setR_new_at hget⟩
  · have hi : i < ns.length := by rw [← hsz]; exact (Array.getElem?_eq_some_iff.mp hv).1
    obtain ⟨t, e⟩ := PyProof.Rows.IntsAre.int_at hit i v (by rw [Array.getElem?_toList]; exact hv)
    exact ⟨ns[i], t, List.getElem?_eq_getElem hi, by rw [e, List.getD_eq_getElem?_getD, List.getElem?_eq_getElem hi] <;> rfl⟩
  · obtain ⟨h', g2, d', tk', os'⟩ := s'
    obtain rfl : g2 = s.gens := hm.gens
    obtain rfl : d' = s.drawn := hm.drawn
    obtain rfl : os' = s.os := hm.os
    show wpAny _ _ _ _ _ _
    refine wpAny_pure ?_
    show wpAny _ _ (ret Value.none) _ _ _
    refine wpAny_pure (hR h' tk' c hS' (by rw [← hsz]; exact hc) fun b o e => hm.heap b o ?_ (Heap.get?_push_of_some _ (Heap.get?_push_of_some _ e)))
    have := Heap.lt_size e
    rw [hz]
    simp only [List.mem_cons, List.not_mem_nil, or_false, not_or]
    exact ⟨Nat.ne_of_lt this, Nat.ne_of_lt (Nat.lt_succ_of_lt this)⟩
theorem call_set_lst {l : Addr} {items : Array Value} (ns : List Int) {Q : Value → Shared → Prop} (hh : A.handled = none) (hl : s.heap.IsList l items) (hit : IntsAre items.toList ns) (hb : ns.length + 1 < scanBound)
    (h : ∀ h' tk c, SetR w h' s.heap.objs.size (fun j => decide (j ∈ ns)) c → c ≤ ns.length → (∀ b o, s.heap.get? b = some o → h'.get? b = some o) → Q (.ref s.heap.objs.size) { s with heap := h', toks := tk }) :
    wpAny (model P w) A (call (.type "set") [.ref l]) Q E s := by
  obtain ⟨c, tl, hmro⟩ := F.called_set.mro
  have k1 := F.called_set.made
  have k2 := F.called_set.sub
  have k3 := F.called_set.notType
  have k4 := F.called_set.canCreate
  have k5 := F.typeCall_set_1 (.ref l)
  refine wpAny_call (codeAny_of_tree ?_)
  show wpAny _ _ (callAny (.type "set") _) _ _ _
  refine wpAny_pure ⟨Code.quiet_builtin _ (by decide +kernel), codeAny_builtin F.entry_type_call ?_⟩
  rw [Around.under_plain (weight_type_call_type "set" [.ref l] []) rfl]
  repeat (any_goals (first | assumption | wp_step))
  refine codeAny_mono (code_set_led1 (.ref l) (E := E) (Q₁ := fun obj s₁ => obj = .ref s.heap.objs.size ∧ s₁ = { s with heap := s.heap.push (set0 w) }) ⟨rfl, rfl⟩) fun r s₁ hr => ?_
  match r, hr with
  | .error e, hr => exact hr
  | .ok (.ret obj), hr =>
    obtain ⟨rfl, rfl⟩ := hr
    have hS : (s.heap.push (set0 w)).get? s.heap.objs.size = some (set0 w) := Heap.get?_push_size _ rfl
    have hT : Shared.TypeIs { s with heap := s.heap.push (set0 w) } (.ref s.heap.objs.size) "set" := ⟨_, hS, rfl⟩
    have j1 := F.called_set.init.lookup
    have j2 := F.called_set.init.bind (.ref s.heap.objs.size)
    repeat (any_goals (first | assumption | wp_step))
    refine codeAny_mono (set_init_lst (s := s) (R := wants (fun r s₂ => r = .none ∧ ∃ h' tk c, s₂ = { s with heap := h', toks := tk } ∧ SetR w h' s.heap.objs.size (fun j => decide (j ∈ ns)) c ∧ c ≤ ns.length ∧ (∀ b o, s.heap.get? b = some o → h'.get? b = some o)) E) ns (by simp [hh]) hl hit hb fun h' tk c a1 a2 a3 => ⟨rfl, h', tk, c, rfl, a1, a2, a3⟩) fun r₂ s₂ hr₂ => ?_
    match r₂, hr₂ with
    | .error e, hr₂ => exact hr₂
    | .ok (.ret r), hr₂ =>
      obtain ⟨rfl, h', tk, c', rfl, a1, a2, a3⟩ := hr₂
      repeat (any_goals (first | assumption | wp_step))
      exact h _ _ _ a1 a2 a3
end
section
variable {X : Cx} {ρ : Env} {a e : Expr} {pos np p2 q2 : Pos}
def rSetL0 (K : PySem.W.Frag) (w : World) : List V → Hp → VK → Prop := fun vs H Q => ∃ (l : Addr) (ns : List Int), vs = [.ref l] ∧ SqL K H l (ns.map V.int) ∧ ns.length ≤ 4000 ∧ ∀ p c, H p = none → c ≤ ns.length → Q (.ref p) (upd H p (SetO w p (fun j => decide (j ∈ ns)) c))
theorem cr_setL (hc : X.calm = true) : CallR X (.type "set") (rSetL0 X.K X.w) := by
  intro pins s σ H vs us Q I r h
  obtain ⟨l, ns, rfl, hl, hz, q⟩ := h
  obtain ⟨its, rv, p1, _⟩ := I.list hl
  rw [Vals.ref1 r]
  refine call_set_lst ns (I.ok.hd hc) p1.isList (by simpa using rv.ints) (by unfold scanBound; omega) fun h' tk c hS hcl hk => ?_
  have hn : H s.heap.objs.size = none := I.hok.fresh (Nat.le_refl _)
  exact ⟨.ref s.heap.objs.size, upd H s.heap.objs.size (SetO X.w s.heap.objs.size (fun j => decide (j ∈ ns)) c), I.laid (t' := tk) hk (Nat.le_refl _) (setO_new hS), rfl, q _ _ hn hcl⟩
/-- sorted(set([..])) -/
theorem f_sortedSet {ns ms : List Int} (hm : X.mg "sorted" = none) (hm2 : X.mg "set" = none) (ha : DE X a ρ (.lst (ns.map D.int))) (hs : ms.Pairwise (· < ·)) (he : ∀ k, k ∈ ms ↔ k ∈ ns) (h64 : ns.length < 64) (hg : Gl X "sorted" := by rfl) (hg2 : Gl X "set" := by rfl) (hc : X.calm = true := by rfl) (st2 : St1 X a := by rfl)
    (st : St1 X (.Call (.Name "set" p2) [a] [] q2) := by rfl) (hpl : (backTo q2 (starEach ([] : List Expr) X.env)).any (·.1) = false := by rfl) (hpl2 : (backTo pos (starEach ([] : List Expr) X.env)).any (·.1) = false := by rfl) : DF X (.Call (.Name "sorted" np) [.Call (.Name "set" p2) [a] [] q2] [] pos) ρ (ms.map D.int) := fun σ Hb H E Q q =>
  ofE (pe_callB (cr_sortedSet hc) hg hm (by decide +kernel) (pa_cons (pe_callTy (cr_setL hc) hg2 hm2 boot_set (pa_cons peE pa_nil st2) (by decide) (by decide) st2 hpl) pa_nil st) (by decide) (by decide) st hpl2) (ha σ Hb H E _ fun v Hb2 H2 n r => by
    obtain ⟨l, vs, rfl, hv, rs⟩ := r.lst_inv
    rw [rs.ofInts] at hv
    refine ⟨l, ns, rfl, SqL.of (n.i _ _ hv), by omega, fun p c hp hcl => ⟨p, _, c, rfl, upd_same, by omega, fun ns' p' h1 h2 h3 h4 => ?_⟩⟩
    have e : ns' = ms := by
      have p1 : ns'.Pairwise (· ≤ ·) := h1.imp fun h => Int.le_of_lt h
      have p2 : ms.Pairwise (· ≤ ·) := hs.imp fun h => Int.le_of_lt h
      have d1 : ns'.Nodup := h1.imp fun h => Int.ne_of_lt h
      have d2 : ms.Nodup := hs.imp fun h => Int.ne_of_lt h
      refine perm_sorted_eq (fun a b => Int.le_antisymm) ((List.perm_ext_iff_of_nodup d1 d2).mpr fun k => ?_) p1 p2
      rw [h2 k, he k, decide_eq_true_eq]
    rw [e]
    have n2 : Nw Hb2 H2 Hb2 (upd H2 p (SetO X.w p (fun j => decide (j ∈ ns)) c)) := Nw.more n.i hp
    have h5 : H2 p' = none := Nw.no n2 h4
    exact q p' _ Hb2 _ (n.trans (n2.trans (Nw.more n2.i h4))) (Nw.no n h5) (sm_none n.i h5) upd_same (Reps.ints ms))
end
end K76
set_option maxRecDepth 100000
set_option maxHeartbeats 4000000
namespace K76
open PySem PySem.Spec PyProof.Rows L2
/-! ### __init__ that begins with super().__init__(..) -/
structure SupScope (N ps : List Str) (sc : Scope) : Prop where
  kind : sc.kind = .function
  co : sc.isCoroutine = false
  gen : sc.isGenerator = false
  nd : N.Nodup
  pre : N.take ps.length = ps
  par : ∀ x ∈ ps, sc.names.lookup x = some .local
  nocell : ∀ y ∈ sc.names, y.2 ≠ .cell
  free : ∀ y ∈ sc.names, y.2 = .free → y.1 = "__class__"
  sup : sc.names.lookup ("super" : Str) = some .globalImplicit
  cls : sc.names.lookup ("__class__" : Str) = some .free
/-- the context of such a def's body -/
def cxS (P : Program) (w : World) (K : PySem.W.Frag) (mg : Str → Option Value) (base : Heap) (N : List Str) (qual : Str) (scope : Scope) (f : Addr) (cd : Value) (cc : Addr) (A : Around) (outer : List PySem.Env) (s : Shared) (H : Hp) : Cx where
  prog := P
  w := w
  K := K
  mg := mg
  base := base
  A := A.deeper (PySem.W.ksEnv qual scope s.heap.objs.size f cd cc)
  N := N
  s_0 := s
  H_0 := H
  env := PySem.W.ksEnv qual scope s.heap.objs.size f cd cc
  outer := outer
  stack := PySem.W.ksEnv qual scope s.heap.objs.size f cd cc :: outer
  ex := []
  fn := fun _ => false
  calm := true
  pn := []
  xe := fun _ _ => False
section
variable {P : Program} {w : World} {K : PySem.W.Frag} {mg : Str → Option Value} {base : Heap} {N ps : List Str} {name qual : Str} {scope : Scope} {f cc : Addr} {cd : Value} {A : Around} {outer : List PySem.Env} {s s1 : Shared} {H : Hp} {us : List Value} {vs : List V}
theorem inv_startS {D : Addr} {cl : Value} {cld : Option Addr} {csl : Array (Option Value)} (S : SupScope N ps scope) (hd : A.handled = none) (e0 : Env0 P w K mg base A outer s H) (hl : vs.length = ps.length) (r : Vals vs us) (hcell : K.lookup cc = some ⟨cl, cld, .cell (some (.ref D)), csl⟩)
    {h₀ : Heap} {tk : Nat} (hns : h₀.Ns s.heap.objs.size (fun x => (ps.zip us).reverse.lookup x)) (hk : ∀ b o, s.heap.get? b = some o → h₀.get? b = some o) : Inv (cxS P w K mg base N qual scope f cd cc A outer s H) [] (L2.start N vs) H { s with heap := h₀, toks := tk } := by
  have hpl : ps.length ≤ N.length := by have := congrArg List.length S.pre; rw [List.length_take] at this; omega
  have one : ∀ {x : Str} {c : Addr}, (cxS P w K mg base N qual scope f cd cc A outer s H).env.cells.lookup x = some c → x = "__class__" ∧ c = cc := fun {x c} h => by
    have h : List.lookup x [(("__class__" : Str), cc)] = some c := h
    rw [List.lookup_cons] at h
    cases q : (x == ("__class__" : Str)) with
    | true => rw [q] at h; cases h; exact ⟨beq_iff_eq.mp q, rfl⟩
    | false => rw [q] at h; cases h
  have KB : base.get? cc = some ⟨cl, cld, .cell (some (.ref D)), csl⟩ := e0.mod.kin _ _ hcell
  have noA : ∀ b : Addr, b ∉ (cxS P w K mg base N qual scope f cd cc A outer s H).ex := fun b z => absurd (show b ∈ ([] : List Addr) from z) (by simp)
  refine ⟨⟨e0.mod, S.kind, rfl, rfl, Nat.le_refl _, fun y z c h1 h2 => (one h1).1.trans (one h2).1.symm, fun y hy => ?_, fun y c h1 _ => (nomatch (show false = true from h1)), fun _ => hd, Around.frames_deeper e0.frames, .inr ⟨rfl, rfl⟩, fun b z => absurd z (noA b), e0.bs, e0.bsz, fun b _ _ => noA b, fun b z => absurd z (noA b), e0.funs, e0.frf⟩,
    rfl, e0.bare, Un.kept hk, ⟨_, hns, fun i y v h1 h2 h3 => ?_⟩, fun y c h => ?_, e0.hok.fresh (Nat.le_refl _), fun y c h => ?_, fun p hp => absurd (show p ∈ ([] : List (Addr × Obj)) from hp) (by simp), e0.hok.kept hk, ?_⟩
  · have hy : scope.names.lookup y = some .cell ∨ scope.names.lookup y = some .free := hy
    rcases hy with hy | hy
    · exact absurd rfl (S.nocell _ (PySem.mem_of_lookup hy))
    · have := S.free _ (PySem.mem_of_lookup hy) rfl
      subst this
      exact ⟨cc, rfl⟩
  · have hi : i < vs.length := by
      unfold L2.start at h2
      by_cases hi : i < vs.length
      · exact hi
      · rw [List.getElem?_append_right (by simpa using hi), List.getElem?_replicate] at h2
        split at h2 <;> cases h2
    have ha : vs[i]? = some v := by
      unfold L2.start at h2
      rw [List.getElem?_append_left (by simpa using hi), List.getElem?_map] at h2
      cases e : vs[i]? with
      | none => rw [e] at h2; cases h2
      | some a => rw [e] at h2; cases h2; rfl
    obtain ⟨u, hu, rv⟩ := r.get ha
    have hp : ps[i]? = some y := by
      rw [← S.pre, List.getElem?_take_of_lt (by omega)]; exact h1
    have ndP : ps.Nodup := by rw [← S.pre]; exact S.nd.sublist (List.take_sublist _ _)
    refine ⟨u, rv, .inl ⟨S.par y (List.mem_of_getElem? hp), ?_⟩⟩
    have hm : (y, u) ∈ (ps.zip us).reverse := by
      rw [List.mem_reverse]
      exact List.mem_of_getElem? (i := i) (by rw [List.getElem?_zip_eq_some]; exact ⟨hp, hu⟩)
    have key : ∀ (l : List (Str × Value)), (l.map (·.1)).Nodup → (y, u) ∈ l → l.lookup y = some u := by
      intro l
      induction l with
      | nil => intro _ h; cases h
      | cons a l ih =>
        obtain ⟨y', u'⟩ := a
        intro hd hm
        rw [List.lookup_cons]
        rcases List.mem_cons.mp hm with e | hm2
        · cases e; simp
        · have : y ≠ y' := fun e => by
            subst e
            rw [List.map_cons, List.nodup_cons] at hd
            exact hd.1 (List.mem_map.mpr ⟨_, hm2, rfl⟩)
          rw [show (y == y') = false from by simpa using this]
          rw [List.map_cons, List.nodup_cons] at hd
          exact ih hd.2 hm2
    have hle : ps.length ≤ us.length := by rw [← r.length, hl]; exact Nat.le_refl _
    exact key _ (by rw [List.map_reverse, List.map_fst_zip hle]; exact List.pairwise_reverse.mpr (ndP.imp fun h => h.symm)) hm
  · obtain ⟨rfl, rfl⟩ := one h
    exact ⟨_, _, hk _ _ (e0.bs _ _ KB).1, rfl⟩
  · obtain ⟨rfl, rfl⟩ := one h
    exact (e0.bs _ _ KB).2
  · show (L2.start N vs).length = N.length
    unfold L2.start
    simp only [List.length_append, List.length_map, List.length_replicate]
    omega
/-- what super() finds: D the class where the def stands, C the instance's, g the def that is meant -/
structure SupF (P : Program) (K : PySem.W.Frag) (mg : Str → Option Value) (D C cc cda f g : Addr) (slf m : Str) : Prop where
  head : ∃ oc od fd osl ar, K.lookup f = some ⟨oc, od, .func fd, osl⟩ ∧ (fd.params.posonlyargs ++ fd.params.args).head? = some ar ∧ ar.arg = slf
  code : ∃ ccl cdd vs ccs file tf, K.lookup cda = some ⟨ccl, cdd, .fields vs, ccs⟩ ∧ vs[2]? = some (.str file tf) ∧ ((P.main.file : Str) == file) = true
  cell : ∃ cl cld csl, K.lookup cc = some ⟨cl, cld, .cell (some (.ref D)), csl⟩
  cls : ∃ cdD, PySem.W.clsIn K D = some cdD
  sub : PySem.W.mroIn K C (.ref D) = some true
  top : (P.main.scope.names.lookup ("super" : Str)).isSome = false
  glob : mg "super" = none
  found : PySem.W.ks_superIn K C D m = some (some (.ref g))
  ty : PySem.W.typeIn K (.ref g) = some (.type "function")
  fn : PySem.W.fnIn K g = true
  third : PySem.W.nsIn K cStatics "thirdparty.any" = some none
end

section
variable {X : Cx} {pins : List (Addr × Obj)} {σ : L2.St} {H : Hp} {s : Shared} {D C cc cda f g x dx : Addr} {slf m : Str} {body : List Stmt} {qual : Str} {scope : Scope} {L : Addr} {e : Expr} {es : List Expr} {sp : Sp} {k : Nat} {fs : List (Str × V)} {p0 p1 apos pos : Pos} {pl : Sem Bool}
theorem at_super {Q : VK} (F : SupF X.prog X.K X.mg D C cc cda f g slf m) (G : FnR X.prog X.w X.K X.mg X.base CX0 k g sp) (hr : Room k X.A) (hx : X.xe = fun _ _ => False) (env : X.env = PySem.W.ksEnv qual scope L f (.ref cda) cc) (S : scope.names.lookup ("super" : Str) = some .globalImplicit ∧ scope.names.lookup ("__class__" : Str) = some .free) (hself : scope.names.lookup slf = some .local)
    (hN : X.N[0]? = some slf) (I : Inv X pins σ H s) (hσ : σ[0]? = some (some (.ref x))) (hH : H x = some (.ins C dx fs)) (hm : (m == ("__class__" : Str)) = false)
    (h : wpA X (e :: es) σ H fun ws H1 => sp (.ref x :: ws) H1 Q fun _ _ _ => False)
    (he : starEach (e :: es) X.env = (false, eval e X.env) :: starEach es X.env) (hpl : (backTo pos (starEach es X.env)).any (·.1) = false)
    (ht : eval (.Call (.Attribute (.Call (.Name "super" p0) [] [] p1) m apos) (e :: es) [] pos) X.env = (do
      let ov ← attributeBase (.Call (.Name "super" p0) [] [] p1) m X.env (eval (.Call (.Name "super" p0) [] [] p1) X.env)
      standAt apos.atName
      let (f, first) ← holding [ov] (getMethod ov m pl)
      callWith pos f first (backTo pos (starEach (e :: es) X.env)) [])) :
    PySem.wpAt (model X.prog X.w) X.A (.func body X.env) (eval (.Call (.Attribute (.Call (.Name "super" p0) [] [] p1) m apos) (e :: es) [] pos) X.env) (EP X pins σ Q) X.xe s := by
  obtain ⟨oc, od, fd, osl, ar, lf, har, hself'⟩ := F.head
  obtain ⟨ccl, cdd, vs, ccs, file, tf, lc, hvs, hfile⟩ := F.code
  obtain ⟨cl, cld, csl, lcell⟩ := F.cell
  obtain ⟨cdD, hD⟩ := F.cls
  have kin := I.kIn
  obtain ⟨mA, O, rr, _, _, _⟩ := ins_get I.hok hH
  obtain ⟨od', J, hlk⟩ := O.look
  obtain ⟨oD, hD1, hD2⟩ : ∃ oD, s.heap.get? D = some oD ∧ oD.data = .cls cdD := by
    have hD := hD
    unfold PySem.W.clsIn at hD
    split at hD
    · rename_i c d cd' sl ho
      cases hD
      exact ⟨_, kin _ _ ho, rfl⟩
    · cases hD
  have ek : ∀ y, X.env.kindOf y = scope.names.lookup y := fun y => by rw [env]; rfl
  obtain ⟨mloc, hns, hlook⟩ := I.loc
  obtain ⟨u, ru, hl⟩ := hlook 0 slf (.ref x) hN hσ (.inl (by rw [env]; exact hself))
  obtain rfl : u = Value.ref x := ru
  have hml : mloc slf = some (.ref x) := by
    rcases hl with ⟨_, e⟩ | ⟨q, _⟩
    · exact e
    · rw [ek, hself] at q
      rcases q with q | q <;> cases q
  refine PySem.ks_wpAt_MethodCall (pl := pl) ?_ ht
  refine PySem.ks_wpAt_super_base (env := X.env) (f := f) (cc := cda) (by rw [ek]; exact S.1) (by rw [ek]; exact S.2) hm (by rw [env]) (kin _ _ lf) rfl har (by rw [env]) (kin _ _ lc) rfl hvs hfile F.top ?_
  have kk : X.env.scope.kind = .function := I.ok.kind
  refine PySem.W.ks_loadName_global kk (by rw [ek]; exact S.1) ?_
  obtain ⟨mb, b1, b2⟩ := I.mod.blt
  refine Calls.loadGlobal_builtin (by rw [I.ok.glob]; exact I.mod.glob.keeps I.bk) F.glob (by rw [I.ok.blt]; exact b1.keeps I.bk) ((b2 "super" (by decide)).trans (by decide +kernel : bootBuiltins "super" = some (.type "super"))) ⟨rfl, ?_⟩
  refine wpAny_loadName_free kk (by rw [ek]; exact S.2) (c := cc) (v := .ref D) (by rw [env]; rfl) ⟨_, kin _ _ lcell, rfl⟩ ?_
  rw [hself']
  refine wpAny_loadName_local kk (by rw [ek]; exact hself) hns hml ?_
  refine PySem.ks_wpAny_isType_cls hD1 hD2 ⟨rfl, ?_⟩
  obtain ⟨hp, gg, dr, tk, os⟩ := s
  refine PySem.ks_wpAny_call_super hD1 hD2 J.at_ J.cls (fun c e => ?_) (PySem.W.looks_mroIn kin F.sub) fun h' hso hk => ?_
  · have := J.no
    unfold PySem.W.notCls at this
    rw [e] at this
    exact Bool.noConfusion this
  have I1 : Inv X pins σ H ⟨h', gg, dr, tk, os⟩ := I.kept (t' := tk) hk
  have kin1 := I1.kIn
  obtain ⟨od2, J2, _⟩ := O.look
  have hfound := F.found
  unfold PySem.W.ks_superIn at hfound
  cases hc : PySem.W.clsIn X.K C with
  | none => rw [hc] at hfound; cases hfound
  | some cd =>
    rw [hc] at hfound
    obtain ⟨og, hog, hogc⟩ : ∃ og, h'.get? g = some og ∧ og.cls = .type "function" := by
      have ht' : (X.K.lookup g).map (·.cls) = some (.type "function") := F.ty
      cases z : X.K.lookup g with
      | none => rw [z] at ht'; cases ht'
      | some og => rw [z] at ht'; exact ⟨og, kin1 _ _ z, Option.some.inj ht'⟩
    have hxC : x ≠ C := PySem.W.ks_ne kin J hc
    refine PySem.ks_wpAny_getMethod_super hso (PySem.W.looks_opaque kin1 F.third) (l₀ := cd.mro) (fun A Q E s k q => wpAny_bind ((PySem.W.looks_clsIn kin1 hc) A _ E s k (wpAny_pure q))) rfl kin1 hfound hog hogc hxC hm ?_
    have I2 := ClX.met_new (g := g) (C := x) I1
    refine ClX.callwith_cm I2 (ClX.base_none I1 (Nat.le_refl _)) F.fn (thn (peA.run pos _ _ σ H _ I2 h) fun us s3 ⟨vs', H2, I3, rv, q2⟩ => ⟨⟨ClX.pin_at I3, I3.kIn⟩, ?_⟩) he hpl
    exact ClX.run_cm G hr pass0 I3 rv q2
end
end K76
set_option maxRecDepth 100000
set_option maxHeartbeats 4000000
namespace K76
open PySem PySem.Spec PyProof.Rows L2
/-! ### targets of any kind -/
def wpG (X : Cx) (tg : Expr) : TG := fun v σ H Q => ∀ (pins : List (Addr × Obj)) (s : Shared) (u : Value), Inv X pins σ H s → RelV v u → wpAny (model X.prog X.w) X.A (assign tg X.env u) (fun _ s' => ∃ σ' H', Inv X pins σ' H' s' ∧ Q σ' H') X.xe s
def wpGs (X : Cx) (tgs : List Expr) : TGs := fun vs σ H Q => ∀ (pins : List (Addr × Obj)) (s : Shared) (us : List Value), Inv X pins σ H s → Vals vs us → wpAny (model X.prog X.w) X.A (assignInOrder ((assignEach tgs X.env).map (·.2)) us) (fun _ s' => ∃ σ' H', Inv X pins σ' H' s' ∧ Q σ' H') X.xe s
section
variable {X : Cx} {tg : Expr} {tgs : List Expr} {g : TG} {gs : TGs}
theorem pgW : PG X tg (wpG X tg) := ⟨fun pins s σ H v u Q I r h => h pins s u I r⟩
theorem pgsW : PGs X tgs (wpGs X tgs) := ⟨fun pins s σ H vs us Q I r h => h pins s us I r⟩
theorem ofG {v σ H Q} (h : PG X tg g) (q : g v σ H Q) : wpG X tg v σ H Q := fun pins s u I r => h.run pins s σ H v u Q I r q
theorem ofGs {v σ H Q} (h : PGs X tgs gs) (q : gs v σ H Q) : wpGs X tgs v σ H Q := fun pins s u I r => h.run pins s σ H v u Q I r q
end
def gFld (K : PySem.W.Frag) (ta : TE) (f : Str) : TG := fun y σ H Q => ta σ H fun x H2 => ∃ a C dx fs, x = .ref a ∧ H2 a = some (.ins C dx fs) ∧ Cls K C ∧ NoAttr K C f ∧ fs.length < 1000 ∧ Q σ (upd H2 a (.ins C dx (putF f y fs)))
theorem pg_fld {X : Cx} {o : Expr} {f : Str} {ta : TE} {pos : Pos} (ha : PE X o ta) : PG X (.Attribute o f pos) (gFld X.K ta f) := by
  refine ⟨fun pins s σ H v u Q I r h => ?_⟩
  rw [assign_Attribute]
  refine wpAny_bind (wpAny_holding (thn (ha.run pins s σ H _ I h) fun ov s2 ⟨x, H2, I2, rx, a, C, dx, fs, ex, ea, c, n, l, q2⟩ => ?_))
  subst ex
  obtain rfl : ov = Value.ref a := rx
  refine wpAny_bind (wpAny_standAt (wpAny_bind (wpAny_holding ?_)))
  exact setattr_ok I2 ea c n l r fun s3 I3 => wpAny_release ⟨σ, _, I3, q2⟩
def TD (X : Cx) (tg : Expr) (ρ : Env) (d : D) (P : Env → Prop) : Prop := ∀ Hb0 H0 σ Hb H v, So X.K X.mg Hb0 H0 ρ σ Hb H → Rep X.K X.mg Hb v d → ∀ Q : L2.St → Hp → Prop, (∀ ρ' σ' Hb2 H2, P ρ' → So X.K X.mg Hb0 H0 ρ' σ' Hb2 H2 → Same Hb Hb2 → Q σ' H2) → wpG X tg v σ H Q
def TDs (X : Cx) (tgs : List Expr) (ρ : Env) (ds : List D) (P : Env → Prop) : Prop := ∀ Hb0 H0 σ Hb H vs, So X.K X.mg Hb0 H0 ρ σ Hb H → Reps X.K X.mg Hb vs ds → ∀ Q : L2.St → Hp → Prop, (∀ ρ' σ' Hb2 H2, P ρ' → So X.K X.mg Hb0 H0 ρ' σ' Hb2 H2 → Same Hb Hb2 → Q σ' H2) → wpGs X tgs vs σ H Q
section
variable {X : Cx} {ρ : Env} {a b e tg : Expr} {es tgs : List Expr} {pos np : Pos} {d : D} {ds : List D} {k : Out → Prop} {i : Int} {PP : Env → Prop}
theorem tg_nm (n : Nat) {x : Str} (hN : X.N.Nodup) (h : PP (ρ.set n (some (.val d)))) (hi : X.N[n]? = some x := by rfl) (hx : Loc X.env.scope x := by first | exact Or.inl rfl | exact Or.inr rfl) (hf : X.fn x = true ∨ X.env.scope.names.lookup x = some .local := by first | exact .inl rfl | exact .inr rfl) : TD X (.Name x pos) ρ d PP := fun Hb0 H0 σ Hb H v s r Q q =>
  ofG (pg_name hN hi hx hf) (q _ _ Hb H h (s.set_val r) (Same.refl _))
theorem tg_fldI (n : Nat) {x c f : Str} {l : Addr} {fs : List (Str × D)} {npos : Pos} (hc : ClF X c f) (h : PP (ρ.set n (some (.ins l c (putFD f d fs))))) (hn : ρ[n]? = some (some (.ins l c fs)) := by rfl) (hN : X.N[n]? = some x := by rfl) (hv : Vis X.env.scope x := by first | exact Or.inl rfl | exact Or.inr (Or.inl rfl) | exact Or.inr (Or.inr rfl)) (hf : fs.length < 1000 := by first | decide | exact Nat.le_of_ble_eq_true rfl)
    (hd : (x == ("__debug__" : Str)) = false := by decide) (hcd : (x == ("__classdict__" : Str)) = false := by decide) : TD X (.Attribute (.Name x npos) f pos) ρ d PP := fun Hb0 H0 σ Hb H v s r Q q =>
  ofG (pg_fld (pe_var hN hv hd hcd)) (by
    obtain ⟨l', e1, e2, e3, C, dx, fvs, e4, e5, e6⟩ := s.en.own n _ hn (fun _ z => nomatch z)
    subst e3
    exact ⟨.ref _, e1, _, C, dx, fvs, rfl, e5, (hc.ok C e4).1, (hc.ok C e4).2, by rw [e6.length]; exact hf, q _ σ Hb _ h (s.chg hn (fun _ z => nomatch z) (fun _ z => nomatch z) e1 ⟨rfl, C, dx, _, e4, upd_same, e6.put r⟩) (Same.refl _)⟩)
theorem tg_tup {kk : Nat} (h : TDs X tgs ρ ds PP) (hl : ds.length = tgs.length := by rfl) (hc : X.calm = true := by rfl) (hn : (assignEach tgs X.env).length = tgs.length := by rfl) (hst : (assignEach tgs X.env).findIdx? (·.1) = none := by rfl) : TD X (.Tuple tgs kk pos) ρ (.tup ds) PP := fun Hb0 H0 σ Hb H v s r Q q =>
  ofG (pg_tup hc pgsW hn hst) (by
    obtain ⟨a, vs, rfl, hv, rs⟩ := r.tup_at
    exact ⟨a, vs, rfl, SqT.of (s.en.s _ _ hv), rs.length.trans hl, h Hb0 H0 σ Hb H vs s rs Q q⟩)
theorem tgs_nil (h : PP ρ) : TDs X [] ρ [] PP := fun Hb0 H0 σ Hb H vs s r Q q => ofGs pgs_nil (by cases r; exact ⟨rfl, q ρ σ Hb H h s (Same.refl _)⟩)
theorem tgs_cons (h : TD X tg ρ d fun ρ1 => TDs X tgs ρ1 ds PP) (hs : (assignEach (tg :: tgs) X.env).map (·.2) = assign tg X.env :: (assignEach tgs X.env).map (·.2) := by rfl) : TDs X (tg :: tgs) ρ (d :: ds) PP := fun Hb0 H0 σ Hb H vs s r Q q =>
  ofGs (pgs_cons pgW pgsW hs) (by
    cases r with
    | cons r rs => exact ⟨_, _, rfl, h Hb0 H0 σ Hb H _ s r _ fun ρ1 σ1 Hb2 H2 p s1 n => p Hb0 H0 σ1 Hb2 H2 _ s1 (rs.mono n) Q fun ρ' σ' Hb3 H3 p' s' n' => q ρ' σ' Hb3 H3 p' s' (n.trans n')⟩)
/-- own dict [i] -/
theorem tg_dput {n m : Nat} {x : Str} {npos : Pos} {kvs : List (Int × D)} (hr : Room n X.A) (hb : DE X b ρ (.int i)) (h : PP (ρ.set m (some (.md (putI kvs i d))))) (hz : kvs.length < sizeLine) (hn : ρ[m]? = some (some (.md kvs)) := by rfl) (hN : X.N[m]? = some x := by rfl) (hv : Vis X.env.scope x := by first | exact Or.inl rfl | exact Or.inr (Or.inl rfl) | exact Or.inr (Or.inr rfl))
    (hd : (x == ("__debug__" : Str)) = false := by decide) (hcd : (x == ("__classdict__" : Str)) = false := by decide)
    (ha : ∀ v, assign (.Subscript (.Name x npos) b pos) X.env v = (do
      let ov ← holding [v] (eval (.Name x npos) X.env)
      let iv ← holding [v, ov] (eval b X.env)
      standAt pos
      holding [v, ov, iv] (setItem ov iv v)
      release [v, ov, iv] []) := by intro _; rfl) : TD X (.Subscript (.Name x npos) b pos) ρ d PP := fun Hb0 H0 σ Hb H v s r Q q =>
  ofG (pg_sub (pe_var hN hv hd hcd) peE (L2.set_dict (hu_of hr)) ha) (by
    obtain ⟨l, e1, e2, vs, e3, e4⟩ := s.en.own m _ hn (fun _ z => nomatch z)
    refine ⟨.ref l, e1, hb σ Hb H s.en _ fun u Hb3 H3 n3 r3 => ?_⟩
    cases r3.int_inv
    have s3 := s.mono n3
    have e4' := e4.mono n3.b
    refine ⟨l, _, rfl, DPut.k (k := Sum.inl i) (n3.h _ _ e3) (by rw [e4'.length]; exact hz), q _ σ Hb3 _ h (s3.chg hn (fun _ z => nomatch z) (fun _ z => nomatch z) e1 ⟨_, upd_same, e4'.put (r.mono n3.b)⟩) n3.b⟩)
theorem s_asgT (h : DE X e ρ d) (ht : TD X tg ρ d fun ρ' => k (.nx ρ')) (hs : swapsWithSole [tg] e pos.line X.env = pure false := by rfl) (hw : swappedStores [tg] e X.env = pure none := by rfl)
    (h1 : (assignEach [tg] X.env).map (·.2) = [assign tg X.env] := by rfl) : DS X (.Assign [tg] e pos) ρ k := fun Hb0 H0 σ Hb H s D r =>
  ofS (ps_asg peE pgW hs hw h1) (h σ Hb H s.en _ fun v Hb2 H2 n rv => ht Hb0 H0 σ Hb2 H2 v (s.mono n) rv _ fun ρ' σ' Hb3 H3 p s' _ => r _ p σ' Hb3 H3 s')
end
end K76
set_option maxRecDepth 100000
set_option maxHeartbeats 4000000
namespace K76
open PySem PySem.Spec PyProof.Rows L2
section
variable {P : Program} {w : World} {K : PySem.W.Frag} {mg : Str → Option Value} {base : Heap} {N ps : List Str} {name qual : Str} {params : Arguments} {scope : Scope} {dV kV doc pm ct oc : Value} {an od : Option Addr} {osl : Array (Option Value)} {f cc cda : Addr} {k : Nat} {sp spB : Sp}
theorem fn_super {D C g : Addr} {slf m : Str} {e : Expr} {es : List Expr} {rest : List Stmt} {p0 p1 apos cpos spos : Pos} {pl : Sem Bool}
    (lk : K.lookup f = some ⟨oc, od, .func (PySem.W.ksFn name qual params (.Expr (.Call (.Attribute (.Call (.Name "super" p0) [] [] p1) m apos) (e :: es) [] cpos) spos :: rest) scope dV kV doc pm an (.ref cda) ct cc), osl⟩) (hcd : PySem.W.codeIn K (.ref cda) qual = true) (S : SupScope N ps scope)
    (F : SupF P K mg D C cc cda f g slf m) (G : FnR P w K mg base CX0 k g spB) (hself : scope.names.lookup slf = some .local) (hN : N[0]? = some slf) (hm : (m == ("__class__" : Str)) = false) (len : ∀ vs H Q E, sp vs H Q E → vs.length = ps.length)
    (he : ∀ L : Addr, let env : PySem.Env := PySem.W.ksEnv qual scope L f (.ref cda) cc; starEach (e :: es) env = (false, eval e env) :: starEach es env) (hpl : ∀ L : Addr, let env : PySem.Env := PySem.W.ksEnv qual scope L f (.ref cda) cc; (backTo cpos (starEach es env)).any (·.1) = false)
    (hint : ∀ L : Addr, let env : PySem.Env := PySem.W.ksEnv qual scope L f (.ref cda) cc; interactive env = false) (hsw : ∀ L : Addr, let env : PySem.Env := PySem.W.ksEnv qual scope L f (.ref cda) cc; swapsWith (.Call (.Attribute (.Call (.Name "super" p0) [] [] p1) m apos) (e :: es) [] cpos) none spos.line env = pure false)
    (ht : ∀ L : Addr, let env : PySem.Env := PySem.W.ksEnv qual scope L f (.ref cda) cc; eval (.Call (.Attribute (.Call (.Name "super" p0) [] [] p1) m apos) (e :: es) [] cpos) env = (do
      let ov ← attributeBase (.Call (.Name "super" p0) [] [] p1) m env (eval (.Call (.Name "super" p0) [] [] p1) env)
      standAt apos.atName
      let (f, first) ← holding [ov] (getMethod ov m pl)
      callWith cpos f first (backTo cpos (starEach (e :: es) env)) []))
    (hbody : ∀ (A : Around) (outer : List PySem.Env) (s : Shared) (H : Hp) (vs : List V) (Q : VK) (E : XK), Room k (A.deeper (PySem.W.ksEnv qual scope s.heap.objs.size f (.ref cda) cc)) → sp vs H Q E → ∃ x dx fs, (L2.start N vs)[0]? = some (some (.ref x)) ∧ H x = some (.ins C dx fs) ∧
      wpA (cxS P w K mg base N qual scope f (.ref cda) cc A outer s H) (e :: es) (L2.start N vs) H fun ws H1 => spB (.ref x :: ws) H1 (fun v H2 => wpSs (cxS P w K mg base N qual scope f (.ref cda) cc A outer s H) rest { nx := fun _ H' => Q .non H', rt := Q } (L2.start N vs) H2) (fun _ _ _ => False)) :
    FnOk P w K mg base CX0 (k + 1) f (PySem.W.ksFn name qual params (.Expr (.Call (.Attribute (.Call (.Name "super" p0) [] [] p1) m apos) (e :: es) [] cpos) spos :: rest) scope dV kV doc pm an (.ref cda) ct cc) ps sp := by
  refine ⟨len, fun A outer s H args us vs Q E hr e0 hb r hsp => ?_⟩
  have hl := len _ _ _ _ hsp
  have KX : K.In s.heap := e0.mod.kin.keeps fun b o e => (e0.bs b o e).1
  have lim : s.heap.NoLimit := e0.mod.nolimit.keeps fun b o e => (e0.bs b o e).1
  obtain ⟨cl, cld, csl, lcell⟩ := F.cell
  refine PySem.ks_codeAny_call_defAt (binds := ps.zip us) hr.depth (KX _ _ lk) rfl lim (PySem.W.codeRec_of KX hcd) rfl hb S.nocell (fun y hy => S.par y.1 (List.of_mem_zip hy).1) (fun h₀ hns hk => ?_) S.co S.gen S.kind
  have I := inv_startS (P := P) (w := w) (K := K) (mg := mg) (base := base) (qual := qual) (f := f) (cd := .ref cda) S hr.hd e0 hl r lcell (tk := s.toks + (ps.zip us).length) hns hk
  obtain ⟨x, dx, fs, h1, h2, h3⟩ := hbody A outer s H vs Q E (hr.deeper _) hsp
  have fin : ∀ {σ' : L2.St} {H' : Hp} {v : V} {u : Value} {s' : Shared}, Inv (cxS P w K mg base N qual scope f (.ref cda) cc A outer s H) [] σ' H' s' → RelV v u → Q v H' → CE outer P w H s Q u s' :=
    fun {σ' H' v u s'} J rv q => ⟨v, H', J.os, J.bare, J.base, J.hok, rv, q⟩
  refine PySem.ks_wpAt_mono (Q := fun (fl : Flow) s' => match fl with
    | .ret u => ∃ v σ' H', Inv (cxS P w K mg base N qual scope f (.ref cda) cc A outer s H) [] σ' H' s' ∧ RelV v u ∧ Q v H'
    | .next => ∃ σ' H', Inv (cxS P w K mg base N qual scope f (.ref cda) cc A outer s H) [] σ' H' s' ∧ Q .non H'
    | _ => False) (E := fun _ _ => False) ?_ (fun fl s' hs => ?_) fun e s' hs => hs.elim
  · refine PySem.ks_wpAt_execs_cons (PySem.ks_wpAt_Expr_any (PySem.ks_wpAt_mono (at_super (X := cxS P w K mg base N qual scope f (.ref cda) cc A outer s H) (qual := qual) (scope := scope) (L := s.heap.objs.size) F G (hr.deeper _) rfl rfl ⟨S.sup, S.cls⟩ hself hN I h1 h2 hm h3 (he _) (hpl _) (ht _)) (fun v s' hv => ?_) fun _ _ z => z) (hint _) (hsw _))
    obtain ⟨y, H2, I2, ry, q⟩ := hv
    refine PySem.wpAt_of_wpAny (wpAny_mono (q [] s' I2) (fun fl s'' hs => ?_) fun _ _ z => z)
    cases fl with
    | ret u => exact hs
    | next => exact hs
    | brk => obtain ⟨_, _, _, q⟩ := hs; exact q.elim
    | cont => obtain ⟨_, _, _, q⟩ := hs; exact q.elim
  · cases fl with
    | ret u => obtain ⟨v, σ', H', J, rv, q⟩ := hs; exact fin J rv q
    | next => obtain ⟨σ', H', J, q⟩ := hs; exact fin (v := V.non) (u := Value.none) J rfl q
    | brk => exact hs.elim
    | cont => exact hs.elim
end
end K76
set_option maxRecDepth 100000
set_option maxHeartbeats 4000000
namespace K76
open PySem PySem.Spec PyProof.Rows L2
section
variable {X : Cx} {ρ : Env} {a : Expr} {pos np : Pos}
/-- isinstance(a, (list, tuple)), a an instance of an own class -/
structure IsNo (X : Cx) (c : Str) : Prop where
  ok : ∃ C, X.mg c = some (.ref C) ∧ PySem.W.kitAny X.K (.ref C) [.type "list", .type "tuple"] = some false ∧ ∀ H l dx fvs, H l = some (.ins C dx fvs) → TyX X.K H (.ref l) (.ref C)
theorem d_isNo {c : Str} {fs : List (Str × D)} {p1 p2 tp : Pos} {tk} (hm : X.mg "isinstance" = none) (ha : DE X a ρ (.obj c fs)) (hT1 : X.mg "list" = none) (hT2 : X.mg "tuple" = none) (hc : IsNo X c)
    (hg : Gl X "isinstance" := by rfl) (hg1 : Gl X "list" := by rfl) (hg2 : Gl X "tuple" := by rfl)
    (he : starEach (a :: [.Tuple [.Name "list" p1, .Name "tuple" p2] tk tp]) X.env = (false, eval a X.env) :: starEach [.Tuple [.Name "list" p1, .Name "tuple" p2] tk tp] X.env := by rfl) (hpl : (backTo pos (starEach [.Tuple [.Name "list" p1, .Name "tuple" p2] tk tp] X.env)).any (·.1) = false := by rfl)
    (he2 : starEach (.Tuple [.Name "list" p1, .Name "tuple" p2] tk tp :: []) X.env = (false, eval (.Tuple [.Name "list" p1, .Name "tuple" p2] tk tp) X.env) :: starEach [] X.env := by rfl)
    (hs1 : starEach (.Name "list" p1 :: [.Name "tuple" p2]) X.env = (false, eval (.Name "list" p1) X.env) :: starEach [.Name "tuple" p2] X.env := by rfl) (hs2 : starEach (.Name "tuple" p2 :: []) X.env = (false, eval (.Name "tuple" p2) X.env) :: starEach [] X.env := by rfl) : DE X (.Call (.Name "isinstance" np) [a, .Tuple [.Name "list" p1, .Name "tuple" p2] tk tp] [] pos) ρ (.bl false) := fun σ Hb H E Q q =>
  ofE (pe_callB call_isiT hg hm (by decide +kernel) (pa_cons (peE (e := a)) (pa_cons (pe_tup (pa_cons (pe_bltn (v := .ty "list") hg1 hT1 (by decide +kernel) rfl (by decide) (by decide)) (pa_cons (pe_bltn (v := .ty "tuple") hg2 hT2 (by decide +kernel) rfl (by decide) (by decide)) pa_nil hs2) hs1)) pa_nil he2) he) (by decide) (by decide) he hpl) (ha σ Hb H E _ fun v Hb2 H2 n r1' => by
    obtain ⟨C, h1, h2, h3⟩ := hc.ok
    obtain ⟨l, C', dx, fvs, rfl, hm', hh, rf⟩ := r1'.obj_inv
    rw [h1] at hm'
    cases hm'
    refine ⟨(show 2 ≤ sizeLine by decide), fun p hp => ⟨.ref l, p, [.ty "list", .ty "tuple"], .ref C, [.type "list", .type "tuple"], false, rfl, upd_same, .cons (.ty "list") (.cons (.ty "tuple") .nil), h3 _ l dx fvs ?_, h2, q _ Hb2 _ (n.trans (Nw.more n.i hp)) (.bl false)⟩⟩
    rw [upd_ne (ne_of_none (n.i _ _ hh) hp)]
    exact n.i _ _ hh)
end
end K76
set_option maxRecDepth 100000
set_option maxHeartbeats 4000000
namespace K76
open PySem PySem.Spec PyProof.Rows L2
/-! ### x = [.. for ..]: bound while the comprehension still stands -/
structure LJ (X : Cx) (elt tg iter : Expr) (ifs : List Expr) (scope : Scope) (own : List (Str × Nat)) (p : Pat) (ρ : Env) (ds : List D) : Prop where
  ok : BlkOk X.N X.env.scope scope own
  hg : Blk X scope fun X' => PG X' tg (gPat X'.K p)
  hs : ∀ x, foldedSetIterable iter X.env x = pure x
  run : ∀ σ Hb H, En X.K X.mg ρ σ Hb H → ∀ Q : VK, (∀ l vs Hb2 H2, Nw Hb H Hb2 H2 → H l = none → Hb2 l = none → H2 l = some (.lst vs) → Reps X.K X.mg Hb2 vs ds → Q (.ref l) H2) → tLc (wpI X tg iter) (gPat X.K p) (uTs X scope ifs) (uE X scope elt) (own.map (·.2)) σ H Q
structure LJ2 (X : Cx) (elt tg iter : Expr) (ifs : List Expr) (tg1 iter1 : Expr) (ifs1 : List Expr) (scope : Scope) (own : List (Str × Nat)) (p p1 : Pat) (ρ : Env) (ds : List D) : Prop where
  ok : BlkOk X.N X.env.scope scope own
  hv : ∀ i ∈ p1.slots, i ∈ own.map (·.2)
  hg : Blk X scope fun X' => PG X' tg (gPat X'.K p)
  hg1 : Blk X scope fun X' => PG X' tg1 (gPat X'.K p1)
  hs : ∀ x, foldedSetIterable iter X.env x = pure x
  hs1 : ∀ env x, foldedSetIterable iter1 env x = pure x
  run : ∀ σ Hb H, En X.K X.mg ρ σ Hb H → ∀ Q : VK, (∀ l vs Hb2 H2, Nw Hb H Hb2 H2 → H l = none → Hb2 l = none → H2 l = some (.lst vs) → Reps X.K X.mg Hb2 vs ds → Q (.ref l) H2) → tLc2 (wpI X tg iter) (gPat X.K p) (uTs X scope ifs) (uI X scope tg1 iter1) (gPat X.K p1) (uTs X scope ifs1) (uE X scope elt) (own.map (·.2)) p1.slots σ H Q
structure DJ (X : Cx) (kx vx tg iter : Expr) (ifs : List Expr) (scope : Scope) (own : List (Str × Nat)) (p : Pat) (ρ : Env) (kvs : List (Int × D)) : Prop where
  ok : BlkOk X.N X.env.scope scope own
  hg : Blk X scope fun X' => PG X' tg (gPat X'.K p)
  hs : ∀ x, foldedSetIterable iter X.env x = pure x
  run : ∀ σ Hb H, En X.K X.mg ρ σ Hb H → ∀ Q : VK, (∀ v Hb2 H2, Nw Hb H Hb2 H2 → Rep X.K X.mg Hb2 v (.dct kvs) → Q v H2) → tDc (wpI X tg iter) (gPat X.K p) (uTs X scope ifs) (uE X scope kx) (uE X scope vx) (own.map (·.2)) σ H Q
section
variable {X : Cx} {ρ : Env} {elt tg iter c kx vx tg1 iter1 : Expr} {ifs ifs1 : List Expr} {scope : Scope} {ds : List D} {k : Out → Prop} {kvs : List (Int × D)}
theorem LJ.eq {own : List (Str × Nat)} {p : Pat} {es : List D} (h : LJ X elt tg iter ifs scope own p ρ ds) (e : ds = es) : LJ X elt tg iter ifs scope own p ρ es := e ▸ h
theorem LJ2.eq {own : List (Str × Nat)} {p p1 : Pat} {es : List D} (h : LJ2 X elt tg iter ifs tg1 iter1 ifs1 scope own p p1 ρ ds) (e : ds = es) : LJ2 X elt tg iter ifs tg1 iter1 ifs1 scope own p p1 ρ es := e ▸ h
theorem j_lcA {α : Type} {xs : List α} {enc : α → D} {t : α → Bool} {f : α → D} {p : Pat} (own : List (Str × Nat)) (hN : X.N.Nodup) (hi : DI X tg iter ρ (xs.map enc)) (ok : BlkOk X.N X.env.scope scope own)
    (hg : Blk X scope fun X' => PG X' tg (gPat X'.K p)) (hp : ∀ i ∈ p.slots, i ∈ own.map (·.2)) (hl : xs.length ≤ 1000000)
    (body : ∀ x ∈ xs, ∃ ρ', bindP p (enc x) (wipeR ρ (own.map (·.2))) = some ρ' ∧ (Blk X scope fun X' => DTs X' ifs ρ' (t x)) ∧ (t x = true → Blk X scope fun X' => DE X' elt ρ' (f x)))
    (hs : ∀ x, foldedSetIterable iter X.env x = pure x := by intro _; rfl) : LJ X elt tg iter ifs scope own p ρ ((xs.filter t).map f) := ⟨ok, hg, hs, lcR own hN hi ok hg hp body hl⟩
theorem j_lc {α : Type} {xs : List α} {enc : α → D} {f : α → D} {p : Pat} (own : List (Str × Nat)) (hN : X.N.Nodup) (hi : DI X tg iter ρ (xs.map enc)) (ok : BlkOk X.N X.env.scope scope own)
    (hg : Blk X scope fun X' => PG X' tg (gPat X'.K p)) (hp : ∀ i ∈ p.slots, i ∈ own.map (·.2)) (hl : xs.length ≤ 1000000)
    (body : ∀ x ∈ xs, ∃ ρ', bindP p (enc x) (wipeR ρ (own.map (·.2))) = some ρ' ∧ (Blk X scope fun X' => DE X' elt ρ' (f x)))
    (hs : ∀ x, foldedSetIterable iter X.env x = pure x := by intro _; rfl) : LJ X elt tg iter [] scope own p ρ (xs.map f) :=
  (j_lcA (t := fun _ => true) own hN hi ok hg hp hl (fun x hx => let ⟨ρ', e1, e2⟩ := body x hx; ⟨ρ', e1, fun _ _ _ _ _ => ts_nil, fun _ => e2⟩) hs).eq (by rw [List.filter_eq_self.mpr fun _ _ => rfl])
theorem j_lcIf {α : Type} {xs : List α} {enc : α → D} {t : α → Bool} {f : α → D} {p : Pat} (own : List (Str × Nat)) (hN : X.N.Nodup) (hi : DI X tg iter ρ (xs.map enc)) (ok : BlkOk X.N X.env.scope scope own)
    (hg : Blk X scope fun X' => PG X' tg (gPat X'.K p)) (hp : ∀ i ∈ p.slots, i ∈ own.map (·.2)) (hl : xs.length ≤ 1000000)
    (body : ∀ x ∈ xs, ∃ ρ', bindP p (enc x) (wipeR ρ (own.map (·.2))) = some ρ' ∧ (Blk X scope fun X' => DT X' c ρ' (t x)) ∧ (t x = true → Blk X scope fun X' => DE X' elt ρ' (f x)))
    (hs : ∀ x, foldedSetIterable iter X.env x = pure x := by intro _; rfl) : LJ X elt tg iter [c] scope own p ρ ((xs.filter t).map f) :=
  j_lcA own hN hi ok hg hp hl (fun x hx => let ⟨ρ', e1, e2, e3⟩ := body x hx; ⟨ρ', e1, fun s H C cl fp => ts_one (e2 s H C cl fp), e3⟩) hs
theorem j_lc2 {α β : Type} {xs : List α} {enc : α → D} {t : α → Bool} {ys : α → List β} {enc1 : β → D} {t1 : α → β → Bool} {f : α → β → D} {p p1 : Pat} (own : List (Str × Nat)) (hN : X.N.Nodup) (hi : DI X tg iter ρ (xs.map enc)) (ok : BlkOk X.N X.env.scope scope own)
    (hg : Blk X scope fun X' => PG X' tg (gPat X'.K p)) (hg1 : Blk X scope fun X' => PG X' tg1 (gPat X'.K p1)) (hp : ∀ i ∈ p.slots, i ∈ own.map (·.2)) (hp1 : ∀ i ∈ p1.slots, i ∈ own.map (·.2))
    (body : ∀ x ∈ xs, ∃ ρ', bindP p (enc x) (wipeR ρ (own.map (·.2))) = some ρ' ∧ (Blk X scope fun X' => DTs X' ifs ρ' (t x)) ∧ (t x = true → (Blk X scope fun X' => DI X' tg1 iter1 ρ' ((ys x).map enc1)) ∧
      ∀ y ∈ ys x, ∃ ρ2, bindP p1 (enc1 y) (wipeR ρ' p1.slots) = some ρ2 ∧ (Blk X scope fun X' => DTs X' ifs1 ρ2 (t1 x y)) ∧ (t1 x y = true → Blk X scope fun X' => DE X' elt ρ2 (f x y))))
    (hl : ((xs.filter t).flatMap ys).length ≤ 1000000) (hs : ∀ x, foldedSetIterable iter X.env x = pure x := by intro _; rfl) (hs1 : ∀ env x, foldedSetIterable iter1 env x = pure x := by intro _ _; rfl) :
    LJ2 X elt tg iter ifs tg1 iter1 ifs1 scope own p p1 ρ ((xs.filter t).flatMap fun x => ((ys x).filter (t1 x)).map (f x)) := ⟨ok, hp1, hg, hg1, hs, hs1, lc2R own hN hi ok hg hg1 hp hp1 body hl⟩
theorem j_dcA {α : Type} {xs : List α} {enc : α → D} {t : α → Bool} {kf : α → Int} {vf : α → D} {p : Pat} (own : List (Str × Nat)) (hN : X.N.Nodup) (hi : DI X tg iter ρ (xs.map enc)) (ok : BlkOk X.N X.env.scope scope own)
    (hg : Blk X scope fun X' => PG X' tg (gPat X'.K p)) (hp : ∀ i ∈ p.slots, i ∈ own.map (·.2)) (hl : xs.length ≤ 1000000)
    (body : ∀ x ∈ xs, ∃ ρ', bindP p (enc x) (wipeR ρ (own.map (·.2))) = some ρ' ∧ (Blk X scope fun X' => DTs X' ifs ρ' (t x)) ∧ (t x = true → Blk X scope fun X' => DE X' kx ρ' (.int (kf x))) ∧ (t x = true → Blk X scope fun X' => DE X' vx ρ' (vf x)))
    (hs : ∀ x, foldedSetIterable iter X.env x = pure x := by intro _; rfl) : DJ X kx vx tg iter ifs scope own p ρ ((xs.filter t).foldl (fun acc x => putI acc (kf x) (vf x)) []) := ⟨ok, hg, hs, dcR own hN hi ok hg hp hl body⟩
theorem j_dc {α : Type} {xs : List α} {enc : α → D} {kf : α → Int} {vf : α → D} {p : Pat} (own : List (Str × Nat)) (hN : X.N.Nodup) (hi : DI X tg iter ρ (xs.map enc)) (ok : BlkOk X.N X.env.scope scope own)
    (hg : Blk X scope fun X' => PG X' tg (gPat X'.K p)) (hp : ∀ i ∈ p.slots, i ∈ own.map (·.2)) (hl : xs.length ≤ 1000000)
    (body : ∀ x ∈ xs, ∃ ρ', bindP p (enc x) (wipeR ρ (own.map (·.2))) = some ρ' ∧ (Blk X scope fun X' => DE X' kx ρ' (.int (kf x))) ∧ (Blk X scope fun X' => DE X' vx ρ' (vf x)))
    (hs : ∀ x, foldedSetIterable iter X.env x = pure x := by intro _; rfl) : DJ X kx vx tg iter [] scope own p ρ (xs.foldl (fun acc x => putI acc (kf x) (vf x)) []) := by
  have := j_dcA (t := fun _ => true) own hN hi ok hg hp hl (fun x hx => let ⟨ρ', e1, e2, e3⟩ := body x hx; ⟨ρ', e1, fun _ _ _ _ _ => ts_nil, fun _ => e2, fun _ => e3⟩) hs
  rwa [List.filter_eq_self.mpr fun _ _ => rfl] at this
end
section
variable {X : Cx} {i : Nat} {y : Str} {py : Pos} {kx vx tg iter : Expr} {ifs : List Expr} {scope : Scope} {own : List (Str × Nat)} {pos spos : Pos} {wi : TI} {g : TG} {tt : TT} {tk tv : TE}
theorem sw_trueD {ky ve : Expr} {gs : List Comprehension} {scope : Scope} {pos py : Pos} {y : Str} {l : Nat} {env : PySem.Env} (hk : env.scope.kind = .function) (hy : env.scope.names.lookup y = some .local) (hl : (py.line == pos.line) = true)
    (ha : (scope.names.any fun (n, k) => n == y && (k == .local || k == .cell)) = false) : swapsWith (.DictComp ky ve gs scope pos) (some (.Name y py)) l env = pure true := by
  have ky : env.kindOf y = some .local := hy
  have hb : env.blockKind = .function := by unfold PySem.Env.blockKind; rw [hk]; rfl
  unfold swapsWith
  simp only [hb, ky, ha, Expr.pos, hl]
  rfl
theorem ps_setDc (hc : X.calm = true) (hN : X.N.Nodup) (hy : X.N[i]? = some y) (hyl : X.env.scope.names.lookup y = some .local)
    (hsw : swapsWith (.DictComp kx vx [⟨tg, iter, ifs, 0⟩] scope pos) (some (.Name y py)) spos.line X.env = pure true) (hi : PI X tg iter wi) (ok : BlkOk X.N X.env.scope scope own)
    (hg : ∀ (s : Shared) (H : Hp) (C : Addr) (cl : List (Str × Addr)) (fp : List Addr), PG (X.blk s H scope (compEnvC scope cl C X.env) fp) tg g) (ht : ∀ (s : Shared) (H : Hp) (C : Addr) (cl : List (Str × Addr)) (fp : List Addr), PTs (X.blk s H scope (compEnvC scope cl C X.env) fp) ifs tt)
    (hk : ∀ (s : Shared) (H : Hp) (C : Addr) (cl : List (Str × Addr)) (fp : List Addr), PE (X.blk s H scope (compEnvC scope cl C X.env) fp) kx tk)
    (he : ∀ (s : Shared) (H : Hp) (C : Addr) (cl : List (Str × Addr)) (fp : List Addr), PE (X.blk s H scope (compEnvC scope cl C X.env) fp) vx tv) (hs : ∀ x, foldedSetIterable iter X.env x = pure x := by intro _; rfl) :
    PS X (.Assign [.Name y py] (.DictComp kx vx [⟨tg, iter, ifs, 0⟩] scope pos) spos) (tAsg (tDc wi g tt tk tv (own.map (·.2))) (gName i)) := by
  refine ⟨fun pins s σ H D I h => ?_⟩
  rw [exec_Assign_Name_used _ _ _ _ hsw]
  refine wpAny_bind (wpAny_standAt (wpAny_bind ?_))
  show wpAny _ X.A (do let _ ← comprehension (.DictComp kx vx [⟨tg, iter, ifs, 0⟩] scope pos) scope X.env (firstIterPos [⟨tg, iter, ifs, 0⟩] pos) newDict false (eval iter X.env) (some (assign (.Name y py) X.env))) _ _ s
  have h : tDc wi g tt tk tv (own.map (·.2)) σ H (fun x H1 => gName i x σ H1 D.nx) := h
  refine wpAny_bind (thn (dc_core (Qf := fun _ s' => SP X pins D .next s') hc hN I hi ok hg ht hk he hs h fun L C s' m H' I' q hn f => ?_) fun _ s' hq => wpAny_pure (wpAny_pure hq))
  show wpAny _ _ (assign (.Name y py) X.env (.ref L)) _ _ _
  refine wpAny_assign_Name (store_ok2 (v := V.ref L) I' hN hy (.inl hyl) rfl (fun s2 I2 ⟨a, sb, ha⟩ => ?_) (.inr hyl))
  obtain ⟨f0, f1, f2, f3, f4, f5⟩ := f
  have haC : C ≠ a := by
    rcases ha with z | z
    · rw [z]; exact f1
    · exact fun e => f4 y a z e.symm
  refine ⟨m, hn.sameBut sb haC, fun h3 sb3 => ?_⟩
  exact ⟨_, H', I2.turned (t' := s2.toks) (fun b o hb e => (sb3.2 b hb).trans e) f0 f1 f3 f4 f5, q⟩
end
section
variable {X : Cx} {ρ : Env} {elt tg iter c kx vx tg1 iter1 : Expr} {ifs ifs1 : List Expr} {scope : Scope} {ds : List D} {k : Out → Prop} {kvs : List (Int × D)} {x : Str} {pos pos' spos : Pos} {own : List (Str × Nat)} {p p1 : Pat}
abbrev uuE (X : Cx) (scope : Scope) (e : Expr) (s : Shared) (H : Hp) (C : Addr) (cl : List (Str × Addr)) (fp : List Addr) : PE (X.blk s H scope (compEnvC scope cl C X.env) fp) e (uE X scope e) := ⟨fun pins s1 σ H1 Q I h => h s H C cl fp pins s1 I⟩
/-- the name then holds a list that may be shared -/
theorem s_setLc (i : Nat) (hN : X.N.Nodup) (h : LJ X elt tg iter ifs scope own p ρ ds) (hk : k (.nx (ρ.set i (some (.val (.lst ds)))))) (hi : X.N[i]? = some x := by rfl) (hx : X.env.scope.names.lookup x = some .local := by rfl) (hs : swapsWith (.ListComp elt [⟨tg, iter, ifs, 0⟩] scope pos) (some (.Name x pos')) spos.line X.env = pure true := by exact sw_true rfl rfl rfl rfl) (hc : X.calm = true := by rfl) :
    DS X (.Assign [.Name x pos'] (.ListComp elt [⟨tg, iter, ifs, 0⟩] scope pos) spos) ρ k := fun Hb0 H0 σ Hb H s D r =>
  ofS (ps_setLc hc hN hi hx hs peI h.ok h.hg (fun s H C cl fp => ⟨fun pins s1 σ H1 Q I h => h s H C cl fp pins s1 I⟩) (uuE X scope elt) h.hs) (h.run σ Hb H s.en _ fun l vs Hb2 H2 n hl hb hv rv => by
    have n2 : Nw Hb H (upd Hb2 l (.lst vs)) H2 := n.tell hl hb hv
    exact r _ hk _ _ H2 ((s.mono n2).set_val (.lst upd_same (rv.mono (sm_new hb)))))
/-- .. a list of one's own -/
theorem s_setLcW (i : Nat) (hN : X.N.Nodup) (h : LJ X elt tg iter ifs scope own p ρ ds) (hk : k (.nx (ρ.set i (some (.ml ds))))) (hi : X.N[i]? = some x := by rfl) (hx : X.env.scope.names.lookup x = some .local := by rfl) (hs : swapsWith (.ListComp elt [⟨tg, iter, ifs, 0⟩] scope pos) (some (.Name x pos')) spos.line X.env = pure true := by exact sw_true rfl rfl rfl rfl) (hc : X.calm = true := by rfl) :
    DS X (.Assign [.Name x pos'] (.ListComp elt [⟨tg, iter, ifs, 0⟩] scope pos) spos) ρ k := fun Hb0 H0 σ Hb H s D r =>
  ofS (ps_setLc hc hN hi hx hs peI h.ok h.hg (fun s H C cl fp => ⟨fun pins s1 σ H1 Q I h => h s H C cl fp pins s1 I⟩) (uuE X scope elt) h.hs) (h.run σ Hb H s.en _ fun l vs Hb2 H2 n hl hb hv rv => r _ hk _ Hb2 H2 (s.own_new n (fun _ z => nomatch z) hl hb ⟨vs, hv, rv⟩))
theorem s_setLc2 (i : Nat) (hN : X.N.Nodup) (h : LJ2 X elt tg iter ifs tg1 iter1 ifs1 scope own p p1 ρ ds) (hk : k (.nx (ρ.set i (some (.val (.lst ds)))))) (hi : X.N[i]? = some x := by rfl) (hx : X.env.scope.names.lookup x = some .local := by rfl) (hs : swapsWith (.ListComp elt [⟨tg, iter, ifs, 0⟩, ⟨tg1, iter1, ifs1, 0⟩] scope pos) (some (.Name x pos')) spos.line X.env = pure true := by exact sw_true rfl rfl rfl rfl) (hc : X.calm = true := by rfl) :
    DS X (.Assign [.Name x pos'] (.ListComp elt [⟨tg, iter, ifs, 0⟩, ⟨tg1, iter1, ifs1, 0⟩] scope pos) spos) ρ k := fun Hb0 H0 σ Hb H s D r =>
  ofS (ps_setLc2 hc hN hi hx hs peI h.ok h.hv h.hg (fun s H C cl fp => ⟨fun pins s1 σ H1 Q I h => h s H C cl fp pins s1 I⟩) (fun s H C cl fp => ⟨fun pins s1 σ H1 Q I h => h s H C cl fp pins s1 I⟩) h.hg1 (fun s H C cl fp => ⟨fun pins s1 σ H1 Q I h => h s H C cl fp pins s1 I⟩) (uuE X scope elt) h.hs h.hs1) (h.run σ Hb H s.en _ fun l vs Hb2 H2 n hl hb hv rv => by
    have n2 : Nw Hb H (upd Hb2 l (.lst vs)) H2 := n.tell hl hb hv
    exact r _ hk _ _ H2 ((s.mono n2).set_val (.lst upd_same (rv.mono (sm_new hb)))))
theorem s_setDc (i : Nat) (hN : X.N.Nodup) (h : DJ X kx vx tg iter ifs scope own p ρ kvs) (hk : k (.nx (ρ.set i (some (.val (.dct kvs)))))) (hi : X.N[i]? = some x := by rfl) (hx : X.env.scope.names.lookup x = some .local := by rfl) (hs : swapsWith (.DictComp kx vx [⟨tg, iter, ifs, 0⟩] scope pos) (some (.Name x pos')) spos.line X.env = pure true := by exact sw_trueD rfl rfl rfl rfl) (hc : X.calm = true := by rfl) :
    DS X (.Assign [.Name x pos'] (.DictComp kx vx [⟨tg, iter, ifs, 0⟩] scope pos) spos) ρ k := fun Hb0 H0 σ Hb H s D r =>
  ofS (ps_setDc hc hN hi hx hs peI h.ok h.hg (fun s H C cl fp => ⟨fun pins s1 σ H1 Q I h => h s H C cl fp pins s1 I⟩) (uuE X scope kx) (uuE X scope vx) h.hs) (h.run σ Hb H s.en _ fun v Hb2 H2 n rv => r _ hk _ Hb2 H2 ((s.mono n).set_val rv))
end
end K76
set_option maxRecDepth 100000
set_option maxHeartbeats 4000000
namespace K76
open PySem PySem.Spec PyProof.Rows L2
section
variable {P : Program} {w : World} {K : PySem.W.Frag} {mg : Str → Option Value} {base : Heap}
theorem bodyI {N : List Str} {qual c : Str} {body : List Stmt} {scope : Scope} {f : Addr} {R : List D → List (Str × D) → Prop} {cdv : Value} {A : Around} {outer : List PySem.Env} {s : Shared} {H : Hp} {vs : List V} {Q : VK} {E : XK}
    (hb : ∀ l ds fs, R ds fs → DSs (Cxf P w K mg base N qual scope f cdv A outer s H E) body (startI N l c [] ds) (retI l c fs)) (h : spI K mg c R vs H Q E) :
    ∃ t, PSs (cxOf CX0 P w K mg base N qual scope f cdv A outer s H E) body t ∧ t { nx := fun _ H' => Q .non H', rt := Q } (L2.start N vs) H := by
  obtain ⟨l, C, dx, us, Hb, ds, fs, rfl, hm, hs, hbl, hl, r, hR, q⟩ := h
  refine ⟨_, PSs.nox peSs, ?_⟩
  refine hb l ds fs hR Hb (er H l) (L2.start N (.ref l :: us)) Hb H (so_startI hs hbl hm hl .nil r) _ fun o ho => ?_
  cases o with
  | nx ρ =>
    refine fun σ Hb2 H2 so => ?_
    obtain ⟨l', e1, e2, e3, C', dx', fvs, e4, e5, e6⟩ := so.en.own 0 _ ho (fun _ z => nomatch z)
    subst e3
    exact q C' dx' fvs Hb2 H2 e4 (so.left e2) e2 e5 e6
  | _ => exact ho.elim
/-- def __init__(self, a, *rest) -/
theorem fnR_star {qual c p0 p1 pv : Str} {params : Arguments} {body : List Stmt} {scope : Scope} {kws : List (Str × V)} {f : Addr} {fd : FuncData} {N : List Str} {k : Nat} {R : List D → List (Str × D) → Prop} (F : FunD K "__init__" qual params body scope [] kws f fd) (S : FnScope N [p0, p1, pv] scope)
    (hb : ∀ (kV doc pm : Value) (an : Option Addr) (cdv ct : Value) (us rest : List Value), us.length = 2 → bindArgs (PySem.W.fnOf "__init__" qual params body scope .none kV doc pm an cdv ct) ⟨us ++ rest, []⟩ = (newTuple rest >>= fun t => pure ([p0, p1].zip us ++ [(pv, t)])))
    (hbody : ∀ (cdv : Value) (A : Around) (outer : List PySem.Env) (s : Shared) (H : Hp) (E : XK), Room k (Cxf P w K mg base N qual scope f cdv A outer s H E).A → ∀ l ds fs, R ds fs → DSs (Cxf P w K mg base N qual scope f cdv A outer s H E) body (startI N l c [] ds) (retI l c fs)) :
    FnR P w K mg base CX0 (k + 1) f (fun vs H Q E => ∃ ws rest, vs = ws ++ rest ∧ ws.length = 2 ∧ rest.length ≤ sizeLine ∧ ∀ p, H p = none → spI K mg c R (ws ++ [V.ref p]) (upd H p (.tup rest)) Q E) := by
  obtain ⟨oc, od, dV, kV, doc, pm, an, cdv, ct, osl, rfl, lk, hcd, hD, hK⟩ := F.ex
  rcases hD with ⟨_, rfl⟩ | ⟨e, _⟩
  · exact StX.fn_star (ps := [p0, p1]) (pv := pv) lk hcd S StX.cxUp_none (fun us rest h => hb kV doc pm an cdv ct us rest h) fun A outer s H vs Q E hr hsp => bodyI (hbody cdv A outer s H E hr) hsp
  · exact absurd rfl e
theorem So.calledI {ρ : Env} {σ : L2.St} {Hb0 H0 Hb H Hb2 H2 : Hp} {i : Nat} {l C dx : Addr} {c : Str} {fs fs' : List (Str × D)} {fvs : List (Str × V)} (h : So K mg Hb0 H0 ρ σ Hb H) (hi : ρ[i]? = some (some (.ins l c fs))) (hl : σ[i]? = some (some (.ref l))) (n : Nw Hb (er H l) Hb2 (er H2 l)) (hb : Hb2 l = none) (hm : mg c = some (.ref C)) (h2 : H2 l = some (.ins C dx fvs)) (r : RepF K mg Hb2 fvs fs') :
    So K mg Hb0 H0 (ρ.set i (some (.ins l c fs'))) σ Hb2 H2 := by
  obtain ⟨l', e1, e2, e3, C', dx', fvs', m', hv, rv⟩ := h.en.own i _ hi (fun _ z => nomatch z)
  subst e3
  have nn : Nw Hb H Hb2 (upd H2 l' (.ins C' dx' fvs')) := n.back hb e2 hv (fun _ z => nomatch z)
  have s1 := h.mono nn
  have e : upd (upd H2 l' (.ins C' dx' fvs')) l' (.ins C dx fvs) = H2 := by
    funext a
    by_cases e : a = l'
    · subst e; rw [upd_same, h2]
    · rw [upd_ne e, upd_ne e]
  have := s1.chg (y := .ins l' c fs') (o := .ins C dx fvs) hi (fun _ z => nomatch z) (fun _ z => nomatch z) hl (by rw [e]; exact ⟨rfl, C, dx, fvs, hm, h2, r⟩)
  rwa [e] at this
end
end K76
set_option maxRecDepth 100000
set_option maxHeartbeats 4000000
namespace K76L
open PySem PySem.Spec PySem.Calls PyProof.Rows PyProof.V PySem.W
/-! ### sorted(d, key=f): the keys of a dict -/
section
variable {prog : Program} {w : World} {A : Around} {E : Value → Shared → Prop} {s : Shared} {d fa : Addr} {T : String} {r : Addr} {n : Nat} {P : Nat → Value → Prop} {OK : Heap → Prop} {β : Type} {bs : List β} {R : Value → β → Prop}
theorem sorted_src_key {Q : Value → Shared → Prop} (k : β → PyData) (K : KdlSrc prog w T r d n P OK) (hh : A.handled = none) (hok : OK s.heap) (hn : n ≤ sizeLine)
    (each : ∀ acc : Array Value, ItemsOf P acc n → EachIs R acc.toList bs) (hal : AllAlike (bs.map k)) (hk : Sortable (bs.map k)) (hL : bs.length ≤ sizeLine)
    (hu : ∀ x, x ∈ bs → A.units + 2 + (k x).depth < cLine)
    (turn : ∀ (v : Value) (x : β), R v x → x ∈ bs → ∀ (h : Heap) (tk : Nat), (∀ b o, s.heap.get? b = some o → h.get? b = some o) →
      wpAny (model prog w) A.in1.in1 (call (.ref fa) [v]) (KeyPure (k x) { s with heap := h, toks := tk }) (fun _ _ => False) { s with heap := h, toks := tk })
    (h : ∀ (D : Addr) out c h' tk, (∀ b o, s.heap.get? b = some o → h'.get? b = some o) → s.heap.get? D = none → h'.get? D = some (seqObj "list" (List.toArray out) c) → out.length = bs.length → EachIs R out (bs.mergeSort (dataLe false k)) →
      Q (.ref D) { s with heap := h', toks := tk }) :
    wpAny (model prog w) A (call (.builtin "sorted") [.ref r] [(Str.ofString "key", .ref fa)]) Q E s := by
  refine call_function_entry_kw kind_sorted plain_sorted entry_sorted (ksk_s1 _ _) ?_
  unfold Builtin.«sorted»
  refine wpAny_bind (m := checkCount "sorted" 1 1 _) (wpAny_pure ?_)
  refine wpAny_bind (kdu_collect (A := A.in1) K hh hok hn fun h1 tk1 acc hk1 hacc => ?_)
  have e := each acc hacc
  have hl : acc.toList.length = bs.length := e.length
  refine wpAny_bind (wpAny_newList ?_ (by rw [hl]; exact hL))
  have at1 : (h1.push (seqObj "list" acc.toList.toArray 0)).get? h1.objs.size = some (seqObj "list" acc.toList.toArray 0) := Heap.get?_push_size _ rfl
  have up : ∀ {g : Heap}, KeepsBut h1.objs.size (h1.push (seqObj "list" acc.toList.toArray 0)) g → ∀ b o, s.heap.get? b = some o → g.get? b = some o := fun {g} kp b o q =>
    kp b o (Nat.ne_of_lt (Heap.lt_size (hk1 b o q))) (Heap.get?_push_of_some _ (hk1 b o q))
  refine wpAny_bind (wpAny_holding (wpAny_call_entry_kw slot_list_sort ⟨_, at1, rfl⟩ entry_list_sort ?body (ksk_l1 _ _)))
  case body =>
    show wpAny (model prog w) A.in1.in1 (Builtin.«list.sort» ⟨[.ref h1.objs.size], [(Str.ofString "key", .ref fa)]⟩) _ _ _
    rw [ksk_t1]
    refine keyH_tree (kz := bs.map k) (s := { s with heap := h1.push (seqObj "list" acc.toList.toArray 0), toks := tk1 }) (vs := acc.toList) at1 (by rw [List.length_map]; exact hl.symm) (by rw [hl]; exact hL) hal hk (bound_map (A := A.in1.in1) hu)
      (keyH_turns (s := { s with heap := h1.push (seqObj "list" acc.toList.toArray 0), toks := tk1 }) e fun v x hR hx g tk kp => turn v x hR hx g tk (up kp)) fun g tk out c kp hD ko => ?_
    exact ⟨_, rfl, wpAny_pure ⟨_, rfl, h h1.objs.size out c g tk (up kp) (by
      cases q : s.heap.get? h1.objs.size with
      | none => rfl
      | some o => exact absurd (Heap.lt_size (hk1 _ o q)) (Nat.lt_irrefl _)) hD ((ko.length (by rw [List.length_map]; exact hl.symm)).trans hl) (keyedOut_each k ko e)⟩⟩
end
/-! ### lambda x: d[x] -/
section
variable {prog : Program} {w : World} {A : Around} {s : Shared}
structure LamScope (scope : Scope) (nm ar : Str) : Prop where
  kind : scope.kind = .function
  co : scope.isCoroutine = false
  gen : scope.isGenerator = false
  nocell : ∀ y ∈ scope.names, y.2 ≠ .cell
  free : scope.names.lookup nm = some .free
  loc : scope.names.lookup ar = some .local
theorem lam_turn {fa c' cc Dd : Addr} {q nm ar : Str} {params : Arguments} {p1 p2 p3 : Pos} {scope : Scope} {clos : List (Str × Addr)} {pm ctv v' : Value} {vs : List (L2.Key × Value)} {x : Int} {t : Tok}
    (lk : s.heap.get? fa = some (kla_obj "<lambda>" q params (.Subscript (.Name nm p1) (.Name ar p2) p3) scope clos pm c' ctv)) (hcd : s.heap.CodeRec (.ref c') q) (S : LamScope scope nm ar)
    (hcl : clos.lookup nm = some cc) (hcell : s.heap.IsCell cc (some (.ref Dd))) (hd : s.heap.DictOf (L2.mixKind prog w) Dd vs) (hv : valueAt vs (Sum.inl x) = some v')
    (hb : ∀ us : List Value, us.length = 1 → bindArgs (kla_fn "<lambda>" q params (.Subscript (.Name nm p1) (.Name ar p2) p3) scope clos pm (.ref c') ctv) ⟨us, []⟩ = pure ([ar].zip us))
    (hr : A.depth < recursionLimit) (lim : s.heap.NoLimit) (hns : L2.NoSl (.Name ar p2)) (hd1 : (nm == ("__debug__" : Str)) = false) (hd2 : (ar == ("__debug__" : Str)) = false) (hd3 : (nm == ("__classdict__" : Str)) = false) :
    wpAny (model prog w) A (call (.ref fa) [.int x t]) (fun v s2 => v = v' ∧ ∃ h' tk, s2 = { s with heap := h', toks := tk } ∧ ∀ b o, s.heap.get? b = some o → h'.get? b = some o) (fun _ _ => False) s := by
  refine wpAny_call (codeAny_mono (R := fun r s2 => ∃ v, r = .ok (.ret v) ∧ v = v' ∧ ∃ h' tk, s2 = { s with heap := h', toks := tk } ∧ ∀ b o, s.heap.get? b = some o → h'.get? b = some o) ?_ fun r s' hq => ?_)
  · refine kla_callFunE hr lk rfl S.co S.gen rfl hcd ?_
    rw [hb _ rfl]
    refine wpAny_pure (wpAny_newFunctionEnv S.nocell (fun y hy => ?_) (fun h₁ hn1 hsb => ⟨lim.fresh _ hsb, ?_⟩) S.kind)
    · rw [List.mem_singleton.mp (show y ∈ [(ar, Value.int x t)] from hy)]
      exact S.loc
    have kp : ∀ b o, s.heap.get? b = some o → h₁.get? b = some o := fun b o e => hsb.extBut b o (Nat.ne_of_lt (Heap.lt_size e)) (Heap.get?_push_of_some _ e)
    refine kla_codeExpr ?_
    refine wpAny_mono (E := fun _ _ => False) (Q := fun v s2 => v = v' ∧ ∃ h' tk, s2 = { s with heap := h', toks := tk } ∧ ∀ b o, s.heap.get? b = some o → h'.get? b = some o) ?_ (fun v s' hq => ⟨v, rfl, hq⟩) fun _ _ z => z.elim
    have hdk : h₁.DictOf (L2.mixKind prog w) Dd vs := hd.keep kp
    refine L2.subD_of PySem.F.slot_dict_getitem.lookup hns ?_
    refine wpAny_Name (wpAny_loadName_free S.kind S.free hcl (v := .ref Dd) (let ⟨o, ho, hdd⟩ := hcell; ⟨o, kp _ _ ho, hdd⟩) ?_ hd3) hd1
    refine wpAny_Name (wpAny_loadName_local S.kind S.loc hn1 (v := .int x t) ?_ ?_) hd2
    · show ([(ar, Value.int x t)].reverse.lookup ar) = _
      simp [List.lookup]
    · refine ⟨hdk.typeIs, ?_⟩
      refine wpAny_getItem_of (knd := L2.mixKind prog w) (k := Sum.inl x) ?_ hdk.mapOf hv ⟨rfl, h₁, _, rfl, kp⟩
      exact L2.kV_is (k := Sum.inl x) (u := .int x t) ⟨t, rfl⟩
  · obtain ⟨v, rfl, hq⟩ := hq
    exact hq
end
end K76L
set_option maxRecDepth 100000
set_option maxHeartbeats 4000000
namespace K76
open PySem PySem.Spec PyProof.Rows L2 LamX
/-- the function that a lambda makes -/
def LamF (f : Addr) (q : Str) (params : Arguments) (body : Expr) (scope : Scope) (clos : List (Str × Addr)) (c' : Addr) : HO := .ext fun h => ∃ pm ctv, h.get? f = some (PySem.W.kla_obj "<lambda>" q params body scope clos pm c' ctv)
theorem lamF_ok {P : Program} {w : World} {H : Hp} {h : Heap} {f c' : Addr} {q : Str} {params : Arguments} {body : Expr} {scope : Scope} {clos : List (Str × Addr)} {pm ctv : Value} (e : h.get? f = some (PySem.W.kla_obj "<lambda>" q params body scope clos pm c' ctv)) : ObjOk P w H h f (LamF f q params body scope clos c') :=
  ⟨⟨pm, ctv, e⟩, ⟨_, e⟩, fun h1 h2 ⟨pm, ctv, x⟩ st => ⟨pm, ctv, st _ x⟩⟩
section
variable {X : Cx} {pins : List (Addr × Obj)} {σ : L2.St} {Hb H : Hp} {s : Shared}
/-- the lambda is made: its code object is new, or found in the table -/
theorem lam_make3 {c : Addr} {params : Arguments} {body : Expr} {scope : Scope} {pos : Pos} {E : Value → Shared → Prop} {Q : Value → Shared → Prop} (I : Inv X pins σ H s) (sm : Same Hb H) (T : TabOk Hb H) (TB : TabB X.base X.mg c tabP) (hcode : X.env.code = .ref c) (hq : X.env.qual ++ "<lambda>" = lamQ)
    (hdef : defaultsOf params X.env = ([], [])) (hfree : ∀ y ∈ scope.names, y.2 = .free → ∃ c, X.env.cells.lookup y.1 = some c)
    (h : ∀ (f c' : Addr) (Hb2 H2 : Hp) (s' : Shared), Inv X pins σ (upd H2 f (LamF f lamQ params body scope (cloFrom X.env.cells scope.names []) c')) s' → H2 f = none → Nw Hb H Hb2 H2 → H2 c' = some (CodeO c' lamQ) → Q (.ref f) s') :
    wpAny (model X.prog X.w) X.A (eval (.Lambda params body scope pos) X.env) Q E s := by
  obtain ⟨tb, ps, hP, ht, ha⟩ := T
  refine PySem.W.kla_eval hdef ?_
  rw [hq]
  have bP : s.heap.BuiltinsAt X.mg tabP := TB.bm.keeps I.bk
  have hP' : s.heap.get? tabP = some { cls := .none, data := .fields ps } := I.hok tabP _ hP
  have out : ∀ (H1 : Hp) (h' : Heap) (tk : Nat) (c' : Addr) (ctv : Value), Inv X pins σ H1 { s with heap := h', toks := tk } → Inv X pins σ (upd H1 h'.objs.size (LamF h'.objs.size lamQ params body scope (cloFrom X.env.cells scope.names []) c')) { s with heap := h'.push (PySem.W.kla_obj "<lambda>" lamQ params body scope (cloFrom X.env.cells scope.names []) ((X.mg "__name__").getD .none) c' ctv), toks := tk } := fun H1 h' tk c' ctv J =>
    J.laid (t' := tk) (fun b o e => Heap.get?_push_of_some _ e) (Nat.le_refl _) (lamF_ok (Heap.get?_push_size _ rfl))
  cases hc : codeAmong pos ps.toList with
  | none =>
    refine PySem.W.kla_makeFunction (mg := X.mg) (c := c) (P := tabP) (ps := ps) (closure_ok hfree) I.ok.glob (I.mod.glob.keeps I.bk) hcode (TB.code.keeps I.bk) hP' ht hc TB.gP bP fun c' ctv h' tk hx hge hlt hrec htb => ?_
    obtain ⟨c2, oc, vs, t, e2, hoc, hd, hv⟩ := hrec
    cases e2
    have nC : H c' = none := I.hok.fresh hge
    have I1 := inv_table (t' := tk) (more := #[rawInt pos.line, rawInt pos.col, .ref c']) (h' := h') I hP (fun b o hb e => hx b o hb e) htb hge ⟨oc, vs, t, hoc, hd, hv⟩
    have nT : tabP ≠ c' := ne_of_none hP nC
    have eL : (ps ++ #[rawInt pos.line, rawInt pos.col, .ref c']).toList = ps.toList ++ [rawInt pos.line, rawInt pos.col, .ref c'] := by simp
    have bC : Hb c' = none := sm_none sm nC
    refine h h'.objs.size c' (upd Hb c' (CodeO c' lamQ)) _ _ (out _ h' tk c' ctv I1) (I1.hok.fresh (Nat.le_refl _)) ⟨sm_new bC, ?_, ⟨fun a o e nt => ?_, fun a ha => ?_⟩, fun a ha => upd_ne (fun z => ha (by rw [z]; exact nC)), fun _ => ⟨by rw [upd_ne nT]; exact tb, _, by rw [upd_ne nT, upd_same], by rw [eL]; exact PySem.TriplesOk_snoc _ _ _ _ ht, fun p' cv hcv => ?_⟩⟩ upd_same
    · intro a o e
      by_cases z : a = c'
      · subst z; rw [upd_same] at e ⊢; exact e
      · rw [upd_ne z] at e ⊢
        rw [upd_ne (fun y => by rw [y, tb] at e; cases e)]
        exact sm a o e
    · rw [upd_ne (ne_of_none e nC), upd_ne (fun z => nt ps (by rw [z, hP] at e; exact (Option.some.inj e).symm))]
      exact e
    · by_cases z : a = c'
      · subst z; rw [upd_same]; exact Option.some_ne_none _
      · rw [upd_ne z]
        by_cases y : a = tabP
        · subst y; rw [upd_same]; exact Option.some_ne_none _
        · rw [upd_ne y]; exact ha
    · rw [eL] at hcv
      rcases among_app _ ht hcv with z | z
      · obtain ⟨c0, e1, e2⟩ := ha p' cv z
        exact ⟨c0, e1, sm_new bC _ _ e2⟩
      · exact ⟨c', z, upd_same⟩
  | some cv =>
    obtain ⟨c', e, hco⟩ := ha pos cv hc
    subst e
    refine PySem.W.kla_makeFunctionHit (mg := X.mg) (c := c) (P := tabP) (ps := ps) (closure_ok hfree) I.ok.glob (I.mod.glob.keeps I.bk) hcode (TB.code.keeps I.bk) hP' ht hc bP fun ctv h' tk hx hsz => ?_
    have I1 : Inv X pins σ H { s with heap := h', toks := tk } := I.kept fun b o e => hx b o e
    exact h h'.objs.size c' Hb H _ (out H h' tk c' ctv I1) (I1.hok.fresh (Nat.le_refl _)) (Nw.refl sm) (sm _ _ hco)
end
end K76
set_option maxRecDepth 100000
set_option maxHeartbeats 4000000
namespace K76
open PySem PySem.Spec PyProof.Rows L2 LamX
/-- the keys ks by their values g, stable -/
def sortK (g : Int → Int) (ks : List Int) : List Int := ks.mergeSort (PySem.W.dataLe false fun k => PyData.int (g k))
theorem sortK_perm (g : Int → Int) (ks : List Int) : (sortK g ks).Perm ks := List.mergeSort_perm _ _
theorem ObjOk.there {P : Program} {w : World} {H : Hp} {h : Heap} {a : Addr} {o : HO} (x : ObjOk P w H h a o) : ∃ u, h.get? a = some u := by
  cases o with
  | lst xs => obtain ⟨_, _, _, _, e⟩ := x; exact ⟨_, e⟩
  | tup xs => obtain ⟨_, _, _, ⟨_, e, _⟩⟩ := x; exact ⟨_, e⟩
  | dK kvs => obtain ⟨_, _, _, _, o, _, _, e, _⟩ := x; exact ⟨_, e⟩
  | dT kvs => obtain ⟨_, _, _, _, o, _, _, e, _⟩ := x; exact ⟨_, e⟩
  | set S n => obtain ⟨o, _, _, _, e, _⟩ := x; exact ⟨_, e⟩
  | ins C dx fs => obtain ⟨_, _, _, e, _⟩ := x; exact ⟨_, e⟩
  | own y => exact x
  | xd fs => obtain ⟨_, ⟨_, _, _, e, _⟩, _⟩ := x; exact ⟨_, e⟩
  | rng lo hi => obtain ⟨_, _, _, e⟩ := x; exact ⟨_, e⟩
  | frz ob u => exact ⟨_, x.1⟩
  | tbl ps => exact ⟨_, show h.get? a = some _ from x⟩
  | met f y => exact ⟨_, show h.get? a = some _ from x⟩
  | ext φ => exact x.2.1
theorem each_ints : ∀ {vs : List Value} {ks : List Int}, PySem.W.EachIs (fun v k => ∃ t, v = Value.int k t) vs ks → Vals (ks.map V.int) vs
  | _, _, .nil => .nil
  | _, _, .cons h t => .cons h (each_ints t)
theorem RepK.keys {K : PySem.W.Frag} {mg : Str → Option Value} {H : Hp} : ∀ {vs : List (Key × V)} {kvs : List (Int × D)}, RepK K mg H vs kvs → vs.map (·.1) = kvs.map fun p => Sum.inl p.1
  | _, _, .nil => rfl
  | _, _, .cons _ r => by rw [List.map_cons, List.map_cons, RepK.keys r]
theorem KV.keys : ∀ {kvs : List (Key × V)} {vs : List (Key × Value)}, KV kvs vs → kvs.map (·.1) = vs.map (·.1)
  | _, _, .nil => rfl
  | _, _, .cons h r => by rw [List.map_cons, List.map_cons, h.1, KV.keys r]
theorem each_at {R : Value → Int → Prop} : ∀ {vs : List Value} {ks : List Int}, vs.length = ks.length → (∀ (i : Nat) v k, vs[i]? = some v → ks[i]? = some k → R v k) → PySem.W.EachIs R vs ks
  | [], [], _, _ => .nil
  | [], _ :: _, e, _ => by cases e
  | _ :: _, [], e, _ => by cases e
  | v :: vs, k :: ks, e, h => .cons (h 0 v k rfl rfl) (each_at (Nat.succ.inj e) fun i v k h1 h2 => h (i + 1) v k h1 h2)
section
variable {X : Cx} {ρ : Env} {np p0 p1 p2 p3 lpos kpos pos : Pos} {kvs nk : List (Int × D)} {g : Int → Int}
theorem f_sortedLam {k : Nat} {c : Addr} {wx nm ar : Str} {params : Arguments} {scope : Scope} (wi ni : Nat) (hr : Room (k + 2) X.A) (TB : TabB X.base X.mg c tabP) (hcode : X.env.code = .ref c) (hm : X.mg "sorted" = none) (S : K76L.LamScope scope nm ar)
    (hfn : ∀ y ∈ scope.names, y.2 = .free → y.1 = nm) (hcl : X.env.scope.names.lookup nm = some .cell)
    (hbind : ∀ (clos : List (Str × Addr)) (pm c' ctv : Value) (us : List Value), us.length = 1 → bindArgs (PySem.W.kla_fn "<lambda>" lamQ params (.Subscript (.Name nm p1) (.Name ar p2) p3) scope clos pm c' ctv) ⟨us, []⟩ = pure ([ar].zip us))
    (hlen : kvs.length ≤ 1000000) (hw : ρ[wi]? = some (some (.md kvs))) (hn : ρ[ni]? = some (some (.val (.dct nk)))) (hgv : ∀ x ∈ kvs, valI nk x.1 = some (.int (g x.1)))
    (hNw : X.N[wi]? = some wx) (hNn : X.N[ni]? = some nm) (hv : Vis X.env.scope wx) (hg : Gl X "sorted" := by rfl) (hq : X.env.qual ++ "<lambda>" = lamQ := by rfl) (hdef : defaultsOf params X.env = ([], []) := by rfl) (hns : NoSl (.Name ar p2) := by intro _ _; rfl)
    (hd1 : (nm == ("__debug__" : Str)) = false := by decide) (hd2 : (ar == ("__debug__" : Str)) = false := by decide) (hd3 : (nm == ("__classdict__" : Str)) = false := by decide) (hd4 : (wx == ("__debug__" : Str)) = false := by decide) (hd5 : (wx == ("__classdict__" : Str)) = false := by decide)
    (st : St1 X (.Name wx p0) := by rfl) (he : backTo pos (starEach [.Name wx p0] X.env) = (false, eval (.Name wx p0) X.env) :: backTo pos (starEach [] X.env) := by rfl) (hpl : (backTo pos (starEach [.Name wx p0] X.env)).any (·.1) = false := by rfl)
    (hbk : backToKw pos (keywordEach [⟨some "key", .Lambda params (.Subscript (.Name nm p1) (.Name ar p2) p3) scope lpos, kpos⟩] X.env) = [(some (Str.ofString "key"), do let v ← eval (.Lambda params (.Subscript (.Name nm p1) (.Name ar p2) p3) scope lpos) X.env; standAt pos; pure v)] := by rfl) :
    DF X (.Call (.Name "sorted" np) [.Name wx p0] [⟨some "key", .Lambda params (.Subscript (.Name nm p1) (.Name ar p2) p3) scope lpos, kpos⟩] pos) ρ ((sortK g (kvs.map (·.1))).map D.int) := fun σ Hb H E Q q pins s I => by
  obtain ⟨l, e1, e2, wv, e3, e4⟩ := E.own wi _ hw (fun _ z => nomatch z)
  obtain ⟨nv, n1, n2⟩ := E.val ni _ hn
  obtain ⟨Dd, nvs, rfl, n3, n4⟩ := n2.dct_inv
  refine wpAny_Call_Name_kw (ld_blt (u := .builtin "sorted") I hg hm (by decide +kernel) ?_ (by decide) (by decide))
  refine PyProof.Rows.callWith_kw (thn ((pa_cons (pe_var (pos := p0) hNw hv hd4 hd5) pa_nil st).run pos pins s σ H (fun vs H1 => vs = [.ref l] ∧ H1 = H) I ⟨.ref l, e1, rfl, rfl⟩) fun us s1 ⟨vs, H1, I1, r1, q1⟩ => ?_) he hpl (by rw [hbk]; rfl) (by rw [hbk]; rfl)
  obtain ⟨rfl, rfl⟩ := q1
  obtain rfl : us = [.ref l] := Vals.ref1 r1
  rw [hbk]
  show wpAny _ _ (evalAll [(do let v ← eval (.Lambda params (.Subscript (.Name nm p1) (.Name ar p2) p3) scope lpos) X.env; standAt pos; pure v)]) _ _ s1
  have hfree : ∀ y ∈ scope.names, y.2 = .free → ∃ c, X.env.cells.lookup y.1 = some c := fun y hy e => by
    rw [hfn y hy e]
    exact I.ok.has _ (.inl hcl)
  refine wpAny_evalAll_cons (wpAny_bind (lam_make3 I1 E.s E.t TB hcode hq hdef hfree fun f c' Hb2 H2 s2 I2 hf n hco => wpAny_bind (wpAny_standAt (wpAny_pure (wpAny_evalAll_nil ?_)))))
  show wpAny _ _ (call (.builtin "sorted") [.ref l] [(Str.ofString "key", .ref f)]) _ _ s2
  have hl2 : H2 l = some (.dK wv) := n.h _ _ e3
  have lf : l ≠ f := ne_of_none hl2 hf
  have hD2 : H2 Dd = some (.dK nvs) := n.h _ _ (E.s _ _ n3)
  have df : Dd ≠ f := ne_of_none hD2 hf
  have cf : c' ≠ f := ne_of_none hco hf
  obtain ⟨z1, z2, vs, kv, dd⟩ := dk_rd I2.hok (Or.inl ((upd_ne lf).trans hl2))
  obtain ⟨ep, dat⟩ := dd.dictAt
  obtain ⟨y1, y2, ns, kn, dn⟩ := dk_rd I2.hok (Or.inl ((upd_ne df).trans hD2))
  obtain ⟨⟨pm, ctv, lk⟩, _, _⟩ := (show ObjOk X.prog X.w _ s2.heap f (LamF f lamQ params _ scope _ c') from I2.hok f _ upd_same)
  obtain ⟨⟨oc, cvs, ct, hoc, hdc, hvc⟩, _, _⟩ := (show ObjOk X.prog X.w _ s2.heap c' (CodeO c' lamQ) from I2.hok c' _ ((upd_ne cf).trans hco))
  obtain ⟨m, hnm, hl⟩ := I2.loc
  have hvn : Vis X.env.scope nm := .inr (.inl hcl)
  obtain ⟨u, ru, lu⟩ := hl ni nm _ hNn n1 hvn
  obtain rfl : u = Value.ref Dd := ru
  obtain ⟨cc, hcc, hcell⟩ : ∃ cc, X.env.cells.lookup nm = some cc ∧ s2.heap.IsCell cc (some (.ref Dd)) := by
    rcases lu with ⟨k', _⟩ | ⟨_, c3, e', z⟩
    · rw [show X.env.scope.names.lookup nm = _ from k'] at hcl; cases hcl
    · exact ⟨c3, e', z⟩
  have hclos : (cloFrom X.env.cells scope.names []).lookup nm = some cc := by
    obtain ⟨c0, h0⟩ := mem_lookup (cloFrom_has (cells := X.env.cells) (acc := []) (PySem.mem_of_lookup S.free))
    rcases cloFrom_mem (PySem.mem_of_lookup h0) with hm | ⟨h1, h2⟩
    · cases hm
    · rw [h0, h2, hcc]; rfl
  have keys : vs.map (·.1) = kvs.map fun p => (Sum.inl p.1 : Key) := (KV.keys kv).symm.trans (e4.mono n.b).keys
  have lenv : vs.length = kvs.length := by simpa using congrArg List.length keys
  refine K76L.sorted_src_key (fun x => PyData.int (g x)) (PySem.W.kdl_dict (knd := mixKind X.prog X.w) (kvs := vs) (ep := ep) z2) hr.hd dat (by rw [← kv.length]; exact z1) (bs := kvs.map (·.1)) (R := fun v k => ∃ t, v = Value.int k t) (fun acc hacc => ?_)
    (PySem.W.AllAlike.of fun _ _ => rfl) (PySem.W.Sortable.others fun _ => ⟨(fun z => nomatch z), (fun _ z => nomatch z)⟩) (by rw [List.length_map, ← lenv, ← kv.length]; exact z1) (fun x _ => ?_) (fun v x hx hm h tk kp => ?_) fun Da out c1 h' tk kp hD hget hol each => ?_
  · refine each_at (by rw [Array.length_toList, hacc.1, lenv, List.length_map]) fun i v kk h1 h2 => ?_
    obtain ⟨k0, x0, h3, h4⟩ := hacc.2 i v (by rw [← Array.getElem?_toList]; exact h1)
    have h5 : (vs.map (·.1))[i]? = some k0 := by rw [List.getElem?_map, h3]; rfl
    rw [keys, List.getElem?_map] at h5
    rw [List.getElem?_map] at h2
    cases q5 : kvs[i]? with
    | none => rw [q5] at h2; cases h2
    | some p =>
      rw [q5] at h2 h5
      cases h2
      cases h5
      rcases keyIs_shape (show keyIs (Sum.inl p.1) v = true from h4) with ⟨j, t, e, rfl⟩ | ⟨x, t, e, rfl⟩
      · cases e; exact ⟨t, rfl⟩
      · cases e
  · have := hr.un
    have e0 : (PyData.int (g x)).depth ≤ 1 := Nat.le_of_ble_eq_true rfl
    omega
  · obtain ⟨t, rfl⟩ := hx
    obtain ⟨p, hp, rfl⟩ := List.mem_map.mp hm
    obtain ⟨w', a1, a2⟩ := (n4.mono n.b).val.1 _ (hgv p hp)
    cases a2.int_inv
    obtain ⟨v', b1, b2⟩ := RelO.some_of (v := V.int (g p.1)) (o := valueAt ns (Sum.inl p.1)) (by rw [← a1]; exact kn.val _)
    obtain ⟨t', rfl⟩ := b2
    refine wpAny_mono (K76L.lam_turn (s := { s2 with heap := h, toks := tk }) (kp _ _ lk) ⟨c', oc, cvs, ct, rfl, kp _ _ hoc, hdc, hvc⟩ S hclos (let ⟨o, ho, hdd⟩ := hcell; ⟨o, kp _ _ ho, hdd⟩) (dn.keep kp) b1 (fun us hu => hbind _ _ _ _ us hu) (by have := hr.dp; show X.A.depth < recursionLimit; omega) (I2.nolimit.keeps kp) hns hd1 hd2 hd3) (fun v s3 hq => ?_) fun _ _ z => z
    obtain ⟨rfl, h3, tk3, rfl, hk3⟩ := hq
    exact ⟨h3, tk3, rfl, hk3, .int _ _⟩
  · have hHD : upd H2 f (LamF f lamQ params (Expr.Subscript (.Name nm p1) (.Name ar p2) p3) scope (cloFrom X.env.cells scope.names []) c') Da = none := by
      cases qq : upd H2 f (LamF f lamQ params (Expr.Subscript (.Name nm p1) (.Name ar p2) p3) scope (cloFrom X.env.cells scope.names []) c') Da with
      | none => rfl
      | some o =>
        obtain ⟨u, hu⟩ := ObjOk.there (I2.hok _ _ qq)
        rw [hD] at hu
        cases hu
    have hDf : Da ≠ f := fun e => by rw [e, upd_same] at hHD; cases hHD
    have hD2 : H2 Da = none := by rw [upd_ne hDf] at hHD; exact hHD
    have nn : Nw Hb H1 Hb2 (upd (upd H2 f (LamF f lamQ params (Expr.Subscript (.Name nm p1) (.Name ar p2) p3) scope (cloFrom X.env.cells scope.names []) c')) Da (.lst ((sortK g (kvs.map (·.1))).map V.int))) := (n.trans (Nw.more n.i hf)).trans (Nw.more (n.trans (Nw.more n.i hf)).i hHD)
    refine ⟨.ref Da, _, Inv.laidN (t' := tk) I2 kp hD hHD (o := .lst ((sortK g (kvs.map (·.1))).map V.int)) ⟨?_, out, c1, each_ints (ks := sortK g (kvs.map (·.1))) each, hget⟩, rfl, q Da _ Hb2 _ nn (Nw.no n hD2) (sm_none n.i hD2) upd_same (Reps.ints _)⟩
    rw [List.length_map, (sortK_perm g _).length_eq, List.length_map, ← lenv, ← kv.length]
    exact z1
end
end K76
set_option maxRecDepth 100000
set_option maxHeartbeats 4000000
namespace K76
open PySem PySem.Spec PyProof.Rows L2 LamX
section
variable {P : Program} {w : World} {K : PySem.W.Frag} {mg : Str → Option Value} {base : Heap}
/-- a def whose code object's place is told -/
theorem kn_ofL {x qual : Str} {params : Arguments} {body : List Stmt} {scope : Scope} {kws : List (Str × V)} {f : Addr} {fd : FuncData} {N ps : List Str} {k : Nat} {R : List D → D → Prop} (F : FunD K x qual params body scope [] kws f fd) (gl : mg x = some (.ref f)) (S : FnScope N ps scope) (len : ∀ ds d, R ds d → ds.length = ps.length)
    (h : ∀ (kV doc pm : Value) (an : Option Addr) (cdv ct : Value) (us : List Value), us.length = ps.length → bindArgs (PySem.W.fnOf x qual params body scope .none kV doc pm an cdv ct) ⟨us, []⟩ = pure (ps.zip us))
    (hb : ∀ (cdv : Value) (A : Around) (outer : List PySem.Env) (s : Shared) (H : Hp) (E : XK), fd.code = cdv → Room k (Cxf P w K mg base N qual scope f cdv A outer s H E).A → ∀ ds d, R ds d → DSs (Cxf P w K mg base N qual scope f cdv A outer s H E) body (start0 N ds) (retK d)) :
    Kn P w K mg base x (k + 1) R := by
  refine ⟨f, fd, ps, [], [], [], R, ?_, gl, F.kp, F.bindsN h, .nil, fun _ => .nil, fun ds d h => by rwa [List.append_nil]⟩
  obtain ⟨oc, od, dV, kV, doc, pm, an, cdv, ct, osl, rfl, lk, hcd, _, _⟩ := F.ex
  refine fn_of lk hcd S (fun vs H Q E h => ?_) fun A outer s H vs Q E hr h => ?_
  · obtain ⟨Hb, ds, d, _, r, hR, _⟩ := h
    rw [r.length]
    exact len ds d hR
  · obtain ⟨Hb, ds, d, hs, r, hR, q⟩ := h
    refine ⟨_, PSs.nox peSs, ?_⟩
    refine hb cdv A outer s H E rfl hr ds d hR Hb H (L2.start N vs) Hb H ⟨en_start hs r, Nw.refl hs.s, fun i x l hi hx => ?_⟩ _ fun o ho => ?_
    · obtain ⟨d, rfl⟩ := start_nv hi
      exact absurd rfl (hx d)
    · cases o with
      | rt e => cases (show e = d from ho); exact fun v Hb2 H2 n rv => q v Hb2 H2 n rv
      | nx ρ => cases (show d = .non from ho); exact fun σ' Hb2 H2 s' => q .non Hb2 H2 s'.nw .non
      | bk ρ => exact ho.elim
      | ct ρ => exact ho.elim
      | rte e ρ => exact ho.elim
      | rtf ds => exact ho.elim
end
end K76
set_option maxRecDepth 100000
namespace K76
open PySem
/-! ### the machine in plain Lean -/
inductive Wd where
  | file | hole | gone | shade
deriving DecidableEq
def Wd.t : Wd → Str
  | .file => "file" | .hole => "hole" | .gone => "gone" | .shade => "shade"
theorem Wd.t_inj : ∀ {a b : Wd}, a.t = b.t ↔ a = b := by
  intro a b
  constructor
  · intro h
    cases a <;> cases b <;> first | rfl | (exact absurd h (by decide))
  · intro h; rw [h]
/-- a thing: word, serial, size -/
structure Th where
  w : Wd
  s : Int
  z : Int
deriving DecidableEq
/-- a region: rank, payload, room -/
structure Rg where
  r : Int
  p : List Th
  m : List Th
deriving DecidableEq
inductive Dd where
  | put (z : Int) | drop (s : Int)
deriving DecidableEq
@[reducible] def dTh (t : Th) : D := .tup [.str t.w.t, .int t.s, .int t.z]
@[reducible] def dRg (g : Rg) : D := .tup [.int g.r, .tup (g.p.map dTh), .tup (g.m.map dTh)]
@[reducible] def dGs (gs : List Rg) : D := .tup (gs.map dRg)
@[reducible] def dDd : Dd → D
  | .put z => .tup [.str "put", .int z]
  | .drop s => .tup [.str "drop", .int s]
@[reducible] def fLay (q n : Int) (gs : List Rg) : List (Str × D) := [("q", .int q), ("puts", .int n), ("regions", dGs gs)]
@[reducible] def dLay (q n : Int) (gs : List Rg) : D := .obj "Layout" (fLay q n gs)
@[reducible] def fHis (q : Int) (ds : List Dd) : List (Str × D) := [("q", .int q), ("deeds", .tup (ds.map dDd))]
@[reducible] def dHis (q : Int) (ds : List Dd) : D := .obj "History" (fHis q ds)
@[reducible] def fPri (ns : List Int) : List (Str × D) := [("table", .tup (ns.map D.int))]
@[reducible] def dPri (ns : List Int) : D := .obj "Prices" (fPri ns)
/-- serial, from, to -/
@[reducible] def dCp (c : Int × Int × Int) : D := .tup [.int c.1, .int c.2.1, .int c.2.2]
@[reducible] def fTid (r : Int) (lay : D) (far : Int) (cs : List (Int × Int × Int)) : List (Str × D) :=
  [("word", .str "tidying"), ("parts", .tup [.int r, lay, .int far, .tup (cs.map dCp)]), ("rank", .int r), ("layout", lay), ("far", .int far), ("copies", .tup (cs.map dCp))]
@[reducible] def dTid (r : Int) (lay : D) (far : Int) (cs : List (Int × Int × Int)) : D := .obj "Tidying" (fTid r lay far cs)
@[reducible] def dO : Option Int → D
  | none => .non
  | some i => .int i
/-! lists made tuples -/
mutual
def fixD : D → D
  | .tup ds => .tup (fixDs ds)
  | .lst ds => .tup (fixDs ds)
  | .non => .non
  | .bl b => .bl b
  | .int i => .int i
  | .str x => .str x
  | .obj c fs => .obj c fs
  | .dct kvs => .dct kvs
  | .kst ds => .kst ds
  | .kls ds => .kls ds
def fixDs : List D → List D
  | [] => []
  | d :: ds => fixD d :: fixDs ds
end
mutual
/-- what fixed may be asked, n deep -/
def fixOk : Nat → D → Bool
  | 0, _ => false
  | n + 1, .tup ds => fixOks n ds
  | n + 1, .lst ds => fixOks n ds
  | _ + 1, .int _ => true
  | _ + 1, .str _ => true
  | _ + 1, .obj c _ => c == "Layout"
  | _ + 1, _ => false
def fixOks : Nat → List D → Bool
  | _, [] => true
  | n, d :: ds => fixOk n d && fixOks n ds
end
theorem fixDs_map (ds : List D) : fixDs ds = ds.map fixD := by
  induction ds with
  | nil => rfl
  | cons d ds ih => rw [fixDs, ih]; rfl
theorem fixOks_all (n : Nat) (ds : List D) : fixOks n ds = ds.all (fixOk n) := by
  induction ds with
  | nil => rw [fixOks]; rfl
  | cons d ds ih => rw [fixOks, ih]; rfl
theorem fix_th (t : Th) : fixD (dTh t) = dTh t := rfl
theorem fix_rg (g : Rg) : fixD (dRg g) = dRg g := by
  show D.tup [.int g.r, .tup (fixDs (g.p.map dTh)), .tup (fixDs (g.m.map dTh))] = _
  rw [fixDs_map, fixDs_map, List.map_map, List.map_map]
  rfl
theorem fix_gs (gs : List Rg) : fixD (dGs gs) = dGs gs := by
  show D.tup (fixDs _) = _
  rw [fixDs_map, List.map_map]
  exact congrArg D.tup (List.map_congr_left fun g _ => fix_rg g)
/-! ranks, cells -/
def rk (z : Int) : Int := (Nat.log2 z.toNat : Nat)
def cells (ts : List Th) : Int := (ts.map Th.z).sum
def free (q : Int) (g : Rg) : Int := cells g.p / q - cells g.m
def allT (gs : List Rg) : List Th := gs.flatMap fun g => g.p ++ g.m
def fits (q z : Int) (g : Rg) : Bool := decide (rk z ≤ g.r) && decide (z ≤ free q g)
def spot (q z : Int) (gs : List Rg) : Option Nat := gs.findIdx? (fits q z)
def putAt (i : Nat) (t : Th) (gs : List Rg) : List Rg := gs.take i ++ (gs[i]?.toList.map fun g => { g with m := g.m ++ [t] }) ++ gs.drop (i + 1)
/-- first fit -/
def lay (q : Int) (t : Th) (gs : List Rg) : Option (List Rg) := (spot q t.z gs).map fun i => putAt i t gs
def isF (s : Int) (t : Th) : Bool := decide (t.w = .file) && decide (t.s = s)
def mark (w : Wd) (s : Int) (ts : List Th) : List Th := ts.map fun t => if isF s t then { t with w := w } else t
def markR (s : Int) (g : Rg) : Rg := ⟨g.r, mark .hole s g.p, mark .gone s g.m⟩
def sizeOf (s : Int) (gs : List Rg) : Int := (((allT gs).filter (isF s)).map Th.z).sum
def isHole (s : Int) (gs : List Rg) : Bool := gs.any fun g => g.p.any (isF s)
def lowR (b : Int) (g : Rg) : List Int := if b ≤ g.r then (g.m.filter fun t => decide (rk t.z < b)).map fun t => rk t.z else []
def low (b : Int) (gs : List Rg) : List Int := gs.flatMap (lowR b)
/-- the least of l and b -/
def minI (b : Int) (l : List Int) : Int := l.foldl (fun a x => if x < a then x else a) b
def stepB (gs : List Rg) (b : Int) : Int := minI b (low b gs)
def iterB (gs : List Rg) : Nat → Int → Int
  | 0, b => b
  | n + 1, b => iterB gs n (stepB gs b)
def bgn (gs : List Rg) (z : Int) : Int := iterB gs 14 (rk z)
def filesR (b : Int) (drop : Option Int) (g : Rg) : List (Int × Int) := if b ≤ g.r then ((g.p ++ g.m).filter fun t => decide (t.w = .file) && !decide (some t.s = drop)).map fun t => (t.s, t.z) else []
def filesIn (b : Int) (drop : Option Int) (gs : List Rg) : List (Int × Int) := gs.flatMap (filesR b drop)
def lexB (p q : Int × Int) : Bool := decide (p.1 < q.1) || (decide (p.1 = q.1) && decide (p.2 ≤ q.2))
def sortP (ps : List (Int × Int)) : List (Int × Int) := ps.mergeSort lexB
def ranksOf (fs : List (Int × Int)) : List Int := ((List.range 13).map fun n => ((n : Nat) : Int)).filter fun r => fs.any fun f => decide (rk f.2 = r)
def newR (fs : List (Int × Int)) (r : Int) : Rg := ⟨r, ((sortP fs).filter fun f => decide (rk f.2 = r)).map fun f => ⟨.file, f.1, f.2⟩, []⟩
def anewF (gs : List Rg) (b : Int) (fs : List (Int × Int)) : List Rg := gs.filter (fun g => decide (g.r < b)) ++ (ranksOf fs).map (newR fs)
def anew (gs : List Rg) (b : Int) (put : Option (Int × Int)) (drop : Option Int) : List Rg := anewF gs b (put.toList ++ filesIn b drop gs)
def doneM (q puts : Int) (gs : List Rg) : Dd → List Rg
  | .put z => (lay q ⟨.file, puts, z⟩ gs).getD (anew gs (bgn gs z) (some (puts, z)) none)
  | .drop s => if isHole s gs then (lay q ⟨.shade, s, sizeOf s gs⟩ (gs.map (markR s))).getD (anew gs (bgn gs (sizeOf s gs)) none (some s)) else gs.map (markR s)
/-- serial, place, size, rank, in a room -/
structure Sp5 where
  s : Int
  at_ : Int
  z : Int
  r : Int
  m : Bool
def spotsT (r : Int) (b : Bool) : Int → List Th → List Sp5
  | _, [] => []
  | a, t :: ts => (if t.w = .file then [⟨t.s, a, t.z, r, b⟩] else []) ++ spotsT r b (a + t.z) ts
def spots (q : Int) : Int → List Rg → List Sp5
  | _, [] => []
  | a, g :: gs => spotsT g.r false a g.p ++ spotsT g.r true (a + cells g.p) g.m ++ spots q (a + cells g.p + cells g.p / q) gs
def ledN (one other z : Int) : Nat := if one = other then 0 else if (if one - other < 0 then -(one - other) else one - other) < z then 2 else 1
end K76
set_option maxRecDepth 100000
namespace K76
open PySem PySem.Spec PyProof.Rows L2
theorem cut_drop {α : Type} (xs : List α) (i : Nat) : cutL xs (some (i : Int)) none = xs.drop i := by
  unfold cutL HT.sIx
  have h1 : ¬ ((i : Int) < 0) := by omega
  simp only [h1, if_false, Int.toNat_natCast]
  rw [← List.length_drop, List.take_length]
  by_cases h : i ≤ xs.length
  · rw [Nat.min_eq_left h]
  · rw [Nat.min_eq_right (by omega), List.drop_of_length_le (Nat.le_refl _), List.drop_of_length_le (by omega)]
theorem cut_take {α : Type} (xs : List α) (i : Nat) : cutL xs none (some (i : Int)) = xs.take i := by
  unfold cutL HT.sIx
  have h1 : ¬ ((i : Int) < 0) := by omega
  simp only [h1, if_false, Int.toNat_natCast, List.drop_zero, Nat.sub_zero]
  by_cases h : i ≤ xs.length
  · rw [Nat.min_eq_left h]
  · rw [Nat.min_eq_right (by omega), List.take_length, List.take_of_length_le (by omega)]
theorem depth_th (t : Th) : (toPy (dTh t)).depth = 1 := by
  simp [toPy, toPys, PyData.depth, PyData.depthAll]
theorem eqD_nil {d : D} {ds : List D} : eqD (.tup (d :: ds)) (.tup []) = false := by
  simp [eqD, toPy, toPys, PyData.eqv, PyData.eqvAll]
theorem depthAll_le {α : Type} {f : α → D} {n : Nat} : ∀ (xs : List α), (∀ x ∈ xs, (toPy (f x)).depth ≤ n) → PyData.depthAll (toPys (xs.map f)) ≤ n
  | [], _ => by simp [toPys, PyData.depthAll]
  | x :: xs, h => by
    simp only [List.map_cons, toPys, PyData.depthAll]
    exact Nat.max_le.mpr ⟨h x List.mem_cons_self, depthAll_le xs fun y hy => h y (List.mem_cons_of_mem _ hy)⟩
theorem plainDs_map {α : Type} {f : α → D} : ∀ (xs : List α), (∀ x ∈ xs, plainD (f x) = true) → plainDs (xs.map f) = true
  | [], _ => rfl
  | x :: xs, h => by
    rw [List.map_cons, plainDs, h x List.mem_cons_self, plainDs_map xs fun y hy => h y (List.mem_cons_of_mem _ hy)]
    rfl
/-- flat tuples and lists of them may be compared -/
theorem cmp_tup {α : Type} {f : α → D} (xs : List α) (h : ∀ x ∈ xs, plainD (f x) = true ∧ (toPy (f x)).depth ≤ 2) : CmpOk (.tup (xs.map f)) :=
  ⟨plainDs_map xs fun x hx => (h x hx).1, by
    show (PyData.tuple (toPys _)).depth ≤ 64
    rw [PyData.depth]
    have := depthAll_le (n := 2) xs fun x hx => (h x hx).2
    omega⟩
theorem cmp_lst {α : Type} {f : α → D} (xs : List α) (h : ∀ x ∈ xs, plainD (f x) = true ∧ (toPy (f x)).depth ≤ 2) : CmpOk (.lst (xs.map f)) :=
  ⟨plainDs_map xs fun x hx => (h x hx).1, by
    show (PyData.list (toPys _)).depth ≤ 64
    rw [PyData.depth]
    have := depthAll_le (n := 2) xs fun x hx => (h x hx).2
    omega⟩
theorem cmp_nilT : CmpOk (.tup []) := ⟨rfl, by decide⟩
theorem cmp_nilL : CmpOk (.lst []) := ⟨rfl, by decide⟩
theorem lay_wd (w : Wd) : (PyData.str w.t).canLay0 = true := by cases w <;> decide +kernel
theorem plain_th (t : Th) : plainD (dTh t) = true ∧ (toPy (dTh t)).depth ≤ 2 := ⟨by simp [plainD, plainDs, lay_wd], by rw [depth_th]; decide⟩
theorem plain_pr (p : Int × Int) : plainD (dPr p) = true ∧ (toPy (dPr p)).depth ≤ 2 := ⟨by simp [plainD, plainDs], by simp [toPy, toPys, PyData.depth, PyData.depthAll]⟩
mutual
theorem eqv_refl : ∀ d : D, plainD d = true → PyData.eqv (toPy d) (toPy d) = true
  | .non, _ => by simp [toPy, PyData.eqv]
  | .bl b, _ => by simp [toPy, PyData.eqv]
  | .int i, _ => by simp [toPy, PyData.eqv]
  | .str x, _ => by simp [toPy, PyData.eqv]
  | .tup ds, h => by
    have h : plainDs ds = true := h
    simp only [toPy, PyData.eqv]
    exact eqvAll_refl ds h
  | .lst ds, h => by
    have h : plainDs ds = true := h
    simp only [toPy, PyData.eqv]
    exact eqvAll_refl ds h
  | .obj _ _, h => nomatch h
  | .dct _, h => nomatch h
  | .kls _, h => nomatch h
  | .kst ds, h => by
    first
    | (exact nomatch h)
    | (have h : plainDs ds = true := h
       simp only [toPy, PyData.eqv]
       exact eqvAll_refl ds h)
theorem eqvAll_refl : ∀ ds : List D, plainDs ds = true → PyData.eqvAll (toPys ds) (toPys ds) = true
  | [], _ => by simp [toPys, PyData.eqvAll]
  | d :: ds, h => by
    rw [plainDs, Bool.and_eq_true] at h
    simp only [toPys, PyData.eqvAll, eqv_refl d h.1, eqvAll_refl ds h.2, Bool.and_self]
end
theorem eqD_refl {d : D} (h : plainD d = true) : eqD d d = true := eqv_refl d h
/-! what a layout must keep -/
def thOk (puts : Int) (ws : List Wd) (t : Th) : Prop := t.w ∈ ws ∧ 0 ≤ t.s ∧ t.s ≤ puts - 1 ∧ 1 ≤ t.z ∧ t.z ≤ 4096
def smR (g : Rg) : Prop := g.p.length ≤ 200 ∧ g.m.length ≤ 200
structure RgOk (puts : Int) (g : Rg) : Prop where
  r0 : 0 ≤ g.r
  r12 : g.r ≤ 12
  p0 : g.p ≠ []
  p : ∀ t ∈ g.p, thOk puts [.file, .hole] t
  m : ∀ t ∈ g.m, thOk puts [.file, .gone, .shade] t
  sm : smR g
structure Ranked (q : Int) (g : Rg) : Prop where
  p : ∀ t ∈ g.p, rk t.z = g.r
  m : ∀ t ∈ g.m, rk t.z ≤ g.r
  asc : g.p.Pairwise fun a b => a.s < b.s
  fr : 0 ≤ free q g
def pairsW (w : Wd) (ts : List Th) : List (Int × Int) := (ts.filter fun t => decide (t.w = w)).map fun t => (t.s, t.z)
def serials (ts : List Th) : List Int := (ts.filter fun t => !decide (t.w = .shade)).map Th.s
def lastS (g : Rg) : Int := (g.p.getLast?.map Th.s).getD 0
structure Lawful (q puts : Int) (gs : List Rg) : Prop where
  rg : ∀ g ∈ gs, RgOk puts g
  asc : gs.Pairwise fun a b => a.r < b.r
  rkd : ∀ g ∈ gs, Ranked q g
  ser : (serials (allT gs)).Nodup
  shd : (pairsW .hole (allT gs)).Perm (pairsW .shade (allT gs))
  later : ∀ g ∈ gs, ∀ t ∈ g.m, t.w ≠ .shade → ∀ h ∈ gs, h.r = rk t.z → lastS h < t.s
  passed : ∀ i g, gs[i]? = some g → ∀ t ∈ g.m, ∀ h ∈ gs.take i, ¬ (rk t.z ≤ h.r ∧ t.z ≤ free q h)
  len : gs.length ≤ 13
  len2 : (allT gs).length ≤ 200
/-- adjacent pairs -/
theorem zip_tail {α : Type} {R : α → α → Prop} : ∀ {xs : List α}, xs.Pairwise R → ∀ p ∈ xs.zip (xs.drop 1), R p.1 p.2
  | [], _, p, h => by simp at h
  | [x], _, p, h => by simp at h
  | x :: y :: r, hp, p, h => by
    obtain ⟨h1, h2⟩ := List.pairwise_cons.mp hp
    rw [show (x :: y :: r).drop 1 = y :: r from rfl, List.zip_cons_cons] at h
    rcases List.mem_cons.mp h with rfl | h
    · exact h1 y List.mem_cons_self
    · exact zip_tail h2 p h
end K76
set_option maxRecDepth 100000
namespace K76
open PySem
/-! ### sorting pairs -/
theorem lexB_iff {p q : Int × Int} : lexB p q = true ↔ lexLe p q := by
  unfold lexB lexLe
  simp only [Bool.or_eq_true, Bool.and_eq_true, decide_eq_true_eq]
theorem sortP_perm (ps : List (Int × Int)) : (sortP ps).Perm ps := List.mergeSort_perm ps lexB
theorem lexLe_trans {a b c : Int × Int} (h1 : lexLe a b) (h2 : lexLe b c) : lexLe a c := by
  unfold lexLe at *; omega
theorem lexLe_total (a b : Int × Int) : lexLe a b ∨ lexLe b a := by
  unfold lexLe; omega
theorem sortP_sorted (ps : List (Int × Int)) : (sortP ps).Pairwise lexLe := by
  have := List.pairwise_mergeSort (le := lexB) (fun a b c h1 h2 => lexB_iff.mpr (lexLe_trans (lexB_iff.mp h1) (lexB_iff.mp h2))) (fun a b => by
    rcases lexLe_total a b with h | h
    · rw [lexB_iff.mpr h]; rfl
    · rw [lexB_iff.mpr h, Bool.or_true]) ps
  exact this.imp fun h => lexB_iff.mp h
theorem sortP_eq {ps qs : List (Int × Int)} (h : ps.Perm qs) : sortP ps = sortP qs :=
  perm_sorted_eq lexLe_anti ((sortP_perm ps).trans (h.trans (sortP_perm qs).symm)) (sortP_sorted ps) (sortP_sorted qs)
/-! ### dicts -/
theorem valI_append {α : Type} (xs ys : List (Int × α)) (k : Int) : valI (xs ++ ys) k = (valI xs k).or (valI ys k) := by
  unfold valI
  rw [List.find?_append]
  cases xs.find? fun kv => decide (kv.1 = k) <;> simp
theorem valI_none {α : Type} {kvs : List (Int × α)} {k : Int} (h : ∀ p ∈ kvs, p.1 ≠ k) : valI kvs k = none := by
  unfold valI
  rw [List.find?_eq_none.mpr fun p hp => by simpa using h p hp]
  rfl
theorem valI_put {α : Type} (kvs : List (Int × α)) (k : Int) (v : α) (j : Int) : valI (putI kvs k v) j = if k = j then some v else valI kvs j := by
  unfold putI
  by_cases h : (kvs.any fun kv => decide (kv.1 = k)) = true
  · rw [if_pos h]
    have gen : ∀ l : List (Int × α), (l.any fun kv => decide (kv.1 = k)) = true ∨ k ≠ j → valI (l.map fun kv => if kv.1 = k then (kv.1, v) else kv) j = if k = j then some v else valI l j := by
      intro l
      induction l with
      | nil =>
        intro h
        rcases h with h | h
        · simp at h
        · rw [if_neg h]; rfl
      | cons x l ih =>
        intro h
        have e : valI ((x :: l).map fun kv => if kv.1 = k then (kv.1, v) else kv) j = if x.1 = j then some (if x.1 = k then v else x.2) else valI (l.map fun kv => if kv.1 = k then (kv.1, v) else kv) j := by
          unfold valI
          rw [List.map_cons, List.find?_cons]
          by_cases h1 : x.1 = k
          · simp only [if_pos h1]
            by_cases h2 : x.1 = j
            · simp [h2]
            · simp [h2]
          · simp only [if_neg h1]
            by_cases h2 : x.1 = j
            · simp [h2]
            · simp [h2]
        have e2 : valI (x :: l) j = if x.1 = j then some x.2 else valI l j := by
          unfold valI
          rw [List.find?_cons]
          by_cases h2 : x.1 = j
          · simp [h2]
          · simp [h2]
        rw [e, e2]
        by_cases h1 : k = j
        · subst h1
          simp only [if_pos rfl]
          by_cases h2 : x.1 = k
          · simp [h2]
          · rw [if_neg h2]
            have := ih (.inl (by
              rcases h with h | h
              · rw [List.any_cons, decide_eq_false h2, Bool.false_or] at h; exact h
              · exact absurd rfl h))
            rw [this]; simp
        · rw [if_neg h1]
          have := ih (.inr h1)
          rw [this, if_neg h1]
          by_cases h2 : x.1 = j
          · have h3 : ¬ x.1 = k := fun z => h1 (z.symm.trans h2)
            simp [h2, h3]
            intro z; exact absurd z.symm h1
          · simp [h2]
    exact gen kvs (.inl h)
  · rw [if_neg h, valI_append]
    have e : valI kvs k = none := valI_none fun p hp q => h (List.any_eq_true.mpr ⟨p, hp, decide_eq_true q⟩)
    by_cases h1 : k = j
    · subst h1
      rw [e, if_pos rfl]
      simp [valI]
    · rw [if_neg h1]
      have : valI [(k, v)] j = none := by simp [valI, h1]
      rw [this, Option.or_none]
def dictI {α β : Type} (kf : α → Int) (vf : α → β) (xs : List α) (acc : List (Int × β)) : List (Int × β) := xs.foldl (fun acc x => putI acc (kf x) (vf x)) acc
theorem dictI_none {α β : Type} {kf : α → Int} {vf : α → β} {k : Int} : ∀ {xs : List α} {acc : List (Int × β)}, (∀ x ∈ xs, kf x ≠ k) → valI (dictI kf vf xs acc) k = valI acc k
  | [], acc, _ => rfl
  | x :: xs, acc, h => by
    show valI (dictI kf vf xs (putI acc (kf x) (vf x))) k = _
    rw [dictI_none fun y hy => h y (List.mem_cons_of_mem _ hy), valI_put, if_neg (h x List.mem_cons_self)]
/-- the keys are unlike, or the values agree -/
theorem dictI_some {α β : Type} {kf : α → Int} {vf : α → β} {x : α} : ∀ {xs : List α} {acc : List (Int × β)}, x ∈ xs → (∀ y ∈ xs, kf y = kf x → vf y = vf x) → valI (dictI kf vf xs acc) (kf x) = some (vf x)
  | y :: xs, acc, h, hu => by
    show valI (dictI kf vf xs (putI acc (kf y) (vf y))) (kf x) = _
    by_cases hm : ∃ z ∈ xs, kf z = kf x
    · obtain ⟨z, hz, e⟩ := hm
      have := dictI_some (kf := kf) (vf := vf) (acc := putI acc (kf y) (vf y)) hz fun t ht q => by
        rw [hu t (List.mem_cons_of_mem _ ht) (q.trans e), hu z (List.mem_cons_of_mem _ hz) e]
      rw [e] at this
      rw [this, hu z (List.mem_cons_of_mem _ hz) e]
    · have hne : ∀ z ∈ xs, kf z ≠ kf x := fun z hz e => hm ⟨z, hz, e⟩
      rw [dictI_none hne, valI_put]
      have : x = y := by
        rcases List.mem_cons.mp h with e | h
        · exact e
        · exact absurd rfl (hne x h)
      subst this
      rw [if_pos rfl]
theorem putI_keys {α : Type} (kvs : List (Int × α)) (k : Int) (v : α) : (putI kvs k v).map (·.1) = if (kvs.any fun kv => decide (kv.1 = k)) = true then kvs.map (·.1) else kvs.map (·.1) ++ [k] := by
  unfold putI
  split
  · rw [List.map_map]
    refine List.map_congr_left fun p _ => ?_
    show (if p.1 = k then (p.1, v) else p).1 = p.1
    split <;> rfl
  · rw [List.map_append]; rfl
theorem dictI_keys {α β : Type} {kf : α → Int} {vf : α → β} : ∀ (xs : List α) (acc : List (Int × β)), (acc.map (·.1)).Nodup → ((dictI kf vf xs acc).map (·.1)).Nodup ∧ ∀ k, k ∈ (dictI kf vf xs acc).map (·.1) ↔ k ∈ acc.map (·.1) ∨ ∃ x ∈ xs, kf x = k
  | [], acc, h => ⟨h, fun k => by simp [dictI]⟩
  | x :: xs, acc, h => by
    show ((dictI kf vf xs (putI acc (kf x) (vf x))).map (·.1)).Nodup ∧ _
    have key := putI_keys acc (kf x) (vf x)
    have hn : ((putI acc (kf x) (vf x)).map (·.1)).Nodup := by
      rw [key]
      split
      · exact h
      · rename_i h2
        rw [List.nodup_append]
        refine ⟨h, by simp, fun a ha b hb e => ?_⟩
        rw [List.mem_singleton] at hb
        subst hb; subst e
        obtain ⟨p, hp, e⟩ := List.mem_map.mp ha
        exact h2 (List.any_eq_true.mpr ⟨p, hp, decide_eq_true e⟩)
    obtain ⟨h1, h2⟩ := dictI_keys (kf := kf) (vf := vf) xs (putI acc (kf x) (vf x)) hn
    refine ⟨h1, fun k => ?_⟩
    show k ∈ (dictI kf vf xs (putI acc (kf x) (vf x))).map (·.1) ↔ _
    rw [h2 k, key]
    split
    · rename_i h3
      constructor
      · rintro (h | ⟨y, hy, e⟩)
        · exact .inl h
        · exact .inr ⟨y, List.mem_cons_of_mem _ hy, e⟩
      · rintro (h | ⟨y, hy, e⟩)
        · exact .inl h
        · rcases List.mem_cons.mp hy with rfl | hy
          · obtain ⟨p, hp, e2⟩ := List.any_eq_true.mp h3
            exact .inl (List.mem_map.mpr ⟨p, hp, (of_decide_eq_true e2).trans e⟩)
          · exact .inr ⟨y, hy, e⟩
    · rw [List.mem_append, List.mem_singleton]
      constructor
      · rintro ((h | h) | ⟨y, hy, e⟩)
        · exact .inl h
        · exact .inr ⟨x, List.mem_cons_self, h.symm⟩
        · exact .inr ⟨y, List.mem_cons_of_mem _ hy, e⟩
      · rintro (h | ⟨y, hy, e⟩)
        · exact .inl (.inl h)
        · rcases List.mem_cons.mp hy with rfl | hy
          · exact .inl (.inr e.symm)
          · exact .inr ⟨y, hy, e⟩
theorem dictI_len {α β : Type} {kf : α → Int} {vf : α → β} : ∀ (xs : List α) (acc : List (Int × β)), (dictI kf vf xs acc).length ≤ acc.length + xs.length
  | [], acc => by simp [dictI]
  | x :: xs, acc => by
    show (dictI kf vf xs (putI acc (kf x) (vf x))).length ≤ _
    have := dictI_len (kf := kf) (vf := vf) xs (putI acc (kf x) (vf x))
    have := putI_len acc (kf x) (vf x)
    rw [List.length_cons]
    omega
end K76
set_option maxRecDepth 100000
namespace K76
open PySem
/-! ### the first hit in nested walks -/
theorem hit_flat {α β : Type} {xs : List α} {F : α → List β} {p : β → Bool} {i : Nat} {x : α} {y : β} (hx : xs[i]? = some x) (h0 : ((xs.take i).flatMap F).find? p = none) (hy : (F x).find? p = some y) : (xs.flatMap F).find? p = some y := by
  obtain ⟨hi, e⟩ := List.getElem?_eq_some_iff.mp hx
  conv => lhs; rw [← List.take_append_drop i xs, List.drop_eq_getElem_cons hi, e]
  rw [List.flatMap_append, List.find?_append, h0, List.flatMap_cons, List.find?_append, hy]
  rfl
theorem miss_flat {α β : Type} {xs : List α} {F : α → List β} {p : β → Bool} {i : Nat} {x : α} (hx : xs[i]? = some x) (h0 : ((xs.take i).flatMap F).find? p = none) (hy : (F x).find? p = none) : ((xs.take (i + 1)).flatMap F).find? p = none := by
  obtain ⟨hi, e⟩ := List.getElem?_eq_some_iff.mp hx
  rw [List.take_succ_eq_append_getElem hi, e, List.flatMap_append, List.find?_append, h0, List.flatMap_cons, List.find?_append, hy]
  rfl
theorem hit_at {α : Type} {xs : List α} {p : α → Bool} {i : Nat} {x : α} (hx : xs[i]? = some x) (h0 : (xs.take i).find? p = none) (hp : p x = true) : xs.find? p = some x := by
  obtain ⟨hi, e⟩ := List.getElem?_eq_some_iff.mp hx
  conv => lhs; rw [← List.take_append_drop i xs, List.drop_eq_getElem_cons hi, e]
  rw [List.find?_append, h0, List.find?_cons, hp]
  rfl
theorem miss_at {α : Type} {xs : List α} {p : α → Bool} {i : Nat} {x : α} (hx : xs[i]? = some x) (h0 : (xs.take i).find? p = none) (hp : p x = false) : (xs.take (i + 1)).find? p = none := by
  obtain ⟨hi, e⟩ := List.getElem?_eq_some_iff.mp hx
  rw [List.take_succ_eq_append_getElem hi, e, List.find?_append, h0, List.find?_cons, hp]
  rfl
/-! ### where a file sits -/
def seatsT (r : Int) (b : Bool) (ts : List Th) : List (Int × Bool × Th) := ts.map fun t => (r, b, t)
def seatsR (g : Rg) : List (Int × Bool × Th) := [(false, g.p), (true, g.m)].flatMap fun x => seatsT g.r x.1 x.2
def seatsG (gs : List Rg) : List (Int × Bool × Th) := gs.flatMap seatsR
def hitS (s : Int) (x : Int × Bool × Th) : Bool := isF s x.2.2
def seatM (gs : List Rg) (s : Int) : Option (Int × Bool × Th) := (seatsG gs).find? (hitS s)
@[reducible] def dSeat : Option (Int × Bool × Th) → D
  | none => .non
  | some x => .tup [.int x.1, .bl x.2.1, .int x.2.2.z]
theorem find_map {α β : Type} (f : α → β) (p : β → Bool) (xs : List α) : (xs.map f).find? p = (xs.find? fun x => p (f x)).map f := by
  induction xs with
  | nil => rfl
  | cons x xs ih =>
    rw [List.map_cons, List.find?_cons, List.find?_cons]
    cases p (f x) with
    | true => rfl
    | false => exact ih
/-! ### falls -/
def lesserT (gs : List Rg) (b : Int) : List Th := (gs.filter fun g => decide (b ≤ g.r)).flatMap fun g => g.m.filter fun t => decide (rk t.z < b)
theorem low_lesser (gs : List Rg) (b : Int) : low b gs = (lesserT gs b).map fun t => rk t.z := by
  induction gs with
  | nil => rfl
  | cons g gs ih =>
    unfold low lesserT at ih ⊢
    rw [List.flatMap_cons, ih]
    unfold lowR
    by_cases h : b ≤ g.r
    · rw [if_pos h, List.filter_cons, if_pos (by simpa using h), List.flatMap_cons, List.map_append]
    · rw [if_neg h, List.filter_cons, if_neg (by simpa using h), List.nil_append]
theorem minI_le (b : Int) (l : List Int) : minI b l ≤ b ∧ (∀ x ∈ l, minI b l ≤ x) ∧ (minI b l = b ∨ minI b l ∈ l) := by
  induction l generalizing b with
  | nil => exact ⟨Int.le_refl _, fun x h => (nomatch h), .inl rfl⟩
  | cons y l ih =>
    have e : minI b (y :: l) = minI (if y < b then y else b) l := rfl
    rw [e]
    by_cases hy : y < b
    · rw [if_pos hy]
      obtain ⟨h1, h2, h3⟩ := ih y
      refine ⟨by omega, fun x hx => ?_, ?_⟩
      · rcases List.mem_cons.mp hx with rfl | hx
        · exact h1
        · exact h2 x hx
      · rcases h3 with h | h
        · exact .inr (by rw [h]; exact List.mem_cons_self)
        · exact .inr (List.mem_cons_of_mem _ h)
    · rw [if_neg hy]
      obtain ⟨h1, h2, h3⟩ := ih b
      refine ⟨h1, fun x hx => ?_, ?_⟩
      · rcases List.mem_cons.mp hx with rfl | hx
        · omega
        · exact h2 x hx
      · rcases h3 with h | h
        · exact .inl h
        · exact .inr (List.mem_cons_of_mem _ h)
theorem rk_nonneg (z : Int) : 0 ≤ rk z := by unfold rk; omega
theorem lesser_mem {gs : List Rg} {b : Int} {t : Th} : t ∈ lesserT gs b ↔ ∃ g ∈ gs, b ≤ g.r ∧ t ∈ g.m ∧ rk t.z < b := by
  unfold lesserT
  simp only [List.mem_flatMap, List.mem_filter, decide_eq_true_eq]
  constructor
  · rintro ⟨g, ⟨h1, h2⟩, h3, h4⟩; exact ⟨g, h1, h2, h3, h4⟩
  · rintro ⟨g, h1, h2, h3, h4⟩; exact ⟨g, ⟨h1, h2⟩, h3, h4⟩
/-- a step down -/
theorem stepB_nil {gs : List Rg} {b : Int} (h : lesserT gs b = []) : stepB gs b = b := by
  unfold stepB; rw [low_lesser, h]; rfl
theorem stepB_cons {gs : List Rg} {b : Int} (h : lesserT gs b ≠ []) : (∃ t ∈ lesserT gs b, rk t.z = stepB gs b) ∧ (∀ t ∈ lesserT gs b, stepB gs b ≤ rk t.z) ∧ stepB gs b < b ∧ 0 ≤ stepB gs b := by
  obtain ⟨t, ht⟩ := List.exists_mem_of_ne_nil _ h
  obtain ⟨h1, h2, h3⟩ := minI_le b (low b gs)
  have lt : ∀ x ∈ low b gs, x < b := fun x hx => by
    rw [low_lesser] at hx
    obtain ⟨u, hu, rfl⟩ := List.mem_map.mp hx
    obtain ⟨g, _, _, _, h⟩ := lesser_mem.mp hu
    exact h
  have hm : minI b (low b gs) ∈ low b gs := by
    rcases h3 with h | h
    · have hx : rk t.z ∈ low b gs := by rw [low_lesser]; exact List.mem_map.mpr ⟨t, ht, rfl⟩
      have := lt _ hx
      have := h2 _ hx
      omega
    · exact h
  have hlt := lt _ hm
  rw [low_lesser] at hm
  obtain ⟨u, hu, e⟩ := List.mem_map.mp hm
  refine ⟨⟨u, hu, by unfold stepB; rw [low_lesser]; exact e⟩, fun v hv => h2 _ (by rw [low_lesser]; exact List.mem_map.mpr ⟨v, hv, rfl⟩), hlt, ?_⟩
  have := rk_nonneg u.z
  have e2 : stepB gs b = rk u.z := by unfold stepB; rw [low_lesser]; exact e.symm
  rw [e2]; exact this
def firstT (gs : List Rg) (b : Int) : Th := ((lesserT gs b).find? fun t => decide (rk t.z = stepB gs b)).getD ⟨.file, 0, 0⟩
def fallsM (gs : List Rg) : Nat → Int → List (Int × Th)
  | 0, _ => []
  | n + 1, b => if lesserT gs b = [] then [] else (stepB gs b, firstT gs b) :: fallsM gs n (stepB gs b)
theorem iterB_fix {gs : List Rg} {b : Int} (h : lesserT gs b = []) : ∀ n, iterB gs n b = b
  | 0 => rfl
  | n + 1 => by rw [iterB, stepB_nil h, iterB_fix h n]
theorem falls_last (gs : List Rg) : ∀ (n : Nat) (b : Int), 0 ≤ b → b.toNat ≤ n → ((fallsM gs n b).getLast?.map (·.1)).getD b = iterB gs n b ∧ lesserT gs (iterB gs n b) = []
  | 0, b, h0, hn => by
    have hb : b = 0 := by omega
    have hl : lesserT gs b = [] := by
      rw [List.eq_nil_iff_forall_not_mem]
      intro t ht
      obtain ⟨g, _, _, _, h⟩ := lesser_mem.mp ht
      have := rk_nonneg t.z
      omega
    exact ⟨rfl, hl⟩
  | n + 1, b, h0, hn => by
    by_cases hl : lesserT gs b = []
    · rw [iterB_fix hl, fallsM, if_pos hl]
      exact ⟨rfl, hl⟩
    · obtain ⟨_, _, h3, h4⟩ := stepB_cons hl
      obtain ⟨e1, e2⟩ := falls_last gs n (stepB gs b) h4 (by omega)
      rw [fallsM, if_neg hl, iterB]
      refine ⟨?_, e2⟩
      rw [← e1]
      cases hf : fallsM gs n (stepB gs b) with
      | nil => rfl
      | cons x xs => rw [List.getLast?_cons_cons, List.getLast?_eq_some_getLast (List.cons_ne_nil x xs)]; rfl
/-- more turns change nothing -/
theorem iterB_more (gs : List Rg) : ∀ (n m : Nat) (b : Int), 0 ≤ b → b.toNat ≤ n → n ≤ m → iterB gs m b = iterB gs n b
  | n, m, b, h0, hn, hm => by
    induction n generalizing m b with
    | zero =>
      have := (falls_last gs 0 b h0 hn).2
      rw [show iterB gs 0 b = b from rfl] at this ⊢
      exact iterB_fix this m
    | succ n ih =>
      cases m with
      | zero => omega
      | succ m =>
        rw [iterB, iterB]
        by_cases hl : lesserT gs b = []
        · rw [stepB_nil hl, iterB_fix hl, iterB_fix hl]
        · obtain ⟨_, _, h3, h4⟩ := stepB_cons hl
          exact ih m (stepB gs b) h4 (by omega) (by omega)
end K76
namespace K76
theorem falls_fuel (gs : List Rg) : ∀ (n m : Nat) (b : Int), 0 ≤ b → b.toNat ≤ n → b.toNat ≤ m → fallsM gs n b = fallsM gs m b
  | 0, m, b, h0, hn, hm => by
    have hl : lesserT gs b = [] := (falls_last gs 0 b h0 hn).2
    cases m with
    | zero => rfl
    | succ m => rw [fallsM, fallsM, if_pos hl]
  | n + 1, m, b, h0, hn, hm => by
    by_cases hl : lesserT gs b = []
    · cases m with
      | zero => rw [fallsM, fallsM, if_pos hl]
      | succ m => rw [fallsM, fallsM, if_pos hl, if_pos hl]
    · obtain ⟨_, _, h3, h4⟩ := stepB_cons hl
      cases m with
      | zero => omega
      | succ m => rw [fallsM, fallsM, if_neg hl, if_neg hl, falls_fuel gs n m (stepB gs b) h4 (by omega) (by omega)]
end K76
set_option maxRecDepth 100000
set_option maxHeartbeats 4000000
namespace K76
open PySem PySem.Spec PyProof.Rows L2
def top (i : Nat) : Stmt := PySem.Challenge.pw_priceblind_k76_whole_thrifty_by_every_pr.main.body.getD i (.Pass ⟨0, 0, 0, 0⟩)
/-- the built-ins that the top leaves alone -/
structure Tx (mg : Str → Option Value) : Prop where
  sum : mg "sum" = none
  len : mg "len" = none
  all : mg "all" = none
  any : mg "any" = none
  min : mg "min" = none
  max : mg "max" = none
  sorted : mg "sorted" = none
  tuple : mg "tuple" = none
  list : mg "list" = none
  dict : mg "dict" = none
  set : mg "set" = none
  zip : mg "zip" = none
  enumerate : mg "enumerate" = none
  range : mg "range" = none
  abs : mg "abs" = none
  int : mg "int" = none
  bool : mg "bool" = none
  repr : mg "repr" = none
  isinstance : mg "isinstance" = none
  super : mg "super" = none
/-- a name of the top with its value -/
def GlK (K : PySem.W.Frag) (mg : Str → Option Value) (x : Str) (d : D) : Prop := ∃ u v, mg x = some u ∧ RelV v u ∧ ∀ H, Rep K mg H v d
structure Cs (K : PySem.W.Frag) (mg : Str → Option Value) : Prop where
  lq : GlK K mg "LEAST_Q" (.int 2)
  mq : GlK K mg "MOST_Q" (.int 64)
  ms : GlK K mg "MOST_SIZE" (.int 4096)
  mr : GlK K mg "MOST_RANK" (.int 12)
  file : GlK K mg "FILE" (.str "file")
  hole : GlK K mg "HOLE" (.str "hole")
  gone : GlK K mg "GONE" (.str "gone")
  shade : GlK K mg "SHADE" (.str "shade")
  pw : GlK K mg "PAYLOAD_WORDS" (.kst [.str "file", .str "hole"])
  rw : GlK K mg "ROOM_WORDS" (.kst [.str "file", .str "gone", .str "shade"])
  md : GlK K mg "MOST_DEEDS" (.int 2000)
  mn : GlK K mg "MOST_NUMBERS" (.int 400)
abbrev FnT (K : PySem.W.Frag) (mg : Str → Option Value) (i : Nat) (x : Str) : Prop := ∃ f fd, FunD K x x (defArgs (top i)) (defBody (top i)) (defScope (top i)) [] [] f fd ∧ mg x = some (.ref f)
abbrev FnTD (K : PySem.W.Frag) (mg : Str → Option Value) (i : Nat) (x : Str) (dv : V) : Prop := ∃ f fd, FunD K x x (defArgs (top i)) (defBody (top i)) (defScope (top i)) [dv] [] f fd ∧ mg x = some (.ref f)
def within (v : Int) (lo hi : Option Int) : Bool := (match lo with | none => true | some l => decide (l ≤ v)) && (match hi with | none => true | some h => decide (v ≤ h))
theorem isNon_dO (o : Option Int) : isNon (dO o) = o.isNone := by cases o <;> rfl
section
variable {P : Program} {w : World} {K : PySem.W.Frag} {mg : Str → Option Value} {base : Heap}
theorem sc_is_integer : FnScope ["value"] ["value"] (defScope (top 15)) := ⟨rfl, rfl, rfl, by decide +kernel, rfl, by decide +kernel, by decide +kernel⟩
theorem ok_is_integer (T : Tx mg) (F : FnT K mg 15 "is_integer") : Kn P w K mg base "is_integer" 1 (fun ds d => ∃ i, ds = [.int i] ∧ d = .bl true) := by
  obtain ⟨f, fd, F, g⟩ := F
  refine kn_of F g sc_is_integer (fun ds d h => by obtain ⟨_, rfl, _⟩ := h; rfl) (fun _ _ _ _ _ _ us hl => match us, hl with | [_], _ => rfl) ?_
  rintro cdv A outer s H E hr ds d ⟨i, rfl, rfl⟩
  refine ss_cons (s_ret (d_and (p := true) (q := true) (d_isT (T := "int") (U := "int") T.isinstance (d_var 0) T.int (by decide +kernel) rfl (by decide +kernel)) fun _ => (d_one ((d_not (p := false) (d_isT (T := "int") (U := "bool") T.isinstance (d_var 0) T.bool (by decide +kernel) rfl (by decide +kernel)))))) rfl)
theorem sc_is_within : FnScope ["value", "least", "most"] ["value", "least", "most"] (defScope (top 16)) := ⟨rfl, rfl, rfl, by decide +kernel, rfl, by decide +kernel, by decide +kernel⟩
def R_within : List D → D → Prop := fun ds d => ∃ v lo hi, ds = [.int v, dO lo, dO hi] ∧ d = .bl (within v lo hi)
theorem ok_is_within (F : FnT K mg 16 "is_within") (K1 : Kn P w K mg base "is_integer" 1 (fun ds d => ∃ i, ds = [.int i] ∧ d = .bl true)) : Kn P w K mg base "is_within" 2 R_within := by
  obtain ⟨f, fd, F, g⟩ := F
  refine kn_of F g sc_is_within (fun ds d h => by obtain ⟨_, _, _, rfl, _⟩ := h; rfl) (fun _ _ _ _ _ _ us hl => match us, hl with | [_, _, _], _ => rfl) ?_
  rintro cdv A outer s H E hr ds d ⟨v, lo, hi, rfl, rfl⟩
  refine ss_cons (s_ifF0 (t_not (p := true) (t_val (d_call K1 hr (a_cons (d_var 0) a_nil) ⟨v, rfl, rfl⟩))) ?_)
  refine ss_cons (s_ret (d_and (p := match lo with | none => true | some l => decide (l ≤ v)) (q := match hi with | none => true | some h => decide (v ≤ h)) ?_ fun _ => d_one ?_) rfl)
  · cases lo with
    | none => exact DE.eq (d_or (q := true) (d_isN (d_var 1)) fun h => by exact (nomatch (show true = false from h))) (by rfl)
    | some l => exact DE.eq (d_or (d_isN (d_var 1)) fun _ => d_one (d_ge (d_var 0) (d_var 1))) (by exact congrArg D.bl (Bool.false_or _))
  · cases hi with
    | none => exact DE.eq (d_or (q := true) (d_isN (d_var 2)) fun h => by exact (nomatch (show true = false from h))) (by rfl)
    | some l => exact DE.eq (d_or (d_isN (d_var 2)) fun _ => d_one (d_le (d_var 0) (d_var 2))) (by exact congrArg D.bl (Bool.false_or _))
theorem sc_need_number : FnScope ["value", "part", "least", "most"] ["value", "part", "least", "most"] (defScope (top 17)) := ⟨rfl, rfl, rfl, by decide +kernel, rfl, by decide +kernel, by decide +kernel⟩
def R_number : List D → D → Prop := fun ds d => ∃ v x lo hi, ds = [.int v, .str x, dO lo, dO hi] ∧ within v lo hi = true ∧ d = .non
theorem ok_need_number (F : FnT K mg 17 "need_number") (K1 : Kn P w K mg base "is_within" 2 R_within) : Kn P w K mg base "need_number" 3 R_number := by
  obtain ⟨f, fd, F, g⟩ := F
  refine kn_of F g sc_need_number (fun ds d h => by obtain ⟨_, _, _, _, rfl, _⟩ := h; rfl) (fun _ _ _ _ _ _ us hl => match us, hl with | [_, _, _, _], _ => rfl) ?_
  rintro cdv A outer s H E hr ds d ⟨v, x, lo, hi, rfl, h, rfl⟩
  refine ss_cons (s_ifF0 (t_not (p := true) (t_val (DE.eq (d_call K1 hr (a_cons (d_var 0) (a_cons (d_var 2) (a_cons (d_var 3) a_nil))) ⟨v, lo, hi, rfl, rfl⟩) (by rw [h])))) (ss_nil rfl))
theorem sc_need_q : FnScope ["value"] ["value"] (defScope (top 18)) := ⟨rfl, rfl, rfl, by decide +kernel, rfl, by decide +kernel, by decide +kernel⟩
def R_q : List D → D → Prop := fun ds d => ∃ q : Int, ds = [.int q] ∧ 2 ≤ q ∧ q ≤ 64 ∧ d = .non
theorem ok_need_q (C : Cs K mg) (F : FnT K mg 18 "need_q") (K1 : Kn P w K mg base "need_number" 3 R_number) : Kn P w K mg base "need_q" 4 R_q := by
  obtain ⟨f, fd, F, g⟩ := F
  refine kn_of F g sc_need_q (fun ds d h => by obtain ⟨_, rfl, _⟩ := h; rfl) (fun _ _ _ _ _ _ us hl => match us, hl with | [_], _ => rfl) ?_
  rintro cdv A outer s H E hr ds d ⟨q, rfl, h1, h2, rfl⟩
  refine ss_cons (s_expr (d_call K1 hr (a_cons (d_var 0) (a_cons d_str (a_cons (d_glob C.lq) (a_cons (d_glob C.mq) a_nil)))) ⟨q, _, some 2, some 64, rfl, by simp [within, h1, h2], rfl⟩) (ss_nil rfl))
theorem sc_need_size : FnScope ["value", "part"] ["value", "part"] (defScope (top 19)) := ⟨rfl, rfl, rfl, by decide +kernel, rfl, by decide +kernel, by decide +kernel⟩
def R_size : List D → D → Prop := fun ds d => ∃ z : Int, ds = [.int z] ∧ 1 ≤ z ∧ z ≤ 4096 ∧ d = .non
theorem ok_need_size (C : Cs K mg) (F : FnTD K mg 19 "need_size" (.str "size")) (K1 : Kn P w K mg base "need_number" 3 R_number) : Kn P w K mg base "need_size" 4 R_size := by
  obtain ⟨f, fd, F, g⟩ := F
  refine kn_ofD 1 F g sc_need_size rfl (fun ds d h => by obtain ⟨_, rfl, _⟩ := h; rfl) (fun H => .str _) (fun T kV doc pm an cdv ct us its hl hi => ?_) ?_
  · match us, hl, its, hi with
    | [u], _, [i], _ => exact ⟨_, rfl, rfl⟩
  · rintro cdv A outer s H E hr ds d ⟨z, rfl, h1, h2, rfl⟩
    refine ss_cons (s_expr (d_call K1 hr (a_cons (d_var 0) (a_cons (d_var 1) (a_cons d_int (a_cons (d_glob C.ms) a_nil)))) ⟨z, _, some 1, some 4096, rfl, by simp [within, h1, h2], rfl⟩) (ss_nil rfl))
theorem sc_fixed : FnScope ["value", "part"] ["value"] (defScope (top 21)) := ⟨rfl, rfl, rfl, by decide +kernel, rfl, by decide +kernel, by decide +kernel⟩
/-- how long lists may be -/
def smallD : Nat → D → Bool
  | 0, _ => true
  | n + 1, .tup ds => decide (ds.length ≤ 1000000) && ds.attach.all fun ⟨d, _⟩ => smallD n d
  | n + 1, .lst ds => decide (ds.length ≤ 1000000) && ds.attach.all fun ⟨d, _⟩ => smallD n d
  | _ + 1, _ => true
def R_fixed (n : Nat) : List D → D → Prop := fun ds d => ∃ x, ds = [x] ∧ fixOk n x = true ∧ smallD n x = true ∧ d = fixD x
theorem ok_fixed (T : Tx mg) (F : FnT K mg 21 "fixed") (NL : ∀ X : Cx, X.K = K → X.mg = mg → IsNo X "Layout") : ∀ n, Kn P w K mg base "fixed" (n + 1) (R_fixed n) := by
  obtain ⟨f, fd, F, g⟩ := F
  intro n
  induction n with
  | zero =>
    refine kn_of F g sc_fixed (fun ds d h => by obtain ⟨_, rfl, _⟩ := h; rfl) (fun _ _ _ _ _ _ us hl => match us, hl with | [_], _ => rfl) ?_
    rintro cdv A outer s H E hr ds d ⟨x, rfl, h, _, rfl⟩
    have : fixOk 0 x = false := by cases x <;> rfl
    rw [this] at h
    cases h
  | succ n ih =>
    refine kn_of F g sc_fixed (fun ds d h => by obtain ⟨_, rfl, _⟩ := h; rfl) (fun _ _ _ _ _ _ us hl => match us, hl with | [_], _ => rfl) ?_
    rintro cdv A outer s H E hr ds d ⟨x, rfl, h, hz, rfl⟩
    cases x with
    | tup xs =>
      have h : fixOks n xs = true := h
      rw [fixOks_all, List.all_eq_true] at h
      have hz : (decide (xs.length ≤ 1000000) && xs.attach.all fun ⟨d, _⟩ => smallD n d) = true := by rw [smallD] at hz; exact hz
      rw [Bool.and_eq_true, decide_eq_true_eq, List.all_eq_true] at hz
      refine ss_cons (s_ifT (t_val (d_isTT (T := "tuple") (T1 := "list") (T2 := "tuple") (r1 := false) (r2 := true) T.isinstance (d_var 0) T.list (by decide +kernel) T.tuple (by decide +kernel) rfl (by decide +kernel) (by decide +kernel))) ?_)
      refine ss_cons (s_ret (DE.eq (d_tupleL T.tuple (DF.de (f_lc (p := .nm 1) (xs := xs) (enc := id) (f := fixD) [("part", 1)] sc_fixed.nd (i_tup (DE.eq (d_var 0) (by rw [List.map_id]))) (blkOk_by (by kernel_rfl)) (fun _ _ _ _ _ => g_nm 1 sc_fixed.nd) (by decide) hz.1 (fun x hx => ⟨_, rfl, fun _ _ _ _ _ => (d_call ih hr (a_cons (d_var 1) a_nil) ⟨x, rfl, h x hx, hz.2 ⟨x, hx⟩ (List.mem_attach _ _), rfl⟩ (Nat.le_refl _))⟩)))) (by rw [fixD, fixDs_map])) rfl)
    | lst xs =>
      have h : fixOks n xs = true := h
      rw [fixOks_all, List.all_eq_true] at h
      have hz : (decide (xs.length ≤ 1000000) && xs.attach.all fun ⟨d, _⟩ => smallD n d) = true := by rw [smallD] at hz; exact hz
      rw [Bool.and_eq_true, decide_eq_true_eq, List.all_eq_true] at hz
      refine ss_cons (s_ifT (t_val (d_isTT (T := "list") (T1 := "list") (T2 := "tuple") (r1 := true) (r2 := false) T.isinstance (d_var 0) T.list (by decide +kernel) T.tuple (by decide +kernel) rfl (by decide +kernel) (by decide +kernel))) ?_)
      refine ss_cons (s_ret (DE.eq (d_tupleL T.tuple (DF.de (f_lc (p := .nm 1) (xs := xs) (enc := id) (f := fixD) [("part", 1)] sc_fixed.nd (i_lst (DE.eq (d_var 0) (by rw [List.map_id]))) (blkOk_by (by kernel_rfl)) (fun _ _ _ _ _ => g_nm 1 sc_fixed.nd) (by decide) hz.1 (fun x hx => ⟨_, rfl, fun _ _ _ _ _ => (d_call ih hr (a_cons (d_var 1) a_nil) ⟨x, rfl, h x hx, hz.2 ⟨x, hx⟩ (List.mem_attach _ _), rfl⟩ (Nat.le_refl _))⟩)))) (by rw [fixD, fixDs_map])) rfl)
    | int i =>
      refine ss_cons (s_ifF0 (t_val (d_isTT (T := "int") (T1 := "list") (T2 := "tuple") (r1 := false) (r2 := false) T.isinstance (d_var 0) T.list (by decide +kernel) T.tuple (by decide +kernel) rfl (by decide +kernel) (by decide +kernel))) ?_)
      exact ss_cons (s_ret (d_var 0) rfl)
    | str i =>
      refine ss_cons (s_ifF0 (t_val (d_isTT (T := "str") (T1 := "list") (T2 := "tuple") (r1 := false) (r2 := false) T.isinstance (d_var 0) T.list (by decide +kernel) T.tuple (by decide +kernel) rfl (by decide +kernel) (by decide +kernel))) ?_)
      exact ss_cons (s_ret (d_var 0) rfl)
    | obj c fs =>
      have h : (c == ("Layout" : Str)) = true := h
      cases beq_iff_eq.mp h
      refine ss_cons (s_ifF0 (t_val (d_isNo T.isinstance (d_var 0) T.list T.tuple (NL _ rfl rfl))) ?_)
      exact ss_cons (s_ret (d_var 0) rfl)
    | _ => cases h
theorem sc_rank_in : FnScope ["size"] ["size"] (defScope (top 34)) := ⟨rfl, rfl, rfl, by decide +kernel, rfl, by decide +kernel, by decide +kernel⟩
def R_rank : List D → D → Prop := fun ds d => ∃ z : Int, ds = [.int z] ∧ 1 ≤ z ∧ d = .int (rk z)
theorem bits_rk {z : Int} (h : 1 ≤ z) : ((Builtin.Int.intBits z : Nat) : Int) - 1 = rk z := by
  unfold Builtin.Int.intBits rk
  have h0 : (z == 0) = false := by simp; omega
  have e : z.natAbs = z.toNat := by omega
  rw [h0, e]
  simp
theorem ok_rank_in (F : FnT K mg 34 "rank_in") : Kn P w K mg base "rank_in" 1 R_rank := by
  obtain ⟨f, fd, F, g⟩ := F
  refine kn_of F g sc_rank_in (fun ds d h => by obtain ⟨_, rfl, _⟩ := h; rfl) (fun _ _ _ _ _ _ us hl => match us, hl with | [_], _ => rfl) ?_
  rintro cdv A outer s H E hr ds d ⟨z, rfl, hz, rfl⟩
  refine ss_cons (s_ret (DE.eq (d_sub (d_bits (d_var 0)) d_int) (by rw [bits_rk hz])) rfl)
theorem sc_cells_of : FnScope ["things", "_", "size"] ["things"] (defScope (top 35)) := ⟨rfl, rfl, rfl, by decide +kernel, rfl, by decide +kernel, by decide +kernel⟩
def R_cells : List D → D → Prop := fun ds d => ∃ (x : D) (ts : List Th), ds = [x] ∧ Sqd x (ts.map dTh) ∧ ts.length ≤ 1000 ∧ d = .int (cells ts)
theorem ok_cells_of (T : Tx mg) (F : FnT K mg 35 "cells_of") : Kn P w K mg base "cells_of" 1 R_cells := by
  obtain ⟨f, fd, F, g⟩ := F
  refine kn_of F g sc_cells_of (fun ds d h => by obtain ⟨x, ts, rfl, _⟩ := h; rfl) (fun _ _ _ _ _ _ us hl => match us, hl with | [_], _ => rfl) ?_
  rintro cdv A outer s H E hr ds d ⟨x, ts, rfl, hs, hl, rfl⟩
  refine ss_cons (s_ret (d_sum T.sum (DF.de (f_lc (p := .tp [.nm 1, .nm 1, .nm 2]) (xs := ts) (enc := dTh) [("_", 1), ("size", 2)] sc_cells_of.nd ?_ (blkOk_by (by kernel_rfl)) (fun _ _ _ _ _ => g_tp (gs_cons (g_nm 1 sc_cells_of.nd) (gs_cons (g_nm 1 sc_cells_of.nd) (gs_cons (g_nm 2 sc_cells_of.nd) gs_nil)))) (by decide) (by omega) (fun t ht => ⟨_, rfl, fun _ _ _ _ _ => d_var 2⟩)))) rfl)
  cases hs with
  | tup => exact i_tup (d_var 0)
  | lst => exact i_lst (d_var 0)


theorem sc_room_of : FnScope ["q", "region"] ["q", "region"] (defScope (top 36)) := ⟨rfl, rfl, rfl, by decide +kernel, rfl, by decide +kernel, by decide +kernel⟩
def R_room : List D → D → Prop := fun ds d => ∃ (q : Int) (g : Rg), ds = [.int q, dRg g] ∧ smR g ∧ 2 ≤ q ∧ q ≤ 64 ∧ d = .int (cells g.p / q)
theorem ok_room_of (F : FnT K mg 36 "room_of") (K1 : Kn P w K mg base "cells_of" 1 R_cells) : Kn P w K mg base "room_of" 2 R_room := by
  obtain ⟨f, fd, F, g⟩ := F
  refine kn_of F g sc_room_of (fun ds d h => by obtain ⟨_, _, rfl, _⟩ := h; rfl) (fun _ _ _ _ _ _ us hl => match us, hl with | [_, _], _ => rfl) ?_
  rintro cdv A outer s H E hr ds d ⟨q, g, rfl, hg, h1, h2, rfl⟩
  refine ss_cons (s_ret (d_fdiv (d_call K1 hr (a_cons (d_ix (d_var 1) (.tup _)) a_nil) ⟨_, g.p, rfl, .tup _, by have := hg.1; omega, rfl⟩) (d_var 0) ⟨by omega, by omega⟩) rfl)
theorem sc_free_in : FnScope ["q", "region"] ["q", "region"] (defScope (top 37)) := ⟨rfl, rfl, rfl, by decide +kernel, rfl, by decide +kernel, by decide +kernel⟩
def R_free : List D → D → Prop := fun ds d => ∃ (q : Int) (g : Rg), ds = [.int q, dRg g] ∧ smR g ∧ 2 ≤ q ∧ q ≤ 64 ∧ d = .int (free q g)
theorem ok_free_in (F : FnT K mg 37 "free_in") (K1 : Kn P w K mg base "cells_of" 1 R_cells) (K2 : Kn P w K mg base "room_of" 2 R_room) : Kn P w K mg base "free_in" 3 R_free := by
  obtain ⟨f, fd, F, g⟩ := F
  refine kn_of F g sc_free_in (fun ds d h => by obtain ⟨_, _, rfl, _⟩ := h; rfl) (fun _ _ _ _ _ _ us hl => match us, hl with | [_, _], _ => rfl) ?_
  rintro cdv A outer s H E hr ds d ⟨q, g, rfl, hg, h1, h2, rfl⟩
  refine ss_cons (s_ret (d_sub (d_call K2 hr (a_cons (d_var 0) (a_cons (d_var 1) a_nil)) ⟨q, g, rfl, hg, h1, h2, rfl⟩) (d_call K1 hr (a_cons (d_ix (d_var 1) (.tup _)) a_nil) ⟨_, g.m, rfl, .tup _, by have := hg.2; omega, rfl⟩)) rfl)
theorem len_allT {g : Rg} : ∀ {gs : List Rg}, g ∈ gs → g.p.length + g.m.length ≤ (allT gs).length
  | x :: gs, h => by
    unfold allT
    rw [List.flatMap_cons, List.length_append, List.length_append]
    rcases List.mem_cons.mp h with rfl | h
    · omega
    · have := len_allT h
      unfold allT at this
      omega
theorem sc_things_in : FnScope ["regions", "thing", "_", "payload", "room"] ["regions"] (defScope (top 38)) := ⟨rfl, rfl, rfl, by decide +kernel, rfl, by decide +kernel, by decide +kernel⟩
def R_things : List D → D → Prop := fun ds d => ∃ gs : List Rg, ds = [dGs gs] ∧ gs.length ≤ 1000 ∧ (allT gs).length ≤ 1000 ∧ d = .lst ((allT gs).map dTh)
theorem ok_things_in (F : FnT K mg 38 "things_in") : Kn P w K mg base "things_in" 1 R_things := by
  obtain ⟨f, fd, F, g⟩ := F
  refine kn_of F g sc_things_in (fun ds d h => by obtain ⟨_, rfl, _⟩ := h; rfl) (fun _ _ _ _ _ _ us hl => match us, hl with | [_], _ => rfl) ?_
  rintro cdv A outer s H E hr ds d ⟨gs, rfl, hl, hl2, rfl⟩
  refine ss_cons (s_ret (DE.eq (DF.de (f_lc2 (p := .tp [.nm 2, .nm 3, .nm 4]) (p1 := .nm 1) (xs := gs) (enc := dRg) (t := fun _ => true) (ys := fun g => g.p ++ g.m) (enc1 := dTh) (t1 := fun _ _ => true) (f := fun _ t => dTh t) [("_", 2), ("payload", 3), ("room", 4), ("thing", 1)] sc_things_in.nd (i_tup (d_var 0)) (blkOk_by (by kernel_rfl)) (fun _ _ _ _ _ => g_tp (gs_cons (g_nm 2 sc_things_in.nd) (gs_cons (g_nm 3 sc_things_in.nd) (gs_cons (g_nm 4 sc_things_in.nd) gs_nil)))) (fun _ _ _ _ _ => g_nm 1 sc_things_in.nd) (by decide) (by decide)
    (fun x hx => ⟨_, rfl, fun _ _ _ _ _ => ts_nil, fun _ => ⟨fun _ _ _ _ _ => (i_lst (DE.eq (d_lst (a_star (d_var 3) (.tup _) (a_star (d_var 4) (.tup _) a_nil)) ?_) (by rw [List.append_nil, List.map_append]))), fun y hy => ⟨_, rfl, fun _ _ _ _ _ => ts_nil, fun ht _ _ _ _ _ => (d_var 1)⟩⟩⟩) ?_)) ?_) rfl)
  · have := len_allT hx
    simp only [List.length_append, List.length_map, List.length_nil]
    have e : sizeLine = 16777216 := rfl
    rw [e]
    omega
  · rw [List.filter_eq_self.mpr fun _ _ => rfl]
    show (allT gs).length ≤ _
    omega
  · rw [List.filter_eq_self.mpr fun _ _ => rfl]
    unfold allT
    rw [List.map_flatMap]
    refine congrArg D.lst ?_
    congr 1
    funext g
    rw [List.filter_eq_self.mpr fun _ _ => rfl]
end
end K76
set_option maxRecDepth 100000
set_option maxHeartbeats 4000000
namespace K76
open PySem PySem.Spec PyProof.Rows L2
section
variable {P : Program} {w : World} {K : PySem.W.Frag} {mg : Str → Option Value} {base : Heap}
theorem ln16 {n : Nat} (h : n ≤ 1000) : n ≤ sizeLine := by
  have e : sizeLine = 16777216 := rfl
  omega
theorem sc_are_things : FnScope ["value", "words", "puts", "_", "size", "thing", "word", "serial"] ["value", "words", "puts"] (defScope (top 39)) := ⟨rfl, rfl, rfl, by decide +kernel, rfl, by decide +kernel, by decide +kernel⟩
def R_arethings : List D → D → Prop := fun ds d => ∃ (ts : List Th) (ws : List Wd) (puts : Int), ds = [.tup (ts.map dTh), .kst (ws.map fun w => .str w.t), .int puts] ∧ ts.length ≤ 200 ∧ (∀ t ∈ ts, thOk puts ws t) ∧ d = .bl true
theorem within_of {v lo hi : Int} (h1 : lo ≤ v) (h2 : v ≤ hi) : within v (some lo) (some hi) = true := by simp [within, h1, h2]
theorem any_wd {w : Wd} {ws : List Wd} (h : w ∈ ws) : ((ws.map Wd.t).any fun z => decide (z = w.t)) = true := List.any_eq_true.mpr ⟨w.t, List.mem_map.mpr ⟨w, h, rfl⟩, decide_eq_true rfl⟩
theorem ok_are_things (T : Tx mg) (C : Cs K mg) (F : FnT K mg 39 "are_things") (K1 : Kn P w K mg base "is_within" 2 R_within) : Kn P w K mg base "are_things" 3 R_arethings := by
  obtain ⟨f, fd, F, g⟩ := F
  refine kn_of F g sc_are_things (fun ds d h => by obtain ⟨_, _, _, rfl, _⟩ := h; rfl) (fun _ _ _ _ _ _ us hl => match us, hl with | [_, _, _], _ => rfl) ?_
  rintro cdv A outer s H E hr ds d ⟨ts, ws, puts, rfl, hl, hok, rfl⟩
  have nd := sc_are_things.nd
  refine ss_cons (s_ifF0 (DT.eq (DW.t (w_or (t_not (p := true) (t_val (d_isT (T := "tuple") (U := "tuple") T.isinstance (d_var 0) T.tuple (by decide +kernel) rfl (by decide +kernel)))) fun _ => w_or1 (t_not (t_val (d_all (xs := ts) (f := fun _ => true) T.all (DF.de
    (f_lc (p := .nm 5) (xs := ts) (enc := dTh) [("thing", 5)] nd (i_tup (d_var 0)) (blkOk_by (by kernel_rfl)) (fun _ _ _ _ _ => g_nm 5 nd) (by decide) (by omega) (fun t ht => ⟨_, rfl, fun _ _ _ _ _ =>
      DE.eq (d_and (p := true) (d_isT (T := "tuple") (U := "tuple") T.isinstance (d_var 5) T.tuple (by decide +kernel) rfl (by decide +kernel)) fun _ => d_one (d_eqI (d_len T.len (d_var 5) (.tup _)) d_int)) rfl⟩)))))))) ?_) ?_)
  · rw [List.all_eq_true.mpr fun _ _ => rfl]; rfl
  refine ss_cons (s_ifF0 (DT.eq (t_not (t_val (d_all (xs := ts) (f := fun _ => true) T.all (DF.de
    (f_lc (p := .tp [.nm 6, .nm 7, .nm 3]) (xs := ts) (enc := dTh) [("word", 6), ("serial", 7), ("_", 3)] nd (i_tup (d_var 0)) (blkOk_by (by kernel_rfl)) (fun _ _ _ _ _ => g_tp (gs_cons (g_nm 6 nd) (gs_cons (g_nm 7 nd) (gs_cons (g_nm 3 nd) gs_nil)))) (by decide) (by omega) (fun t ht => ⟨_, rfl, fun _ _ _ _ _ => ?_⟩)))))) ?_) ?_)
  · obtain ⟨h1, h2, h3, h4, h5⟩ := hok t ht
    refine DE.eq (d_and (d_inS (ws := ws.map Wd.t) (d_var 6) (DE.eq (d_var 1) (by rw [List.map_map]; rfl))) fun _ => d_one (d_call K1 hr (a_cons (d_var 7) (a_cons d_int (a_cons (d_sub (d_var 2) d_int) a_nil))) ⟨t.s, some 0, some (puts - 1), rfl, rfl⟩)) ?_
    rw [any_wd h1, within_of h2 h3]; rfl
  · rw [List.all_eq_true.mpr fun _ _ => rfl]; rfl
  refine ss_cons (s_ret (DE.eq (d_all (xs := ts) (f := fun _ => true) T.all (DF.de
    (f_lc (p := .tp [.nm 3, .nm 3, .nm 4]) (xs := ts) (enc := dTh) [("_", 3), ("size", 4)] nd (i_tup (d_var 0)) (blkOk_by (by kernel_rfl)) (fun _ _ _ _ _ => g_tp (gs_cons (g_nm 3 nd) (gs_cons (g_nm 3 nd) (gs_cons (g_nm 4 nd) gs_nil)))) (by decide) (by omega) (fun t ht => ⟨_, rfl, fun _ _ _ _ _ => ?_⟩)))) ?_) rfl)
  · obtain ⟨h1, h2, h3, h4, h5⟩ := hok t ht
    exact DE.eq (d_call K1 hr (a_cons (d_var 4) (a_cons d_int (a_cons (d_glob C.ms) a_nil))) ⟨t.z, some 1, some 4096, rfl, rfl⟩) (by rw [within_of h4 h5])
  · rw [List.all_eq_true.mpr fun _ _ => rfl]
theorem sc_is_region : FnScope ["value", "puts"] ["value", "puts"] (defScope (top 40)) := ⟨rfl, rfl, rfl, by decide +kernel, rfl, by decide +kernel, by decide +kernel⟩
def R_isregion : List D → D → Prop := fun ds d => ∃ (g : Rg) (puts : Int), ds = [dRg g, .int puts] ∧ RgOk puts g ∧ d = .bl true
theorem ok_is_region (T : Tx mg) (C : Cs K mg) (F : FnT K mg 40 "is_region") (K1 : Kn P w K mg base "is_within" 2 R_within) (K2 : Kn P w K mg base "are_things" 3 R_arethings) : Kn P w K mg base "is_region" 4 R_isregion := by
  obtain ⟨f, fd, F, g⟩ := F
  refine kn_of F g sc_is_region (fun ds d h => by obtain ⟨_, _, rfl, _⟩ := h; rfl) (fun _ _ _ _ _ _ us hl => match us, hl with | [_, _], _ => rfl) ?_
  rintro cdv A outer s H E hr ds d ⟨g, puts, rfl, hg, rfl⟩
  refine ss_cons (s_ifF0 (DT.eq (DW.t (w_or (t_not (p := true) (t_val (d_isT (T := "tuple") (U := "tuple") T.isinstance (d_var 0) T.tuple (by decide +kernel) rfl (by decide +kernel)))) fun _ => w_or (t_neI (d_len T.len (d_var 0) (.tup _)) d_int) fun _ => w_or1 (t_not (t_val (d_call K1 hr (a_cons (d_ix (d_var 0) (.tup _)) (a_cons d_int (a_cons (d_glob C.mr) a_nil))) ⟨g.r, some 0, some 12, rfl, rfl⟩))))) ?_) ?_)
  · rw [within_of hg.r0 hg.r12]; rfl
  have e1 : (g.p.map dTh).length = g.p.length := List.length_map _
  refine ss_cons (s_ret (DE.eq (d_and (p := true) (q := true) (d_call K2 hr (a_cons (d_ix (d_var 0) (.tup _)) (a_cons (d_glob C.pw) (a_cons (d_var 1) a_nil))) ⟨g.p, [.file, .hole], puts, rfl, hg.sm.1, hg.p, rfl⟩) fun _ => d_and (p := true) (q := true) (DE.eq (d_neD hr (d_ix (d_var 0) (.tup _)) (d_tup a_nil) (cmp_tup g.p fun t _ => plain_th t) cmp_nilT) ?_) fun _ => d_one
    (d_call K2 hr (a_cons (d_ix (d_var 0) (.tup _)) (a_cons (d_glob C.rw) (a_cons (d_var 1) a_nil))) ⟨g.m, [.file, .gone, .shade], puts, rfl, hg.sm.2, hg.m, rfl⟩)) rfl) rfl)
  cases hp : g.p with
  | nil => exact absurd hp hg.p0
  | cons t ts => rw [List.map_cons, eqD_nil]; rfl
theorem sc_are_regions : FnScope ["value", "puts", "one", "other", "region"] ["value", "puts"] (defScope (top 41)) := ⟨rfl, rfl, rfl, by decide +kernel, rfl, by decide +kernel, by decide +kernel⟩
def R_areregions : List D → D → Prop := fun ds d => ∃ (gs : List Rg) (puts : Int), ds = [dGs gs, .int puts] ∧ gs.length ≤ 13 ∧ (∀ g ∈ gs, RgOk puts g) ∧ (gs.Pairwise fun a b => a.r < b.r) ∧ d = .bl true
theorem ok_are_regions (T : Tx mg) (F : FnT K mg 41 "are_regions") (K1 : Kn P w K mg base "is_region" 4 R_isregion) : Kn P w K mg base "are_regions" 5 R_areregions := by
  obtain ⟨f, fd, F, g⟩ := F
  refine kn_of F g sc_are_regions (fun ds d h => by obtain ⟨_, _, rfl, _⟩ := h; rfl) (fun _ _ _ _ _ _ us hl => match us, hl with | [_, _], _ => rfl) ?_
  rintro cdv A outer s H E hr ds d ⟨gs, puts, rfl, hl, hg, hp, rfl⟩
  have nd := sc_are_regions.nd
  refine ss_cons (s_ifF0 (DT.eq (DW.t (w_or (t_not (p := true) (t_val (d_isT (T := "tuple") (U := "tuple") T.isinstance (d_var 0) T.tuple (by decide +kernel) rfl (by decide +kernel)))) fun _ => w_or1 (t_not (t_val (d_all (xs := gs) (f := fun _ => true) T.all (DF.de
    (f_lc (p := .nm 4) (xs := gs) (enc := dRg) [("region", 4)] nd (i_tup (d_var 0)) (blkOk_by (by kernel_rfl)) (fun _ _ _ _ _ => g_nm 4 nd) (by decide) (by omega) (fun g hx => ⟨_, rfl, fun _ _ _ _ _ => d_call K1 hr (a_cons (d_var 4) (a_cons (d_var 1) a_nil)) ⟨g, puts, rfl, hg g hx, rfl⟩⟩)))))))) ?_) ?_)
  · rw [List.all_eq_true.mpr fun _ _ => rfl]; rfl
  refine ss_cons (s_ret (DE.eq (d_all (xs := gs.zip (gs.drop 1)) (f := fun _ => true) T.all (DF.de
    (f_lc (p := .tp [.nm 2, .nm 3]) (xs := gs.zip (gs.drop 1)) (enc := dZp dRg dRg) [("one", 2), ("other", 3)] nd (i_zipTT T.zip (d_var 0) (DE.eq (d_sliceT (d_var 0) (o_some (i := ((1 : Nat) : Int)) d_int) o_none) (by rw [cut_drop, ← List.map_drop]))) (blkOk_by (by kernel_rfl)) (fun _ _ _ _ _ => g_tp (gs_cons (g_nm 2 nd) (gs_cons (g_nm 3 nd) gs_nil))) (by decide) ?_
      (fun p hx => ⟨_, rfl, fun _ _ _ _ _ => DE.eq (d_lt (d_ix (d_var 2) (.tup _)) (d_ix (d_var 3) (.tup _))) (by rw [decide_eq_true (zip_tail hp p hx)])⟩)))) ?_) rfl)
  · rw [List.length_zip]; omega
  · rw [List.all_eq_true.mpr fun _ _ => rfl]
theorem sc_are_ranked : FnScope ["q", "region", "rank", "payload", "room", "_", "size", "one", "other"] ["q", "region"] (defScope (top 42)) := ⟨rfl, rfl, rfl, by decide +kernel, rfl, by decide +kernel, by decide +kernel⟩
def R_areranked : List D → D → Prop := fun ds d => ∃ (q puts : Int) (g : Rg), ds = [.int q, dRg g] ∧ 2 ≤ q ∧ q ≤ 64 ∧ RgOk puts g ∧ Ranked q g ∧ d = .bl true
theorem ok_are_ranked (T : Tx mg) (F : FnT K mg 42 "are_ranked") (K1 : Kn P w K mg base "rank_in" 1 R_rank) (K2 : Kn P w K mg base "free_in" 3 R_free) : Kn P w K mg base "are_ranked" 4 R_areranked := by
  obtain ⟨f, fd, F, g⟩ := F
  refine kn_of F g sc_are_ranked (fun ds d h => by obtain ⟨_, _, _, rfl, _⟩ := h; rfl) (fun _ _ _ _ _ _ us hl => match us, hl with | [_, _], _ => rfl) ?_
  rintro cdv A outer s H E hr ds d ⟨q, puts, g, rfl, q1, q2, hg, hk, rfl⟩
  have nd := sc_are_ranked.nd
  have sm := hg.sm
  unfold smR at sm
  refine ss_cons (s_asg (p := .tp [.nm 2, .nm 3, .nm 4]) (d_var 1) (g_tp (gs_cons (g_nm 2 nd) (gs_cons (g_nm 3 nd) (gs_cons (g_nm 4 nd) gs_nil)))) rfl ?_)
  refine ss_cons (s_ifF0 (DT.eq (t_not (t_val (d_all (xs := g.p) (f := fun _ => true) T.all (DF.de
    (f_lc (p := .tp [.nm 5, .nm 5, .nm 6]) (xs := g.p) (enc := dTh) [("_", 5), ("size", 6)] nd (i_tup (d_var 3)) (blkOk_by (by kernel_rfl)) (fun _ _ _ _ _ => g_tp (gs_cons (g_nm 5 nd) (gs_cons (g_nm 5 nd) (gs_cons (g_nm 6 nd) gs_nil)))) (by decide) (by omega) (fun t ht => ⟨_, rfl, fun _ _ _ _ _ =>
      DE.eq (d_eqI (d_call K1 hr (a_cons (d_var 6) a_nil) ⟨t.z, rfl, (hg.p t ht).2.2.2.1, rfl⟩) (d_var 2)) (by rw [decide_eq_true (hk.p t ht)])⟩)))))) ?_) ?_)
  · rw [List.all_eq_true.mpr fun _ _ => rfl]; rfl
  refine ss_cons (s_ifF0 (DT.eq (t_not (t_val (d_all (xs := g.m) (f := fun _ => true) T.all (DF.de
    (f_lc (p := .tp [.nm 5, .nm 5, .nm 6]) (xs := g.m) (enc := dTh) [("_", 5), ("size", 6)] nd (i_tup (d_var 4)) (blkOk_by (by kernel_rfl)) (fun _ _ _ _ _ => g_tp (gs_cons (g_nm 5 nd) (gs_cons (g_nm 5 nd) (gs_cons (g_nm 6 nd) gs_nil)))) (by decide) (by omega) (fun t ht => ⟨_, rfl, fun _ _ _ _ _ =>
      DE.eq (d_le (d_call K1 hr (a_cons (d_var 6) a_nil) ⟨t.z, rfl, (hg.m t ht).2.2.2.1, rfl⟩) (d_var 2)) (by rw [decide_eq_true (hk.m t ht)])⟩)))))) ?_) ?_)
  · rw [List.all_eq_true.mpr fun _ _ => rfl]; rfl
  refine ss_cons (s_ret (DE.eq (d_and (p := true) (q := true) (DE.eq (d_all (xs := g.p.zip (g.p.drop 1)) (f := fun _ => true) T.all (DF.de
    (f_lc (p := .tp [.nm 7, .nm 8]) (xs := g.p.zip (g.p.drop 1)) (enc := dZp dTh dTh) [("one", 7), ("other", 8)] nd (i_zipTT T.zip (d_var 3) (DE.eq (d_sliceT (d_var 3) (o_some (i := ((1 : Nat) : Int)) d_int) o_none) (by rw [cut_drop, ← List.map_drop]))) (blkOk_by (by kernel_rfl)) (fun _ _ _ _ _ => g_tp (gs_cons (g_nm 7 nd) (gs_cons (g_nm 8 nd) gs_nil))) (by decide) ?_
      (fun p hx => ⟨_, rfl, fun _ _ _ _ _ => DE.eq (d_lt (d_ix (d_var 7) (.tup _)) (d_ix (d_var 8) (.tup _))) (by rw [decide_eq_true (zip_tail hk.asc p hx)])⟩)))) ?_) fun _ => d_one
    (DE.eq (d_ge (d_call K2 hr (a_cons (d_var 0) (a_cons (d_var 1) a_nil)) ⟨q, g, rfl, hg.sm, q1, q2, rfl⟩) d_int) (by rw [decide_eq_true hk.fr]))) rfl) rfl)
  · rw [List.length_zip]; omega
  · rw [List.all_eq_true.mpr fun _ _ => rfl]
end
end K76
set_option maxRecDepth 100000
set_option maxHeartbeats 4000000
namespace K76
open PySem PySem.Spec PyProof.Rows L2
section
variable {P : Program} {w : World} {K : PySem.W.Frag} {mg : Str → Option Value} {base : Heap}
theorem nx {α : Prop} (h : α) : α := h
theorem dec_wd {a b : Wd} : decide (a.t = b.t) = decide (a = b) := decide_eq_decide.mpr Wd.t_inj
theorem sc_are_apart : FnScope ["regions", "things", "serials", "holes", "shades", "word", "serial", "_", "size"] ["regions"] (defScope (top 43)) := ⟨rfl, rfl, rfl, by decide +kernel, rfl, by decide +kernel, by decide +kernel⟩
def R_areapart : List D → D → Prop := fun ds d => ∃ (q puts : Int) (gs : List Rg), ds = [dGs gs] ∧ Lawful q puts gs ∧ d = .bl true
theorem ok_are_apart (T : Tx mg) (C : Cs K mg) (F : FnT K mg 43 "are_apart") (K1 : Kn P w K mg base "things_in" 1 R_things) : Kn P w K mg base "are_apart" 2 R_areapart := by
  obtain ⟨f, fd, F, g⟩ := F
  refine kn_of F g sc_are_apart (fun ds d h => by obtain ⟨_, _, _, rfl, _⟩ := h; rfl) (fun _ _ _ _ _ _ us hl => match us, hl with | [_], _ => rfl) ?_
  rintro cdv A outer s H E hr ds d ⟨q, puts, gs, rfl, L, rfl⟩
  have nd := sc_are_apart.nd
  have len := L.len2
  have hfl : ∀ p : Th → Bool, ((allT gs).filter p).length ≤ 200 := fun p => Nat.le_trans (List.length_filter_le _ _) len
  refine ss_cons (s_set 1 nd (d_call K1 hr (a_cons (d_var 0) a_nil) ⟨gs, rfl, by have := L.len; omega, by omega, rfl⟩) ?_)
  refine ss_cons (s_setLc 2 nd (LJ.eq (j_lcIf (p := .tp [.nm 5, .nm 6, .nm 7]) (xs := allT gs) (enc := dTh) (t := fun t => !decide (t.w = .shade)) (f := fun t => .int t.s) [("word", 5), ("serial", 6), ("_", 7)] nd (i_lst (d_var 1)) (blkOk_by (by kernel_rfl)) (fun _ _ _ _ _ => g_tp (gs_cons (g_nm 5 nd) (gs_cons (g_nm 6 nd) (gs_cons (g_nm 7 nd) gs_nil)))) (by decide) (by omega) (fun t hx => ⟨_, rfl, fun _ _ _ _ _ => DT.eq (t_neS (d_var 5) (d_glob C.shade)) (congrArg (!·) (dec_wd (b := .shade))), fun ht _ _ _ _ _ => (d_var 6)⟩))
    (show _ = (serials (allT gs)).map D.int by unfold serials; rw [List.map_map]; rfl)) ?_)
  refine ss_cons (s_setLc 3 nd (LJ.eq (j_lcIf (p := .tp [.nm 5, .nm 6, .nm 8]) (xs := allT gs) (enc := dTh) (t := fun t => decide (t.w = .hole)) (f := fun t => dPr (t.s, t.z)) [("word", 5), ("serial", 6), ("size", 8)] nd (i_lst (d_var 1)) (blkOk_by (by kernel_rfl)) (fun _ _ _ _ _ => g_tp (gs_cons (g_nm 5 nd) (gs_cons (g_nm 6 nd) (gs_cons (g_nm 8 nd) gs_nil)))) (by decide) (by omega) (fun t hx => ⟨_, rfl, fun _ _ _ _ _ => DT.eq (t_eqS (d_var 5) (d_glob C.hole)) (dec_wd (b := .hole)), fun ht _ _ _ _ _ => (d_tup (a_cons (d_var 6) (a_cons (d_var 8) a_nil)))⟩))
    (show _ = (pairsW .hole (allT gs)).map dPr by unfold pairsW; rw [List.map_map]; rfl)) ?_)
  refine ss_cons (s_setLc 4 nd (LJ.eq (j_lcIf (p := .tp [.nm 5, .nm 6, .nm 8]) (xs := allT gs) (enc := dTh) (t := fun t => decide (t.w = .shade)) (f := fun t => dPr (t.s, t.z)) [("word", 5), ("serial", 6), ("size", 8)] nd (i_lst (d_var 1)) (blkOk_by (by kernel_rfl)) (fun _ _ _ _ _ => g_tp (gs_cons (g_nm 5 nd) (gs_cons (g_nm 6 nd) (gs_cons (g_nm 8 nd) gs_nil)))) (by decide) (by omega) (fun t hx => ⟨_, rfl, fun _ _ _ _ _ => DT.eq (t_eqS (d_var 5) (d_glob C.shade)) (dec_wd (b := .shade)), fun ht _ _ _ _ _ => (d_tup (a_cons (d_var 6) (a_cons (d_var 8) a_nil)))⟩))
    (show _ = (pairsW .shade (allT gs)).map dPr by unfold pairsW; rw [List.map_map]; rfl)) ?_)
  refine ss_cons (s_ret (DE.eq (d_and (p := true) (q := true) (DE.eq (d_eqI (d_lenSet T.len T.set (d_var 2) L.ser (by unfold serials; rw [List.length_map]; have := hfl fun t => !decide (t.w = .shade); omega) (fun h => RZ.pe_lenSetI rfl T.len rfl T.set h)) (d_len T.len (d_var 2) (.lst _))) ?_) fun _ => d_one
    (DE.eq (d_eqD hr (DF.de (f_sortedP (qs := sortP (pairsW .hole (allT gs))) T.sorted (d_var 3) (sortP_perm _) (sortP_sorted _))) (DF.de (f_sortedP (qs := sortP (pairsW .hole (allT gs))) T.sorted (d_var 4) ((sortP_perm _).trans L.shd) (sortP_sorted _))) (cmp_lst _ fun p _ => plain_pr p) (cmp_lst _ fun p _ => plain_pr p)) ?_)) rfl) rfl)
  · rw [List.length_map, decide_eq_true rfl]
  · rw [eqD_refl (cmp_lst _ fun p _ => plain_pr p).1]
theorem flat_le {gs : List Rg} {f : Rg → List Th} (h : ∀ g, (f g).length ≤ (g.p ++ g.m).length) : (gs.flatMap f).length ≤ (allT gs).length := by
  induction gs with
  | nil => exact Nat.le_refl _
  | cons g gs ih =>
    have := h g
    unfold allT at ih ⊢
    rw [List.flatMap_cons, List.flatMap_cons, List.length_append, List.length_append]
    omega
theorem asc_uniq {a b : Rg} : ∀ {gs : List Rg}, (gs.Pairwise fun a b => a.r < b.r) → a ∈ gs → b ∈ gs → a.r = b.r → a = b
  | g :: gs, hp, ha, hb, e => by
    obtain ⟨h1, h2⟩ := List.pairwise_cons.mp hp
    rcases List.mem_cons.mp ha with ea | ha2
    · rcases List.mem_cons.mp hb with eb | hb2
      · rw [ea, eb]
      · have := h1 _ hb2; rw [ea] at e; omega
    · rcases List.mem_cons.mp hb with eb | hb2
      · have := h1 _ ha2; rw [eb] at e; omega
      · exact asc_uniq h2 ha2 hb2 e
theorem sc_are_later : FnScope ["regions", "last", "things", "thing", "rank", "payload", "_", "room", "serial", "size"] ["regions"] (defScope (top 44)) := ⟨rfl, rfl, rfl, by decide +kernel, rfl, by decide +kernel, by decide +kernel⟩
theorem ok_are_later (T : Tx mg) (C : Cs K mg) (F : FnT K mg 44 "are_later") (K1 : Kn P w K mg base "rank_in" 1 R_rank) : Kn P w K mg base "are_later" 2 R_areapart := by
  obtain ⟨f, fd, F, g⟩ := F
  refine kn_of F g sc_are_later (fun ds d h => by obtain ⟨_, _, _, rfl, _⟩ := h; rfl) (fun _ _ _ _ _ _ us hl => match us, hl with | [_], _ => rfl) ?_
  rintro cdv A outer s H E hr ds d ⟨q, puts, gs, rfl, L, rfl⟩
  have nd := sc_are_later.nd
  have len := L.len2
  have len1 := L.len
  have lastOk : ∀ g ∈ gs, ∃ t, g.p.getLast? = some t ∧ L2.atI (g.p.map dTh) (-1) = some (dTh t) := fun g hg => by
    have h0 := (L.rg g hg).p0
    refine ⟨g.p.getLast h0, List.getLast?_eq_some_getLast h0, ?_⟩
    have e := List.dropLast_concat_getLast h0
    conv => lhs; rw [← e, List.map_append]
    exact atI_last _ _
  refine ss_cons (s_set 1 nd (DE.eq (d_dc (p := .tp [.nm 4, .nm 5, .nm 6]) (xs := gs) (enc := dRg) (kf := Rg.r) (vf := fun g => .int (lastS g)) [("rank", 4), ("payload", 5), ("_", 6)] nd (i_tup (d_var 0)) (blkOk_by (by kernel_rfl)) (fun _ _ _ _ _ => g_tp (gs_cons (g_nm 4 nd) (gs_cons (g_nm 5 nd) (gs_cons (g_nm 6 nd) gs_nil)))) (by decide) (by omega)
    (fun g hg => ⟨_, rfl, fun _ _ _ _ _ => (d_var 4), fun _ _ _ _ _ => ?_⟩)) (show _ = D.dct (dictI Rg.r (fun g => D.int (lastS g)) gs []) from rfl)) ?_)
  · obtain ⟨t, e1, e2⟩ := lastOk g hg
    exact DE.eq (d_ix (z := .int t.s) (d_ixA (d_var 5) (.tup _) (d_neg d_int) e2) (.tup _)) (by unfold lastS; rw [e1]; rfl)
  refine ss_cons (s_setLc2 2 nd (LJ2.eq (j_lc2 (p := .tp [.nm 6, .nm 6, .nm 7]) (p1 := .nm 3) (xs := gs) (enc := dRg) (t := fun _ => true) (ys := fun g => g.m) (enc1 := dTh) (t1 := fun _ t => !decide (t.w = .shade)) (f := fun _ t => dTh t) [("_", 6), ("room", 7), ("thing", 3)] nd (i_tup (d_var 0)) (blkOk_by (by kernel_rfl)) (fun _ _ _ _ _ => g_tp (gs_cons (g_nm 6 nd) (gs_cons (g_nm 6 nd) (gs_cons (g_nm 7 nd) gs_nil)))) (fun _ _ _ _ _ => g_nm 3 nd) (by decide) (by decide)
    (fun g hg => ⟨_, rfl, fun _ _ _ _ _ => ts_nil, fun _ => ⟨fun _ _ _ _ _ => (i_tup (d_var 7)), fun t ht => ⟨_, rfl, fun _ _ _ _ _ => ts_one (DT.eq (t_neS (d_ix (d_var 3) (.tup _)) (d_glob C.shade)) (congrArg (!·) (dec_wd (b := .shade)))), fun _ _ _ _ _ _ => (d_var 3)⟩⟩⟩) ?_)
    (show _ = (gs.flatMap fun g => g.m.filter fun t => !decide (t.w = .shade)).map dTh by rw [List.filter_eq_self.mpr fun _ _ => rfl, List.map_flatMap])) ?_)
  · rw [List.filter_eq_self.mpr fun _ _ => rfl]
    have := flat_le (gs := gs) (f := fun g => g.m) fun g => by rw [List.length_append]; omega
    omega
  refine ss_cons (s_ret (DE.eq (d_all (xs := gs.flatMap fun g => g.m.filter fun t => !decide (t.w = .shade)) (f := fun _ => true) T.all (DF.de
    (f_lc (p := .tp [.nm 6, .nm 8, .nm 9]) (xs := gs.flatMap fun g => g.m.filter fun t => !decide (t.w = .shade)) (enc := dTh) [("_", 6), ("serial", 8), ("size", 9)] nd (i_lst (d_var 2)) (blkOk_by (by kernel_rfl)) (fun _ _ _ _ _ => g_tp (gs_cons (g_nm 6 nd) (gs_cons (g_nm 8 nd) (gs_cons (g_nm 9 nd) gs_nil)))) (by decide) ?_ (fun t ht => ?_)))) ?_) rfl)
  · have := flat_le (gs := gs) (f := fun g => g.m.filter fun t => !decide (t.w = .shade)) fun g => by
      have := List.length_filter_le (fun t => !decide (t.w = .shade)) g.m
      rw [List.length_append]; omega
    omega
  · obtain ⟨g, hg, hm⟩ := List.mem_flatMap.mp ht
    obtain ⟨hm, hw⟩ := List.mem_filter.mp hm
    have hw : t.w ≠ .shade := by simpa using hw
    refine ⟨_, rfl, fun _ _ _ _ _ => ?_⟩
    have hz := ((L.rg g hg).m t hm).2.2.2.1
    by_cases hh : ∃ h ∈ gs, h.r = rk t.z
    · obtain ⟨h, hh, e⟩ := hh
      refine DE.eq (d_gt (d_var 8) (DE.eq (d_getD2 hr (d_var 1) (d_call K1 hr (a_cons (d_var 9) a_nil) ⟨t.z, rfl, hz, rfl⟩) (d_neg d_int)) (show _ = D.int (lastS h) from ?_))) ?_
      · rw [← e, dictI_some hh fun y hy e2 => ?_]
        · rfl
        · rw [asc_uniq L.asc hy hh e2]
      · rw [decide_eq_true (L.later g hg t hm hw h hh e)]
    · refine DE.eq (d_gt (d_var 8) (DE.eq (d_getD2 hr (d_var 1) (d_call K1 hr (a_cons (d_var 9) a_nil) ⟨t.z, rfl, hz, rfl⟩) (d_neg d_int)) (show _ = D.int (-1) from ?_))) ?_
      · rw [dictI_none fun x hx e => hh ⟨x, hx, e⟩]; rfl
      · have := ((L.rg g hg).m t hm).2.1
        rw [decide_eq_true (by omega)]
  · rw [List.all_eq_true.mpr fun _ _ => rfl]
theorem sc_have_passed : FnScope ["q", "regions", "at", "region", "_", "size", "other"] ["q", "regions"] (defScope (top 45)) := ⟨rfl, rfl, rfl, by decide +kernel, rfl, by decide +kernel, by decide +kernel⟩
def R_passed : List D → D → Prop := fun ds d => ∃ (q puts : Int) (gs : List Rg), ds = [.int q, dGs gs] ∧ 2 ≤ q ∧ q ≤ 64 ∧ Lawful q puts gs ∧ d = .bl true
theorem ok_have_passed (T : Tx mg) (F : FnT K mg 45 "have_passed") (K1 : Kn P w K mg base "rank_in" 1 R_rank) (K2 : Kn P w K mg base "free_in" 3 R_free) : Kn P w K mg base "have_passed" 4 R_passed := by
  obtain ⟨f, fd, F, g⟩ := F
  refine kn_of F g sc_have_passed (fun ds d h => by obtain ⟨_, _, _, rfl, _⟩ := h; rfl) (fun _ _ _ _ _ _ us hl => match us, hl with | [_, _], _ => rfl) ?_
  rintro cdv A outer s H E hr ds d ⟨q, puts, gs, rfl, q1, q2, L, rfl⟩
  have nd := sc_have_passed.nd
  have len := L.len
  refine ss_cons (s_for (xs := (List.range gs.length).zip gs) (enc := dEn dRg) (p := .tp [.nm 2, .nm 3]) (i_enumT T.enumerate (d_var 1)) (g_tp (gs_cons (g_nm 2 nd) (gs_cons (g_nm 3 nd) gs_nil)))
    (fun _ ρ => ∃ a b c d : Option Sl, ρ = [some (.val (.int q)), some (.val (dGs gs)), a, b, c, d, none]) ⟨_, _, _, _, rfl⟩ ?_ ?_)
  · rintro i ⟨n, g⟩ ρ hx ⟨a, b, c, d, rfl⟩
    rw [List.getElem?_zip_eq_some] at hx
    obtain ⟨hx1, hx2⟩ := hx
    have hi : i < gs.length := (List.getElem?_eq_some_iff.mp hx2).1
    rw [List.getElem?_range hi] at hx1
    have ei : i = n := by simpa using hx1
    subst ei
    have hg : g ∈ gs := List.mem_of_getElem? hx2
    have hok := L.rg g hg
    have sm := hok.sm
    unfold smR at sm
    refine ⟨_, rfl, ?_⟩
    refine ss_cons (s_for (xs := g.m) (enc := dTh) (p := .tp [.nm 4, .nm 4, .nm 5]) (i_tup (d_ix (d_var 3) (.tup _))) (g_tp (gs_cons (g_nm 4 nd) (gs_cons (g_nm 4 nd) (gs_cons (g_nm 5 nd) gs_nil))))
      (fun _ ρ => ∃ c d : Option Sl, ρ = [some (.val (.int q)), some (.val (dGs gs)), some (.val (.int (i : Nat))), some (.val (dRg g)), c, d, none]) ⟨_, _, rfl⟩ ?_ ?_)
    · rintro j t ρ ht ⟨c, d, rfl⟩
      have ht : t ∈ g.m := List.mem_of_getElem? ht
      refine ⟨_, rfl, ?_⟩
      refine ss_cons (s_ifF0 (DT.eq (t_val (d_any (xs := gs.take i) (f := fun _ => false) T.any (DF.de (f_lc (p := .nm 6) (xs := gs.take i) (enc := dRg) [("other", 6)] nd (i_tup (DE.eq (d_sliceT (d_var 1) o_none (o_some (d_var 2))) (by rw [cut_take, ← List.map_take]))) (blkOk_by (by kernel_rfl)) (fun _ _ _ _ _ => g_nm 6 nd) (by decide) (by rw [List.length_take]; omega)
        (fun h hh => ⟨_, rfl, fun _ _ _ _ _ => DE.eq (d_and (d_le (d_call K1 hr (a_cons (d_var 5) a_nil) ⟨t.z, rfl, (hok.m t ht).2.2.2.1, rfl⟩) (d_ix (d_var 6) (.tup _))) fun _ => (d_one (d_ge (d_call K2 hr (a_cons (d_var 0) (a_cons (d_var 6) a_nil)) ⟨q, h, rfl, (L.rg h (List.mem_of_mem_take hh)).sm, q1, q2, rfl⟩) (d_var 5)))) ?_⟩))))) ?_) (ss_nil ⟨_, _, rfl⟩))
      · have := L.passed i g hx2 t ht h hh
        rw [← Bool.decide_and, decide_eq_false this]
      · rw [List.any_eq_false.mpr fun _ _ => by simp]
    · rintro ρ ⟨c, d, rfl⟩
      exact ss_nil ⟨_, _, _, _, rfl⟩
  · rintro ρ ⟨a, b, c, d, rfl⟩
    exact ss_cons (s_ret d_bl rfl)
theorem sc_is_lawful : FnScope ["q", "puts", "regions", "region"] ["q", "puts", "regions"] (defScope (top 46)) := ⟨rfl, rfl, rfl, by decide +kernel, rfl, by decide +kernel, by decide +kernel⟩
def R_lawful : List D → D → Prop := fun ds d => ∃ (q puts : Int) (gs : List Rg), ds = [.int q, .int puts, dGs gs] ∧ 2 ≤ q ∧ q ≤ 64 ∧ Lawful q puts gs ∧ d = .bl true
theorem ok_is_lawful (T : Tx mg) (F : FnT K mg 46 "is_lawful") (K1 : Kn P w K mg base "are_regions" 5 R_areregions) (K2 : Kn P w K mg base "are_ranked" 4 R_areranked) (K3 : Kn P w K mg base "are_apart" 2 R_areapart) (K4 : Kn P w K mg base "are_later" 2 R_areapart) (K5 : Kn P w K mg base "have_passed" 4 R_passed) : Kn P w K mg base "is_lawful" 6 R_lawful := by
  obtain ⟨f, fd, F, g⟩ := F
  refine kn_of F g sc_is_lawful (fun ds d h => by obtain ⟨_, _, _, rfl, _⟩ := h; rfl) (fun _ _ _ _ _ _ us hl => match us, hl with | [_, _, _], _ => rfl) ?_
  rintro cdv A outer s H E hr ds d ⟨q, puts, gs, rfl, q1, q2, L, rfl⟩
  have nd := sc_is_lawful.nd
  have len := L.len
  refine ss_cons (s_ifF0 (DT.eq (DW.t (w_or (t_not (t_val (d_call K1 hr (a_cons (d_var 2) (a_cons (d_var 1) a_nil)) ⟨gs, puts, rfl, len, L.rg, L.asc, rfl⟩))) fun _ => (w_or1 (t_not (t_val (d_all (xs := gs) (f := fun _ => true) T.all (DF.de (f_lc (p := .nm 3) (xs := gs) (enc := dRg) [("region", 3)] nd (i_tup (d_var 2)) (blkOk_by (by kernel_rfl)) (fun _ _ _ _ _ => g_nm 3 nd) (by decide) (by omega) (fun g hg => ⟨_, rfl, fun _ _ _ _ _ => (d_call K2 hr (a_cons (d_var 0) (a_cons (d_var 3) a_nil)) ⟨q, puts, g, rfl, q1, q2, L.rg g hg, L.rkd g hg, rfl⟩)⟩))))))))) ?_) ?_)
  · rw [List.all_eq_true.mpr fun _ _ => rfl]; rfl
  refine ss_cons (s_ret (DE.eq (d_and (p := true) (q := true) (d_call K3 hr (a_cons (d_var 2) a_nil) ⟨q, puts, gs, rfl, L, rfl⟩) fun _ => (d_and (p := true) (q := true) (d_call K4 hr (a_cons (d_var 2) a_nil) ⟨q, puts, gs, rfl, L, rfl⟩) fun _ => (d_one (d_call K5 hr (a_cons (d_var 0) (a_cons (d_var 2) a_nil)) ⟨q, puts, gs, rfl, q1, q2, L, rfl⟩)))) rfl) rfl)
/-! Layout(q, puts, regions) -/
abbrev IniT (K : PySem.W.Frag) (mg : Str → Option Value) (i j : Nat) (c qual : Str) : Prop := ∃ C f fd, FunD K "__init__" qual (defArgs (inClass (top i) j)) (defBody (inClass (top i) j)) (defScope (inClass (top i) j)) [] [] f fd ∧ mg c = some (.ref C) ∧ Mk K C f
structure ClsF (K : PySem.W.Frag) (mg : Str → Option Value) (c : Str) (fs : List Str) : Prop where
  ok : ∀ f ∈ fs, ∀ C, mg c = some (.ref C) → Cls K C ∧ NoAttr K C f
theorem ClsF.at {c : Str} {fs : List Str} (h : ClsF K mg c fs) {f : Str} {X : Cx} (hf : f ∈ fs := by decide) (hK : X.K = K := by rfl) (hM : X.mg = mg := by rfl) : ClF X c f := ⟨fun C e => by subst hK hM; exact h.ok f hf C e⟩
theorem sc_Layout_init : FnScope ["self", "q", "puts", "regions"] ["self", "q", "puts", "regions"] (defScope (inClass (top 47) 0)) := ⟨rfl, rfl, rfl, by decide +kernel, rfl, by decide +kernel, by decide +kernel⟩
def R_layout : List D → List (Str × D) → Prop := fun ds fs => ∃ (q puts : Int) (x : D) (gs : List Rg), ds = [.int q, .int puts, x] ∧ fixOk 5 x = true ∧ smallD 5 x = true ∧ fixD x = dGs gs ∧ 2 ≤ q ∧ q ≤ 64 ∧ 0 ≤ puts ∧ Lawful q puts gs ∧ fs = fLay q puts gs
theorem ok_Layout (F : IniT K mg 47 0 "Layout" "Layout.__init__") (C : ClsF K mg "Layout" ["q", "puts", "regions"]) (K1 : Kn P w K mg base "need_q" 4 R_q) (K2 : Kn P w K mg base "need_number" 3 R_number) (K3 : Kn P w K mg base "is_lawful" 6 R_lawful) (K4 : Kn P w K mg base "fixed" 6 (R_fixed 5)) : KnI P w K mg base "Layout" 7 R_layout := by
  obtain ⟨Ca, f, fd, F, g, M⟩ := F
  refine knI_of F g M sc_Layout_init (fun ds d h => by obtain ⟨_, _, _, _, rfl, _⟩ := h; rfl) (fun _ _ _ _ _ _ us hl => match us, hl with | [_, _, _, _], _ => rfl) ?_
  rintro cdv A outer s H E hr l ds fs ⟨q, puts, x, gs, rfl, x1, x2, x3, q1, q2, p0, L, rfl⟩
  refine ss_cons (s_expr (d_call K1 hr (a_cons (d_var 1) a_nil) ⟨q, rfl, q1, q2, rfl⟩) ?_)
  refine ss_cons (s_expr (d_call K2 hr (a_cons (d_var 2) (a_cons d_str (a_cons d_int (a_cons d_non a_nil)))) ⟨puts, _, some 0, none, rfl, by simp [within, p0], rfl⟩) ?_)
  have fx : ∀ {ρ : Env}, ρ[3]? = some (some (.val x)) → DE (Cxf P w K mg base ["self", "q", "puts", "regions"] "Layout.__init__" (defScope (inClass (top 47) 0)) f cdv A outer s H E) (.Name "regions" ⟨0, 0, 0, 0⟩) ρ x := fun h => d_var 3 rfl (by first | exact Or.inl rfl | exact Or.inr (Or.inl rfl) | exact Or.inr (Or.inr rfl)) h
  refine ss_cons (s_ifF0 (t_not (p := true) (t_val (d_call K3 hr (a_cons (d_var 1) (a_cons (d_var 2) (a_cons (d_call K4 hr (a_cons (d_var 3) a_nil) ⟨x, rfl, x1, x2, rfl⟩) a_nil))) ⟨q, puts, gs, by rw [x3], q1, q2, L, rfl⟩))) ?_)
  refine ss_cons (s_fldI 0 (d_var 1) C.at ?_)
  refine ss_cons (s_fldI 0 (d_var 2) C.at ?_)
  refine ss_cons (s_fldI 0 (DE.eq (d_call K4 hr (a_cons (d_var 3) a_nil) ⟨x, rfl, x1, x2, rfl⟩) x3) C.at ?_)
  exact ss_nil rfl
end
end K76
set_option maxRecDepth 100000
set_option maxHeartbeats 4000000
namespace K76
open PySem PySem.Spec PyProof.Rows L2
/-! mirrors -/
def laidT (r : Int) (b : Bool) : Int → List Th → List (Int × Bool × Th × Int)
  | _, [] => []
  | a, t :: ts => (r, b, t, a) :: laidT r b (a + t.z) ts
def laidR (q a : Int) (g : Rg) : List (Int × Bool × Th × Int) := laidT g.r false a g.p ++ laidT g.r true (a + cells g.p) g.m
def endR (q : Int) (g : Rg) : Int := cells g.p + cells g.p / q
def endG (q : Int) (gs : List Rg) : Int := (gs.map (endR q)).sum
def laidG (q : Int) : Int → List Rg → List (Int × Bool × Th × Int)
  | _, [] => []
  | a, g :: gs => laidR q a g ++ laidG q (a + endR q g) gs
@[reducible] def dLd (x : Int × Bool × Th × Int) : D := .tup [.int x.1, .bl x.2.1, dTh x.2.2.1, .int x.2.2.2]
theorem cells_cons (t : Th) (ts : List Th) : cells (t :: ts) = t.z + cells ts := by simp [cells]
theorem cells_append (xs ys : List Th) : cells (xs ++ ys) = cells xs + cells ys := by simp [cells]
theorem laidT_append (r : Int) (b : Bool) : ∀ (xs ys : List Th) (a : Int), laidT r b a (xs ++ ys) = laidT r b a xs ++ laidT r b (a + cells xs) ys
  | [], ys, a => by simp [laidT, cells]
  | x :: xs, ys, a => by
    rw [List.cons_append, laidT, laidT, laidT_append r b xs ys, cells_cons, List.cons_append, Int.add_assoc]
theorem laidG_append (q : Int) : ∀ (xs ys : List Rg) (a : Int), laidG q a (xs ++ ys) = laidG q a xs ++ laidG q (a + endG q xs) ys
  | [], ys, a => by simp [laidG, endG]
  | x :: xs, ys, a => by
    rw [List.cons_append, laidG, laidG, laidG_append q xs ys, List.append_assoc]
    simp only [endG, List.map_cons, List.sum_cons, Int.add_assoc]
theorem laidT_len (r : Int) (b : Bool) : ∀ (xs : List Th) (a : Int), (laidT r b a xs).length = xs.length
  | [], a => rfl
  | x :: xs, a => by rw [laidT, List.length_cons, laidT_len r b xs, List.length_cons]
theorem laidG_len (q : Int) : ∀ (gs : List Rg) (a : Int), (laidG q a gs).length = (allT gs).length
  | [], a => rfl
  | g :: gs, a => by
    rw [laidG, List.length_append, laidG_len q gs, laidR, List.length_append, laidT_len, laidT_len]
    unfold allT
    rw [List.flatMap_cons, List.length_append, List.length_append]
theorem take_get {α : Type} {xs : List α} {i : Nat} {x : α} (h : xs[i]? = some x) : xs.take (i + 1) = xs.take i ++ [x] := by
  obtain ⟨hi, e⟩ := List.getElem?_eq_some_iff.mp h
  rw [List.take_succ_eq_append_getElem hi, e]
theorem allT_take (gs : List Rg) (i : Nat) : (allT (gs.take i)).length ≤ (allT gs).length := by
  conv => rhs; rw [← List.take_append_drop i gs]
  unfold allT
  rw [List.flatMap_append, List.length_append]
  omega
theorem eqD_th (a b : Th) : eqD (dTh a) (dTh b) = decide (a = b) := by
  cases a with | mk w1 s1 z1 => cases b with | mk w2 s2 z2 =>
  simp only [eqD, toPy, toPys, PyData.eqv, PyData.eqvAll, Bool.and_true, Th.mk.injEq]
  rw [Bool.eq_iff_iff]
  simp only [Bool.and_eq_true, beq_iff_eq, decide_eq_true_eq, Wd.t_inj]
theorem eqD_ws (a b : Wd) (s t : Int) : eqD (.tup [.str a.t, .int s]) (.tup [.str b.t, .int t]) = (decide (a = b) && decide (s = t)) := by
  simp only [eqD, toPy, toPys, PyData.eqv, PyData.eqvAll, Bool.and_true]
  rw [Bool.eq_iff_iff]
  simp only [Bool.and_eq_true, beq_iff_eq, decide_eq_true_eq, Wd.t_inj]
section
variable {P : Program} {w : World} {K : PySem.W.Frag} {mg : Str → Option Value} {base : Heap}
theorem sc_need_layout : FnScope ["value", "part"] ["value", "part"] (defScope (top 49)) := ⟨rfl, rfl, rfl, by decide +kernel, rfl, by decide +kernel, by decide +kernel⟩
def R_needlay : List D → D → Prop := fun ds d => ∃ fs, ds = [.obj "Layout" fs] ∧ d = .non
theorem ok_need_layout (T : Tx mg) (F : FnTD K mg 49 "need_layout" (.str "layout")) (I : ∀ X : Cx, X.K = K → X.mg = mg → IsC X "Layout") : Kn P w K mg base "need_layout" 1 R_needlay := by
  obtain ⟨f, fd, F, g⟩ := F
  refine kn_ofD 1 F g sc_need_layout rfl (fun ds d h => by obtain ⟨_, rfl, _⟩ := h; rfl) (fun H => .str _) (fun T kV doc pm an cdv ct us its hl hi => ?_) ?_
  · match us, hl, its, hi with
    | [u], _, [i], _ => exact ⟨_, rfl, rfl⟩
  · rintro cdv A outer s H E hr ds d ⟨fs, rfl, rfl⟩
    exact ss_cons (s_ifF0 (t_not (p := true) (t_val (d_isC T.isinstance (d_var 0) (I _ rfl rfl)))) (ss_nil rfl))
theorem sc_laid : FnScope ["layout", "region", "found", "at", "thing", "end", "rank", "payload", "room"] ["layout"] (defScope (top 50)) := ⟨rfl, rfl, rfl, by decide +kernel, rfl, by decide +kernel, by decide +kernel⟩
def R_laid : List D → D → Prop := fun ds d => ∃ q n gs, ds = [dLay q n gs] ∧ 2 ≤ q ∧ q ≤ 64 ∧ Lawful q n gs ∧ d = .lst ((laidG q 0 gs).map dLd)
theorem ok_laid (F : FnT K mg 50 "laid") (C : ClsF K mg "Layout" ["q", "puts", "regions"]) (K1 : Kn P w K mg base "room_of" 2 R_room) : Kn P w K mg base "laid" 3 R_laid := by
  obtain ⟨f, fd, F, g⟩ := F
  refine kn_of F g sc_laid (fun ds d h => by obtain ⟨_, _, _, rfl, _⟩ := h; rfl) (fun _ _ _ _ _ _ us hl => match us, hl with | [_], _ => rfl) ?_
  rintro cdv A outer s H E hr ds d ⟨q, n, gs, rfl, q1, q2, L, rfl⟩
  have nd := sc_laid.nd
  have len := L.len2
  refine ss_cons (s_par2 2 3 nd (ls_cons (l_own (f_lst a_nil)) (ls_cons (l_val d_int) ls_nil)) ?_)
  refine ss_cons (s_for (xs := gs) (enc := dRg) (p := .nm 1) (i_tup (d_fld (d_var 0) C.at)) (g_nm 1 nd)
    (fun i ρ => ∃ (a b c d e f : Option Sl) (xs : List D) (at_ : Int), ρ = [some (.val (dLay q n gs)), a, some (.ml xs), some (.val (.int at_)), b, c, d, e, f] ∧ xs = (laidG q 0 (gs.take i)).map dLd ∧ at_ = endG q (gs.take i)) ⟨_, _, _, _, _, _, _, _, rfl, rfl, rfl⟩ ?_ ?_)
  · rintro i g ρ hx ⟨a, b, c, d, e, f, xs, at_, rfl, hxs, hat⟩
    have hg : g ∈ gs := List.mem_of_getElem? hx
    have sm := (L.rg g hg).sm
    have hlen : (laidG q 0 (gs.take i)).length ≤ 200 := by rw [laidG_len]; have := allT_take gs i; omega
    unfold smR at sm
    refine ⟨_, rfl, ?_⟩
    refine ss_cons (s_asg (p := .tp [.nm 6, .nm 7, .nm 8]) (d_var 1) (g_tp (gs_cons (g_nm 6 nd) (gs_cons (g_nm 7 nd) (gs_cons (g_nm 8 nd) gs_nil)))) rfl ?_)
    refine ss_cons (s_for (xs := g.p) (enc := dTh) (p := .nm 4) (i_tup (d_var 7)) (g_nm 4 nd)
      (fun j ρ => ∃ (b c : Option Sl) (ys : List D) (a2 : Int), ρ = [some (.val (dLay q n gs)), some (.val (dRg g)), some (.ml ys), some (.val (.int a2)), b, c, some (.val (.int g.r)), some (.val (.tup (g.p.map dTh))), some (.val (.tup (g.m.map dTh)))] ∧ ys = xs ++ (laidT g.r false at_ (g.p.take j)).map dLd ∧ a2 = at_ + cells (g.p.take j)) ?_ ?_ ?_)
    · exact ⟨_, _, _, _, rfl, by simp [laidT], by simp [cells]⟩
    · rintro j t ρ ht ⟨b, c, ys, a2, rfl, hys, ha2⟩
      have hj := (List.getElem?_eq_some_iff.mp ht).1
      refine ⟨_, rfl, ?_⟩
      refine ss_cons (s_append 2 (d_tup (a_cons (d_var 6) (a_cons d_bl (a_cons (d_var 4) (a_cons (d_var 3) a_nil))))) ?_ ?_)
      · refine ss_cons (s_set 3 nd (d_add (d_var 3) (d_ix (d_var 4) (.tup _))) (ss_nil ⟨_, _, _, _, rfl, ?_, ?_⟩))
        · rw [take_get ht, laidT_append, hys, ha2, List.map_append, ← List.append_assoc]; rfl
        · rw [take_get ht, cells_append, ha2]; simp [cells]; omega
      · rw [hys, hxs, List.length_append, List.length_map, List.length_map, laidT_len, List.length_take]
        exact Nat.lt_of_lt_of_le (show _ < 1000 by omega) (ln16 (Nat.le_refl _))
    · rintro ρ ⟨b, c, ys, a2, rfl, hys, ha2⟩
      rw [List.take_length] at hys ha2
      refine ss_cons (s_set 5 nd (d_add (d_var 3) (d_call K1 hr (a_cons (d_fld (d_var 0) C.at) (a_cons (d_var 1) a_nil)) ⟨q, g, rfl, (L.rg g hg).sm, q1, q2, rfl⟩)) ?_)
      refine ss_cons (s_for (xs := g.m) (enc := dTh) (p := .nm 4) (i_tup (d_var 8)) (g_nm 4 nd)
        (fun j ρ => ∃ (b : Option Sl) (zs : List D) (a3 : Int), ρ = [some (.val (dLay q n gs)), some (.val (dRg g)), some (.ml zs), some (.val (.int a3)), b, some (.val (.int (a2 + cells g.p / q))), some (.val (.int g.r)), some (.val (.tup (g.p.map dTh))), some (.val (.tup (g.m.map dTh)))] ∧ zs = ys ++ (laidT g.r true a2 (g.m.take j)).map dLd ∧ a3 = a2 + cells (g.m.take j)) ?_ ?_ ?_)
      · exact ⟨_, _, _, rfl, by simp [laidT], by simp [cells]⟩
      · rintro j t ρ ht ⟨b, zs, a3, rfl, hzs, ha3⟩
        have hj := (List.getElem?_eq_some_iff.mp ht).1
        refine ⟨_, rfl, ?_⟩
        refine ss_cons (s_append 2 (d_tup (a_cons (d_var 6) (a_cons d_bl (a_cons (d_var 4) (a_cons (d_var 3) a_nil))))) ?_ ?_)
        · refine ss_cons (s_set 3 nd (d_add (d_var 3) (d_ix (d_var 4) (.tup _))) (ss_nil ⟨_, _, _, rfl, ?_, ?_⟩))
          · rw [take_get ht, laidT_append, hzs, ha3, List.map_append, ← List.append_assoc]; rfl
          · rw [take_get ht, cells_append, ha3]; simp [cells]; omega
        · rw [hzs, hys, hxs, List.length_append, List.length_append, List.length_map, List.length_map, List.length_map, laidT_len, laidT_len, List.length_take]
          exact Nat.lt_of_lt_of_le (show _ < 1000 by omega) (ln16 (Nat.le_refl _))
      · rintro ρ ⟨b, zs, a3, rfl, hzs, ha3⟩
        rw [List.take_length] at hzs ha3
        refine ss_cons (s_set 3 nd (d_var 5) (ss_nil ⟨_, _, _, _, _, _, _, _, rfl, ?_, ?_⟩))
        · rw [take_get hx, laidG_append, hzs, hys, hxs, ha2, hat]
          simp only [laidG, laidR, List.map_append, List.append_nil, Int.zero_add, List.append_assoc]
        · rw [take_get hx, ha2, hat]
          simp only [endG, endR, List.map_append, List.map_cons, List.map_nil, List.sum_append, List.sum_cons, List.sum_nil]
          omega
  · rintro ρ ⟨a, b, c, d, e, f, xs, at_, rfl, hxs, hat⟩
    rw [List.take_length] at hxs
    subst hxs
    exact ss_frz 2 (ss_cons (s_ret (d_var 2) rfl))
end
end K76
set_option maxRecDepth 100000
set_option maxHeartbeats 4000000
namespace K76
open PySem PySem.Spec PyProof.Rows L2
section
variable {P : Program} {w : World} {K : PySem.W.Frag} {mg : Str → Option Value} {base : Heap}
theorem sc_end_of : FnScope ["q", "regions", "region"] ["q", "regions"] (defScope (top 51)) := ⟨rfl, rfl, rfl, by decide +kernel, rfl, by decide +kernel, by decide +kernel⟩
def R_endof : List D → D → Prop := fun ds d => ∃ q n gs, ds = [.int q, dGs gs] ∧ 2 ≤ q ∧ q ≤ 64 ∧ Lawful q n gs ∧ d = .int (endG q gs)
theorem ok_end_of (T : Tx mg) (F : FnT K mg 51 "end_of") (K1 : Kn P w K mg base "cells_of" 1 R_cells) (K2 : Kn P w K mg base "room_of" 2 R_room) : Kn P w K mg base "end_of" 3 R_endof := by
  obtain ⟨f, fd, F, g⟩ := F
  refine kn_of F g sc_end_of (fun ds d h => by obtain ⟨_, _, _, rfl, _⟩ := h; rfl) (fun _ _ _ _ _ _ us hl => match us, hl with | [_, _], _ => rfl) ?_
  rintro cdv A outer s H E hr ds d ⟨q, n, gs, rfl, q1, q2, L, rfl⟩
  have nd := sc_end_of.nd
  refine ss_cons (s_ret (d_sum (xs := gs) (f := endR q) T.sum (DF.de (f_lc (p := .nm 2) (xs := gs) (enc := dRg) [("region", 2)] nd (i_tup (d_var 1)) (blkOk_by (by kernel_rfl)) (fun _ _ _ _ _ => g_nm 2 nd) (by decide) (by have := L.len; omega) (fun g hg => ⟨_, rfl, fun _ _ _ _ _ =>
    d_add (d_call K1 hr (a_cons (d_ix (d_var 2) (.tup _)) a_nil) ⟨_, g.p, rfl, .tup _, by have := (L.rg g hg).sm.1; omega, rfl⟩) (d_call K2 hr (a_cons (d_var 0) (a_cons (d_var 2) a_nil)) ⟨q, g, rfl, (L.rg g hg).sm, q1, q2, rfl⟩)⟩)))) rfl)
theorem sc_spot_for : FnScope ["layout", "size", "at", "region"] ["layout", "size"] (defScope (top 52)) := ⟨rfl, rfl, rfl, by decide +kernel, rfl, by decide +kernel, by decide +kernel⟩
@[reducible] def dN : Option Nat → D
  | none => .non
  | some i => .int (i : Nat)
def R_spot : List D → D → Prop := fun ds d => ∃ q n gs z, ds = [dLay q n gs, .int z] ∧ 2 ≤ q ∧ q ≤ 64 ∧ 1 ≤ z ∧ Lawful q n gs ∧ d = dN (spot q z gs)
theorem ok_spot_for (T : Tx mg) (F : FnT K mg 52 "spot_for") (C : ClsF K mg "Layout" ["q", "puts", "regions"]) (K1 : Kn P w K mg base "rank_in" 1 R_rank) (K2 : Kn P w K mg base "free_in" 3 R_free) : Kn P w K mg base "spot_for" 4 R_spot := by
  obtain ⟨f, fd, F, g⟩ := F
  refine kn_of F g sc_spot_for (fun ds d h => by obtain ⟨_, _, _, _, rfl, _⟩ := h; rfl) (fun _ _ _ _ _ _ us hl => match us, hl with | [_, _], _ => rfl) ?_
  rintro cdv A outer s H E hr ds d ⟨q, n, gs, z, rfl, q1, q2, hz, L, rfl⟩
  have nd := sc_spot_for.nd
  refine ss_cons (s_for (xs := (List.range gs.length).zip gs) (enc := dEn dRg) (p := .tp [.nm 2, .nm 3]) (i_enumT T.enumerate (d_fld (d_var 0) C.at)) (g_tp (gs_cons (g_nm 2 nd) (gs_cons (g_nm 3 nd) gs_nil)))
    (fun i ρ => (∀ j g, j < i → gs[j]? = some g → fits q z g = false) ∧ ∃ a b : Option Sl, ρ = [some (.val (dLay q n gs)), some (.val (.int z)), a, b]) ⟨fun j g h => absurd h (Nat.not_lt_zero _), _, _, rfl⟩ ?_ ?_)
  · rintro i ⟨m, g⟩ ρ hx ⟨hno, a, b, rfl⟩
    rw [List.getElem?_zip_eq_some] at hx
    obtain ⟨hx1, hx2⟩ := hx
    have hi : i < gs.length := (List.getElem?_eq_some_iff.mp hx2).1
    rw [List.getElem?_range hi] at hx1
    have ei : i = m := by simpa using hx1
    subst ei
    have hg : g ∈ gs := List.mem_of_getElem? hx2
    refine ⟨_, rfl, ?_⟩
    refine ss_cons (s_if (b := fits q z g) (DT.eq (DW.t (w_and (t_ge (d_ix (d_var 3) (.tup _)) (d_call K1 hr (a_cons (d_var 1) a_nil) ⟨z, rfl, hz, rfl⟩)) fun _ => (w_and1 (t_ge (d_call K2 hr (a_cons (d_fld (d_var 0) C.at) (a_cons (d_var 3) a_nil)) ⟨q, g, rfl, (L.rg g hg).sm, q1, q2, rfl⟩) (d_var 1))))) rfl) (fun hb => ?_) (fun hb => ?_))
    · refine ss_cons (s_ret (d_var 2) ?_)
      show D.int _ = dN (spot q z gs)
      have : spot q z gs = some i := by
        unfold spot
        rw [List.findIdx?_eq_some_iff_getElem]
        refine ⟨hi, ?_, fun j hj => ?_⟩
        · rw [(List.getElem?_eq_some_iff.mp hx2).2]; exact hb
        · have hjl : j < gs.length := Nat.lt_trans hj hi
          rw [hno j gs[j] hj (List.getElem?_eq_getElem hjl)]; simp
      rw [this]
    · refine ss_nil (ss_nil ⟨fun j g' hj hg' => ?_, _, _, rfl⟩)
      by_cases e : j = i
      · subst e; rw [hx2] at hg'; cases hg'; exact hb
      · exact hno j g' (by omega) hg'
  · rintro ρ ⟨hno, a, b, rfl⟩
    refine ss_cons (s_ret d_non ?_)
    show D.non = dN (spot q z gs)
    have : spot q z gs = none := by
      unfold spot
      rw [List.findIdx?_eq_none_iff]
      intro g hg
      obtain ⟨j, hj⟩ := List.mem_iff_getElem?.mp hg
      have hl : ((List.range gs.length).zip gs).length = gs.length := by simp
      exact hno j g (by rw [hl]; exact (List.getElem?_eq_some_iff.mp hj).1) hj
    rw [this]
theorem sc_with_thing : FnScope ["layout", "regions", "thing", "at", "rank", "payload", "room"] ["layout", "regions", "thing"] (defScope (top 53)) := ⟨rfl, rfl, rfl, by decide +kernel, rfl, by decide +kernel, by decide +kernel⟩
def R_withthing : List D → D → Prop := fun ds d => ∃ q n gs0 gs t i, ds = [dLay q n gs0, dGs gs, dTh t] ∧ 2 ≤ q ∧ q ≤ 64 ∧ 1 ≤ t.z ∧ Lawful q n gs0 ∧ spot q t.z gs0 = some i ∧ i < gs.length ∧ gs.length ≤ 13 ∧ (∀ g ∈ gs, smR g) ∧ d = dGs (putAt i t gs)
theorem ok_with_thing (T : Tx mg) (F : FnT K mg 53 "with_thing") (K1 : Kn P w K mg base "spot_for" 4 R_spot) : Kn P w K mg base "with_thing" 5 R_withthing := by
  obtain ⟨f, fd, F, g⟩ := F
  refine kn_of F g sc_with_thing (fun ds d h => by obtain ⟨_, _, _, _, _, _, rfl, _⟩ := h; rfl) (fun _ _ _ _ _ _ us hl => match us, hl with | [_, _, _], _ => rfl) ?_
  rintro cdv A outer s H E hr ds d ⟨q, n, gs0, gs, t, i, rfl, q1, q2, hz, L, hs, hi, hl, hsm, rfl⟩
  have nd := sc_with_thing.nd
  refine ss_cons (s_set 3 nd (DE.eq (d_call K1 hr (a_cons (d_var 0) (a_cons (d_ix (d_var 2) (.tup _)) a_nil)) ⟨q, n, gs0, t.z, rfl, q1, q2, hz, L, rfl⟩) (show dN _ = D.int ((i : Nat) : Int) by rw [hs])) ?_)
  refine ss_cons (s_ifF0 (DT.eq (t_isN (d_var 3)) rfl) ?_)
  have hgi : gs[i]? = some gs[i] := List.getElem?_eq_getElem hi
  refine ss_cons (s_asg (p := .tp [.nm 4, .nm 5, .nm 6]) (d := dRg gs[i]) (d_ixA (d_var 1) (.tup _) (d_var 3) (atI_nat (by rw [List.getElem?_map, hgi]; rfl))) (g_tp (gs_cons (g_nm 4 nd) (gs_cons (g_nm 5 nd) (gs_cons (g_nm 6 nd) gs_nil)))) rfl ?_)
  have sm := hsm gs[i] (List.getElem_mem hi)
  unfold smR at sm
  refine ss_cons (s_ret (DE.eq (d_tup (a_star (d_sliceT (d_var 1) o_none (o_some (d_var 3))) (.tup _) (a_cons (d_tup (a_cons (d_var 4) (a_cons (d_var 5) (a_cons (d_tup (a_star (d_var 6) (.tup _) (a_cons (d_var 2) a_nil)) ?_) a_nil)))) (a_star (d_sliceT (d_var 1) (o_some (i := ((i + 1 : Nat) : Int)) (DE.eq (d_add (d_var 3) d_int) (by exact congrArg D.int (Int.natCast_add i 1).symm))) o_none) (.tup _) a_nil))) ?_) ?_) rfl)
  · rw [List.length_append, List.length_map]; exact ln16 (by simp; omega)
  · rw [cut_take, cut_drop]
    refine ln16 ?_
    simp only [List.length_append, List.length_take, List.length_map, List.length_cons, List.length_drop, List.length_nil]
    omega
  · rw [cut_take, cut_drop]
    unfold putAt
    rw [hgi]
    refine congrArg D.tup ?_
    simp only [List.map_append, List.map_take, List.map_drop, List.append_nil, Option.toList_some, List.map_cons, List.map_nil, List.append_assoc, List.cons_append, List.nil_append]
    show _ = List.take i _ ++ D.tup [.int gs[i].r, .tup (gs[i].p.map dTh), .tup ((gs[i].m ++ [t]).map dTh)] :: _
    rw [List.map_append]
    rfl
theorem sc_with_word : FnScope ["things", "serial", "word", "old", "its", "size"] ["things", "serial", "word"] (defScope (top 55)) := ⟨rfl, rfl, rfl, by decide +kernel, rfl, by decide +kernel, by decide +kernel⟩
def R_withword : List D → D → Prop := fun ds d => ∃ ts s w, ds = [.tup (ts.map dTh), .int s, .str (Wd.t w)] ∧ ts.length ≤ 200 ∧ d = .tup ((mark w s ts).map dTh)
theorem ok_with_word (T : Tx mg) (C : Cs K mg) (F : FnT K mg 55 "with_word") : Kn P w K mg base "with_word" 1 R_withword := by
  obtain ⟨f, fd, F, g⟩ := F
  refine kn_of F g sc_with_word (fun ds d h => by obtain ⟨_, _, _, rfl, _⟩ := h; rfl) (fun _ _ _ _ _ _ us hl => match us, hl with | [_, _, _], _ => rfl) ?_
  rintro cdv A outer s H E hr ds d ⟨ts, sr, wd, rfl, hl, rfl⟩
  have nd := sc_with_word.nd
  refine ss_cons (s_ret (DE.eq (d_tupleL T.tuple (DF.de (f_lc (p := .tp [.nm 3, .nm 4, .nm 5]) (xs := ts) (enc := dTh) (f := fun t => dTh (if isF sr t then { t with w := wd } else t)) [("old", 3), ("its", 4), ("size", 5)] nd (i_tup (d_var 0)) (blkOk_by (by kernel_rfl)) (fun _ _ _ _ _ => g_tp (gs_cons (g_nm 3 nd) (gs_cons (g_nm 4 nd) (gs_cons (g_nm 5 nd) gs_nil)))) (by decide) (by omega) (fun t ht => ⟨_, rfl, fun _ _ _ _ _ => ?_⟩)))) ?_) rfl)
  · refine d_if (p := isF sr t) (DT.eq (t_eqD hr (d_tup (a_cons (d_var 3) (a_cons (d_var 4) a_nil))) (d_tup (a_cons (d_glob C.file) (a_cons (d_var 1) a_nil))) ⟨by simp [plainD, plainDs, lay_wd], by simp [toPy, toPys, PyData.depth, PyData.depthAll]⟩ ⟨by simp [plainD, plainDs]; exact lay_wd .file, by simp [toPy, toPys, PyData.depth, PyData.depthAll]⟩) (eqD_ws t.w .file t.s sr)) (fun hb => ?_) (fun hb => ?_)
    · rw [if_pos hb]
      exact d_tup (a_cons (d_var 2) (a_cons (d_var 4) (a_cons (d_var 5) a_nil)))
    · rw [if_neg (by rw [hb]; exact Bool.false_ne_true)]
      exact d_tup (a_cons (d_var 3) (a_cons (d_var 4) (a_cons (d_var 5) a_nil)))
  · unfold mark
    rw [List.map_map]; rfl
theorem sc_rank_of : FnScope ["size"] ["size"] (defScope (top 56)) := ⟨rfl, rfl, rfl, by decide +kernel, rfl, by decide +kernel, by decide +kernel⟩
def R_rankof : List D → D → Prop := fun ds d => ∃ z : Int, ds = [.int z] ∧ 1 ≤ z ∧ z ≤ 4096 ∧ d = .int (rk z)
theorem ok_rank_of (F : FnT K mg 56 "rank_of") (K1 : Kn P w K mg base "need_size" 4 R_size) (K2 : Kn P w K mg base "rank_in" 1 R_rank) : Kn P w K mg base "rank_of" 5 R_rankof := by
  obtain ⟨f, fd, F, g⟩ := F
  refine kn_of F g sc_rank_of (fun ds d h => by obtain ⟨_, rfl, _⟩ := h; rfl) (fun _ _ _ _ _ _ us hl => match us, hl with | [_], _ => rfl) ?_
  rintro cdv A outer s H E hr ds d ⟨z, rfl, z1, z2, rfl⟩
  refine ss_cons (s_expr (d_call K1 hr (a_cons (d_var 0) a_nil) ⟨z, rfl, z1, z2, rfl⟩) ?_)
  exact ss_cons (s_ret (d_call K2 hr (a_cons (d_var 0) a_nil) ⟨z, rfl, z1, rfl⟩) rfl)
end
end K76
set_option maxRecDepth 100000
set_option maxHeartbeats 4000000
namespace K76
open PySem PySem.Spec PyProof.Rows L2
/-- where the files lie: serial, place, size -/
def placesM (q : Int) (gs : List Rg) : List (Int × Int × Int) := ((laidG q 0 gs).filter fun x => decide (x.2.2.1.w = .file)).map fun x => (x.2.2.1.s, x.2.2.2, x.2.2.1.z)
@[reducible] def d3 (c : Int × Int × Int) : D := .tup [.int c.1, .int c.2.1, .int c.2.2]
/-- what a layout's regions are, as data that fixed leaves alone -/
theorem fixOk_th (n : Nat) (t : Th) : fixOk (n + 2) (dTh t) = true := rfl
theorem fixOk_ths (n : Nat) (ts : List Th) : fixOk (n + 3) (.tup (ts.map dTh)) = true := by
  rw [fixOk, fixOks_all, List.all_eq_true]
  intro d hd
  obtain ⟨t, _, rfl⟩ := List.mem_map.mp hd
  exact fixOk_th n t
theorem fixOk_gs (gs : List Rg) : fixOk 5 (dGs gs) = true := by
  rw [fixOk, fixOks_all, List.all_eq_true]
  intro d hd
  obtain ⟨g, _, rfl⟩ := List.mem_map.mp hd
  show fixOk 4 (D.tup _) = true
  rw [fixOk, fixOks, fixOks, fixOks, fixOks, fixOk_ths 0, fixOk_ths 0]
  rfl
theorem smallD_ths (n : Nat) (ts : List Th) (h : ts.length ≤ 200) : smallD n (.tup (ts.map dTh)) = true := by
  cases n with
  | zero => rfl
  | succ n =>
    rw [smallD, Bool.and_eq_true, decide_eq_true_eq, List.all_eq_true]
    refine ⟨by rw [List.length_map]; omega, ?_⟩
    rintro ⟨d, hd⟩ _
    obtain ⟨t, _, rfl⟩ := List.mem_map.mp hd
    cases n with
    | zero => rfl
    | succ n => cases n <;> rfl
theorem smallD_gs (gs : List Rg) (h : gs.length ≤ 13) (hs : ∀ g ∈ gs, smR g) : smallD 5 (dGs gs) = true := by
  rw [smallD, Bool.and_eq_true, decide_eq_true_eq, List.all_eq_true]
  refine ⟨by rw [List.length_map]; omega, ?_⟩
  rintro ⟨d, hd⟩ _
  obtain ⟨g, hg, rfl⟩ := List.mem_map.mp hd
  have := hs g hg
  unfold smR at this
  show smallD 4 (D.tup _) = true
  rw [smallD, Bool.and_eq_true, decide_eq_true_eq, List.all_eq_true]
  refine ⟨Nat.le_of_ble_eq_true rfl, ?_⟩
  rintro ⟨d, hd⟩ _
  rcases List.mem_cons.mp hd with rfl | hd
  · rfl
  rcases List.mem_cons.mp hd with rfl | hd
  · exact smallD_ths 3 _ this.1
  rcases List.mem_cons.mp hd with rfl | hd
  · exact smallD_ths 3 _ this.2
  · cases hd
/-- Layout of lawful regions -/
theorem R_layout_of {q n : Int} {gs : List Rg} (q1 : 2 ≤ q) (q2 : q ≤ 64) (n0 : 0 ≤ n) (L : Lawful q n gs) : R_layout [.int q, .int n, dGs gs] (fLay q n gs) :=
  ⟨q, n, dGs gs, gs, rfl, fixOk_gs gs, smallD_gs gs L.len fun g hg => (L.rg g hg).sm, fix_gs gs, q1, q2, n0, L, rfl⟩
section
variable {P : Program} {w : World} {K : PySem.W.Frag} {mg : Str → Option Value} {base : Heap}
theorem sc_size_in : FnScope ["layout", "serial", "sizes", "word", "its", "size"] ["layout", "serial"] (defScope (top 54)) := ⟨rfl, rfl, rfl, by decide +kernel, rfl, by decide +kernel, by decide +kernel⟩
/-- the one file s has the size z -/
def FileAt (gs : List Rg) (s z : Int) : Prop := (∃ t ∈ allT gs, isF s t = true) ∧ ∀ t ∈ allT gs, isF s t = true → t.z = z
def R_sizein : List D → D → Prop := fun ds d => ∃ q n gs s z, ds = [dLay q n gs, .int s] ∧ Lawful q n gs ∧ FileAt gs s z ∧ d = .int z
theorem ok_size_in (C : Cs K mg) (F : FnT K mg 54 "size_in") (CL : ClsF K mg "Layout" ["q", "puts", "regions"]) (K1 : Kn P w K mg base "things_in" 1 R_things) (K2 : Kn P w K mg base "is_integer" 1 (fun ds d => ∃ i, ds = [.int i] ∧ d = .bl true)) : Kn P w K mg base "size_in" 2 R_sizein := by
  obtain ⟨f, fd, F, g⟩ := F
  refine kn_of F g sc_size_in (fun ds d h => by obtain ⟨_, _, _, _, _, rfl, _⟩ := h; rfl) (fun _ _ _ _ _ _ us hl => match us, hl with | [_, _], _ => rfl) ?_
  rintro cdv A outer s H E hr ds d ⟨q, n, gs, sr, z, rfl, L, hf, rfl⟩
  have nd := sc_size_in.nd
  have len := L.len2
  have len1 := L.len
  refine ss_cons (s_setDc 2 nd (j_dcA (p := .tp [.nm 3, .nm 4, .nm 5]) (xs := allT gs) (enc := dTh) (t := fun t => decide (t.w = .file)) (kf := Th.s) (vf := fun t => .int t.z) [("word", 3), ("its", 4), ("size", 5)] nd (i_lst (d_call K1 hr (a_cons (d_fld (d_var 0) CL.at) a_nil) ⟨gs, rfl, by omega, by omega, rfl⟩)) (blkOk_by (by kernel_rfl)) (fun _ _ _ _ _ => g_tp (gs_cons (g_nm 3 nd) (gs_cons (g_nm 4 nd) (gs_cons (g_nm 5 nd) gs_nil)))) (by decide) (by omega)
    (fun t ht => ⟨_, rfl, fun _ _ _ _ _ => ts_one (DT.eq (t_eqS (d_var 3) (d_glob C.file)) (dec_wd (b := .file))), fun _ _ _ _ _ _ => (d_var 4), fun _ _ _ _ _ _ => (d_var 5)⟩)) ?_)
  refine ss_cons (s_ret (DE.eq (d_ifT (t_val (d_call K2 hr (a_cons (d_var 1) a_nil) ⟨sr, rfl, rfl⟩)) (d_getD hr (d_var 2) (d_var 1) ⟨rfl, rfl, rfl, rfl⟩)) ?_) rfl)
  obtain ⟨⟨t, ht, hft⟩, hu⟩ := hf
  have hw : t.w = .file ∧ t.s = sr := by simpa [isF] using hft
  have := dictI_some (kf := Th.s) (vf := fun t : Th => D.int t.z) (x := t) (xs := (allT gs).filter fun t => decide (t.w = .file)) (acc := []) (List.mem_filter.mpr ⟨ht, by simpa using hw.1⟩) fun y hy e => by
    obtain ⟨y1, y2⟩ := List.mem_filter.mp hy
    have y3 : isF sr y = true := by simp [isF, e, hw.2]; simpa using y2
    rw [hu y y1 y3, hu t ht hft]
  rw [hw.2, hu t ht hft] at this
  unfold dictI at this
  rw [this]; rfl
theorem sc_empty : FnScope ["q"] ["q"] (defScope (top 57)) := ⟨rfl, rfl, rfl, by decide +kernel, rfl, by decide +kernel, by decide +kernel⟩
theorem lawful_nil (q n : Int) : Lawful q n [] :=
  ⟨fun g h => (nomatch h), .nil, fun g h => (nomatch h), List.nodup_nil, .nil, fun g h => (nomatch h), fun i g h => by simp at h, by decide, by decide⟩
def R_empty : List D → D → Prop := fun ds d => ∃ q : Int, ds = [.int q] ∧ 2 ≤ q ∧ q ≤ 64 ∧ d = dLay q 0 []
theorem ok_empty (F : FnT K mg 57 "empty") (K1 : KnI P w K mg base "Layout" 7 R_layout) : Kn P w K mg base "empty" 9 R_empty := by
  obtain ⟨f, fd, F, g⟩ := F
  refine kn_of F g sc_empty (fun ds d h => by obtain ⟨_, rfl, _⟩ := h; rfl) (fun _ _ _ _ _ _ us hl => match us, hl with | [_], _ => rfl) ?_
  rintro cdv A outer s H E hr ds d ⟨q, rfl, q1, q2, rfl⟩
  exact ss_cons (s_ret (d_make K1 hr (a_cons (d_var 0) (a_cons d_int (a_cons (d_tup a_nil) a_nil))) (R_layout_of (gs := []) q1 q2 (Int.le_refl _) (lawful_nil q 0))) rfl)
theorem sc_places : FnScope ["layout", "_", "at", "word", "serial", "size"] ["layout"] (defScope (top 58)) := ⟨rfl, rfl, rfl, by decide +kernel, rfl, by decide +kernel, by decide +kernel⟩
def R_places : List D → D → Prop := fun ds d => ∃ q n gs, ds = [dLay q n gs] ∧ 2 ≤ q ∧ q ≤ 64 ∧ Lawful q n gs ∧ d = .tup ((placesM q gs).map d3)
theorem ok_places (T : Tx mg) (C : Cs K mg) (F : FnT K mg 58 "places") (K1 : Kn P w K mg base "need_layout" 1 R_needlay) (K2 : Kn P w K mg base "laid" 3 R_laid) : Kn P w K mg base "places" 4 R_places := by
  obtain ⟨f, fd, F, g⟩ := F
  refine kn_of F g sc_places (fun ds d h => by obtain ⟨_, _, _, rfl, _⟩ := h; rfl) (fun _ _ _ _ _ _ us hl => match us, hl with | [_], _ => rfl) ?_
  rintro cdv A outer s H E hr ds d ⟨q, n, gs, rfl, q1, q2, L, rfl⟩
  have nd := sc_places.nd
  refine ss_cons (s_expr (d_call K1 hr (a_cons (d_var 0) a_nil) ⟨_, rfl, rfl⟩) ?_)
  refine ss_cons (s_ret (DE.eq (d_tupleL T.tuple (DF.de (f_lcIf (p := .tp [.nm 1, .nm 1, .tp [.nm 3, .nm 4, .nm 5], .nm 2]) (xs := laidG q 0 gs) (enc := dLd) (t := fun x => decide (x.2.2.1.w = .file)) (f := fun x => d3 (x.2.2.1.s, x.2.2.2, x.2.2.1.z)) [("_", 1), ("word", 3), ("serial", 4), ("size", 5), ("at", 2)] nd (i_lst (d_call K2 hr (a_cons (d_var 0) a_nil) ⟨q, n, gs, rfl, q1, q2, L, rfl⟩)) (blkOk_by (by kernel_rfl))
    (fun _ _ _ _ _ => g_tp (gs_cons (g_nm 1 nd) (gs_cons (g_nm 1 nd) (gs_cons (g_tp (gs_cons (g_nm 3 nd) (gs_cons (g_nm 4 nd) (gs_cons (g_nm 5 nd) gs_nil)))) (gs_cons (g_nm 2 nd) gs_nil))))) (by decide) (by rw [laidG_len]; have := L.len2; omega)
    (fun x hx => ⟨_, rfl, fun _ _ _ _ _ => DT.eq (t_eqS (d_var 3) (d_glob C.file)) (dec_wd (b := .file)), fun ht _ _ _ _ _ => (d_tup (a_cons (d_var 4) (a_cons (d_var 2) (a_cons (d_var 5) a_nil))))⟩)))) ?_) rfl)
  unfold placesM
  rw [List.map_map]; rfl
theorem sc_length : FnScope ["layout"] ["layout"] (defScope (top 59)) := ⟨rfl, rfl, rfl, by decide +kernel, rfl, by decide +kernel, by decide +kernel⟩
def R_length : List D → D → Prop := fun ds d => ∃ q n gs, ds = [dLay q n gs] ∧ 2 ≤ q ∧ q ≤ 64 ∧ Lawful q n gs ∧ d = .int (endG q gs)
theorem ok_length (F : FnT K mg 59 "length") (CL : ClsF K mg "Layout" ["q", "puts", "regions"]) (K1 : Kn P w K mg base "need_layout" 1 R_needlay) (K2 : Kn P w K mg base "end_of" 3 R_endof) : Kn P w K mg base "length" 4 R_length := by
  obtain ⟨f, fd, F, g⟩ := F
  refine kn_of F g sc_length (fun ds d h => by obtain ⟨_, _, _, rfl, _⟩ := h; rfl) (fun _ _ _ _ _ _ us hl => match us, hl with | [_], _ => rfl) ?_
  rintro cdv A outer s H E hr ds d ⟨q, n, gs, rfl, q1, q2, L, rfl⟩
  refine ss_cons (s_expr (d_call K1 hr (a_cons (d_var 0) a_nil) ⟨_, rfl, rfl⟩) ?_)
  exact ss_cons (s_ret (d_call K2 hr (a_cons (d_fld (d_var 0) CL.at) (a_cons (d_fld (d_var 0) CL.at) a_nil)) ⟨q, n, gs, rfl, q1, q2, L, rfl⟩) rfl)
theorem sc_room_for : FnScope ["layout", "size", "at"] ["layout", "size"] (defScope (top 60)) := ⟨rfl, rfl, rfl, by decide +kernel, rfl, by decide +kernel, by decide +kernel⟩
/-- the rank of the region that takes it -/
def rankAt (gs : List Rg) : Option Nat → D
  | none => .non
  | some i => .int ((gs[i]?.map Rg.r).getD 0)
def R_roomfor : List D → D → Prop := fun ds d => ∃ q n gs z, ds = [dLay q n gs, .int z] ∧ 2 ≤ q ∧ q ≤ 64 ∧ 1 ≤ z ∧ z ≤ 4096 ∧ Lawful q n gs ∧ d = rankAt gs (spot q z gs)
theorem spot_lt {q z : Int} {gs : List Rg} {i : Nat} (h : spot q z gs = some i) : i < gs.length := by
  unfold spot at h
  rw [List.findIdx?_eq_some_iff_getElem] at h
  exact h.1
theorem ok_room_for (F : FnT K mg 60 "room_for") (CL : ClsF K mg "Layout" ["q", "puts", "regions"]) (K1 : Kn P w K mg base "need_layout" 1 R_needlay) (K2 : Kn P w K mg base "need_size" 4 R_size) (K3 : Kn P w K mg base "spot_for" 4 R_spot) : Kn P w K mg base "room_for" 5 R_roomfor := by
  obtain ⟨f, fd, F, g⟩ := F
  refine kn_of F g sc_room_for (fun ds d h => by obtain ⟨_, _, _, _, rfl, _⟩ := h; rfl) (fun _ _ _ _ _ _ us hl => match us, hl with | [_, _], _ => rfl) ?_
  rintro cdv A outer s H E hr ds d ⟨q, n, gs, z, rfl, q1, q2, z1, z2, L, rfl⟩
  have nd := sc_room_for.nd
  refine ss_cons (s_expr (d_call K1 hr (a_cons (d_var 0) a_nil) ⟨_, rfl, rfl⟩) ?_)
  refine ss_cons (s_expr (d_call K2 hr (a_cons (d_var 1) a_nil) ⟨z, rfl, z1, z2, rfl⟩) ?_)
  refine ss_cons (s_set 2 nd (d_call K3 hr (a_cons (d_var 0) (a_cons (d_var 1) a_nil)) ⟨q, n, gs, z, rfl, q1, q2, z1, L, rfl⟩) ?_)
  cases hs : spot q z gs with
  | none => exact ss_cons (s_ret (d_ifT (DT.eq (t_isN (d_var 2)) rfl) d_non) rfl)
  | some i =>
    have hi := spot_lt hs
    refine ss_cons (s_ret (DE.eq (d_ifF (DT.eq (t_isN (d_var 2)) rfl) (d_ix (z := .int gs[i].r) (d_ixA (z := dRg gs[i]) (d_fld (d_var 0) CL.at) (.tup _) (d_var 2) (atI_nat (by rw [List.getElem?_map, List.getElem?_eq_getElem hi]; rfl))) (.tup _))) ?_) rfl)
    show D.int gs[i].r = D.int ((gs[i]?.map Rg.r).getD 0)
    rw [List.getElem?_eq_getElem hi]; rfl
theorem sc_put_in : FnScope ["layout", "size"] ["layout", "size"] (defScope (top 61)) := ⟨rfl, rfl, rfl, by decide +kernel, rfl, by decide +kernel, by decide +kernel⟩
def R_putin : List D → D → Prop := fun ds d => ∃ q n gs z i, ds = [dLay q n gs, .int z] ∧ 2 ≤ q ∧ q ≤ 64 ∧ 0 ≤ n ∧ 1 ≤ z ∧ z ≤ 4096 ∧ Lawful q n gs ∧ spot q z gs = some i ∧ Lawful q (n + 1) (putAt i ⟨.file, n, z⟩ gs) ∧ d = dLay q (n + 1) (putAt i ⟨.file, n, z⟩ gs)
theorem ok_put_in (C : Cs K mg) (F : FnT K mg 61 "put_in") (CL : ClsF K mg "Layout" ["q", "puts", "regions"]) (K1 : Kn P w K mg base "need_layout" 1 R_needlay) (K2 : Kn P w K mg base "need_size" 4 R_size) (K3 : Kn P w K mg base "with_thing" 5 R_withthing) (K4 : KnI P w K mg base "Layout" 7 R_layout) : Kn P w K mg base "put_in" 9 R_putin := by
  obtain ⟨f, fd, F, g⟩ := F
  refine kn_of F g sc_put_in (fun ds d h => by obtain ⟨_, _, _, _, _, rfl, _⟩ := h; rfl) (fun _ _ _ _ _ _ us hl => match us, hl with | [_, _], _ => rfl) ?_
  rintro cdv A outer s H E hr ds d ⟨q, n, gs, z, i, rfl, q1, q2, n0, z1, z2, L, hs, L2, rfl⟩
  refine ss_cons (s_expr (d_call K1 hr (a_cons (d_var 0) a_nil) ⟨_, rfl, rfl⟩) ?_)
  refine ss_cons (s_expr (d_call K2 hr (a_cons (d_var 1) a_nil) ⟨z, rfl, z1, z2, rfl⟩) ?_)
  refine ss_cons (s_ret (d_make K4 hr (a_cons (d_fld (d_var 0) CL.at) (a_cons (d_add (d_fld (d_var 0) CL.at) d_int) (a_cons (d_call K3 hr (a_cons (d_var 0) (a_cons (d_fld (d_var 0) CL.at) (a_cons (d_tup (a_cons (d_glob C.file) (a_cons (d_fld (d_var 0) CL.at) (a_cons (d_var 1) a_nil)))) a_nil)))
    ⟨q, n, gs, gs, ⟨.file, n, z⟩, i, rfl, q1, q2, z1, L, hs, spot_lt hs, L.len, fun g hg => (L.rg g hg).sm, rfl⟩) a_nil))) (R_layout_of q1 q2 (by omega) L2)) rfl)
theorem sc_dropped : FnScope ["layout", "serial", "size", "regions", "rank", "payload", "room"] ["layout", "serial"] (defScope (top 62)) := ⟨rfl, rfl, rfl, by decide +kernel, rfl, by decide +kernel, by decide +kernel⟩
/-- the regions when s is dropped without a tidying -/
def droppedM (q s z : Int) (gs : List Rg) : Option (List Rg) := if isHole s gs then (spot q z gs).map fun i => putAt i ⟨.shade, s, z⟩ (gs.map (markR s)) else some (gs.map (markR s))
def R_dropped : List D → D → Prop := fun ds d => ∃ q n gs s z gs', ds = [dLay q n gs, .int s] ∧ 2 ≤ q ∧ q ≤ 64 ∧ 0 ≤ n ∧ 1 ≤ z ∧ Lawful q n gs ∧ FileAt gs s z ∧ ((allT (gs.map (markR s))).any fun t => decide (t = ⟨.hole, s, z⟩)) = isHole s gs ∧ droppedM q s z gs = some gs' ∧ Lawful q n gs' ∧ d = dLay q n gs'
theorem ok_dropped (T : Tx mg) (C : Cs K mg) (F : FnT K mg 62 "dropped") (CL : ClsF K mg "Layout" ["q", "puts", "regions"]) (K1 : Kn P w K mg base "need_layout" 1 R_needlay) (K2 : Kn P w K mg base "size_in" 2 R_sizein) (K3 : Kn P w K mg base "with_word" 1 R_withword) (K4 : Kn P w K mg base "things_in" 1 R_things) (K5 : Kn P w K mg base "with_thing" 5 R_withthing) (K6 : KnI P w K mg base "Layout" 7 R_layout) : Kn P w K mg base "dropped" 9 R_dropped := by
  obtain ⟨f, fd, F, g⟩ := F
  refine kn_of F g sc_dropped (fun ds d h => by obtain ⟨_, _, _, _, _, _, rfl, _⟩ := h; rfl) (fun _ _ _ _ _ _ us hl => match us, hl with | [_, _], _ => rfl) ?_
  rintro cdv A outer s H E hr ds d ⟨q, n, gs, sr, z, gs', rfl, q1, q2, n0, z1, L, hf, hh, hd, L', rfl⟩
  have nd := sc_dropped.nd
  have len := L.len
  have len2 := L.len2
  refine ss_cons (s_expr (d_call K1 hr (a_cons (d_var 0) a_nil) ⟨_, rfl, rfl⟩) ?_)
  refine ss_cons (s_set 2 nd (d_call K2 hr (a_cons (d_var 0) (a_cons (d_var 1) a_nil)) ⟨q, n, gs, sr, z, rfl, L, hf, rfl⟩) ?_)
  refine ss_cons (s_ifF0 (DT.eq (t_isN (d_var 2)) rfl) ?_)
  refine ss_cons (s_own 3 nd (f_lst a_nil) ?_)
  refine ss_cons (s_for (xs := gs) (enc := dRg) (p := .tp [.nm 4, .nm 5, .nm 6]) (i_tup (d_fld (d_var 0) CL.at)) (g_tp (gs_cons (g_nm 4 nd) (gs_cons (g_nm 5 nd) (gs_cons (g_nm 6 nd) gs_nil))))
    (fun i ρ => ∃ (a b c : Option Sl) (xs : List D), ρ = [some (.val (dLay q n gs)), some (.val (.int sr)), some (.val (.int z)), some (.ml xs), a, b, c] ∧ xs = ((gs.take i).map (markR sr)).map dRg) ⟨_, _, _, _, rfl, rfl⟩ ?_ ?_)
  · rintro i g ρ hx ⟨a, b, c, xs, rfl, hxs⟩
    have hg : g ∈ gs := List.mem_of_getElem? hx
    have sm := (L.rg g hg).sm
    unfold smR at sm
    refine ⟨_, rfl, ?_⟩
    refine ss_cons (s_append 3 (d_tup (a_cons (d_var 4) (a_cons (d_call K3 hr (a_cons (d_var 5) (a_cons (d_var 1) (a_cons (d_glob C.hole) a_nil))) ⟨g.p, sr, .hole, rfl, sm.1, rfl⟩) (a_cons (d_call K3 hr (a_cons (d_var 6) (a_cons (d_var 1) (a_cons (d_glob C.gone) a_nil))) ⟨g.m, sr, .gone, rfl, sm.2, rfl⟩) a_nil)))) (ss_nil ⟨_, _, _, _, rfl, ?_⟩) ?_)
    · rw [take_get hx, List.map_append, List.map_append, hxs]; rfl
    · rw [hxs, List.length_map, List.length_map, List.length_take]
      exact Nat.lt_of_lt_of_le (show _ < 1000 by omega) (ln16 (Nat.le_refl _))
  · rintro ρ ⟨a, b, c, xs, rfl, hxs⟩
    rw [List.take_length] at hxs
    subst hxs
    have ml : (gs.map (markR sr)).length = gs.length := List.length_map _
    have mall : (allT (gs.map (markR sr))).length = (allT gs).length := by
      unfold allT
      rw [List.length_flatMap, List.length_flatMap, List.map_map]
      congr 1
      refine List.map_congr_left fun g _ => ?_
      simp [markR, mark]
    refine ss_frz 3 (ss_cons (s_set 3 nd (d_tupleL T.tuple (d_var 3)) ?_))
    refine ss_cons (s_if (b := isHole sr gs) (DT.eq (t_inD hr (d_tup (a_cons (d_glob C.hole) (a_cons (d_var 1) (a_cons (d_var 2) a_nil)))) (d_call K4 hr (a_cons (d_var 3) a_nil) ⟨gs.map (markR sr), rfl, by omega, by omega, rfl⟩) (show CmpOk (dTh ⟨.hole, sr, z⟩) from ⟨(plain_th _).1, by have := (plain_th ⟨.hole, sr, z⟩).2; omega⟩) (cmp_lst _ fun t _ => plain_th t)) ?_) (fun hb => ?_) (fun hb => ?_))
    · rw [List.any_map, ← hh]
      congr 1
      funext t
      exact eqD_th t ⟨.hole, sr, z⟩
    · unfold droppedM at hd
      rw [if_pos hb] at hd
      cases hs : spot q z gs with
      | none => rw [hs] at hd; cases hd
      | some i =>
        rw [hs] at hd
        cases hd
        refine ss_cons (s_set 3 nd (d_call K5 hr (a_cons (d_var 0) (a_cons (d_var 3) (a_cons (d_tup (a_cons (d_glob C.shade) (a_cons (d_var 1) (a_cons (d_var 2) a_nil)))) a_nil))) ⟨q, n, gs, gs.map (markR sr), ⟨.shade, sr, z⟩, i, rfl, q1, q2, z1, L, hs, by rw [ml]; exact spot_lt hs, by omega, fun g hg => ?_, rfl⟩) (ss_nil ?_))
        · obtain ⟨g0, hg0, rfl⟩ := List.mem_map.mp hg
          have := (L.rg g0 hg0).sm
          unfold smR at this ⊢
          simpa [markR, mark] using this
        · exact ss_cons (s_ret (d_make K6 hr (a_cons (d_fld (d_var 0) CL.at) (a_cons (d_fld (d_var 0) CL.at) (a_cons (d_var 3) a_nil))) (R_layout_of q1 q2 n0 L')) rfl)
    · unfold droppedM at hd
      rw [if_neg (by rw [hb]; exact Bool.false_ne_true)] at hd
      cases hd
      exact ss_nil (ss_cons (s_ret (d_make K6 hr (a_cons (d_fld (d_var 0) CL.at) (a_cons (d_fld (d_var 0) CL.at) (a_cons (d_var 3) a_nil))) (R_layout_of q1 q2 n0 L')) rfl))
end
end K76
set_option maxRecDepth 100000
set_option maxHeartbeats 4000000
namespace K76
open PySem PySem.Spec PyProof.Rows L2
section
variable {X : Cx} {ρ : Env} {a b : Expr} {pos : Pos} {i : Int}
theorem t_neIO {o : Option Int} (ha : DE X a ρ (.int i)) (hb : DE X b ρ (dO o)) : DT X (.Compare a [.NotEq] [b] pos) ρ (!decide (some i = o)) := by
  cases o with
  | none => exact DT.eq (t_cmp op_ne ha hb od_neIN) (by simp)
  | some j => exact DT.eq (t_neI ha hb) (by rw [show decide (some i = some j) = decide (i = j) from decide_eq_decide.mpr (by simp)])
end
section
variable {P : Program} {w : World} {K : PySem.W.Frag} {mg : Str → Option Value} {base : Heap}
theorem sc_is_deed : FnScope ["value"] ["value"] (defScope (top 65)) := ⟨rfl, rfl, rfl, by decide +kernel, rfl, by decide +kernel, by decide +kernel⟩
def deedOk : Dd → Prop
  | .put z => 1 ≤ z ∧ z ≤ 4096
  | .drop s => 0 ≤ s
def R_isdeed : List D → D → Prop := fun ds d => ∃ x, ds = [dDd x] ∧ deedOk x ∧ d = .bl true
theorem ok_is_deed (T : Tx mg) (C : Cs K mg) (F : FnT K mg 65 "is_deed") (K1 : Kn P w K mg base "is_within" 2 R_within) : Kn P w K mg base "is_deed" 3 R_isdeed := by
  obtain ⟨f, fd, F, g⟩ := F
  refine kn_of F g sc_is_deed (fun ds d h => by obtain ⟨_, rfl, _⟩ := h; rfl) (fun _ _ _ _ _ _ us hl => match us, hl with | [_], _ => rfl) ?_
  rintro cdv A outer s H E hr ds d ⟨x, rfl, hx, rfl⟩
  cases x with
  | put z =>
    refine ss_cons (s_ifF0 (DT.eq (DW.t (w_or (t_not (p := true) (t_val (d_isTT (T := "tuple") (T1 := "list") (T2 := "tuple") (r1 := false) (r2 := true) T.isinstance (d_var 0) T.list (by decide +kernel) T.tuple (by decide +kernel) rfl (by decide +kernel) (by decide +kernel)))) fun _ => (w_or1 (t_neI (d_len T.len (d_var 0) (.tup _)) d_int)))) rfl) ?_)
    refine ss_cons (s_ifT (DT.eq (t_eqS (d_ix (d_var 0) (.tup _)) d_str) (by decide)) ?_)
    exact ss_cons (s_ret (DE.eq (d_call K1 hr (a_cons (d_ix (d_var 0) (.tup _)) (a_cons d_int (a_cons (d_glob C.ms) a_nil))) ⟨z, some 1, some 4096, rfl, rfl⟩) (by rw [within_of hx.1 hx.2])) rfl)
  | drop sr =>
    refine ss_cons (s_ifF0 (DT.eq (DW.t (w_or (t_not (p := true) (t_val (d_isTT (T := "tuple") (T1 := "list") (T2 := "tuple") (r1 := false) (r2 := true) T.isinstance (d_var 0) T.list (by decide +kernel) T.tuple (by decide +kernel) rfl (by decide +kernel) (by decide +kernel)))) fun _ => (w_or1 (t_neI (d_len T.len (d_var 0) (.tup _)) d_int)))) rfl) ?_)
    refine ss_cons (s_ifF0 (DT.eq (t_eqS (d_ix (d_var 0) (.tup _)) d_str) (by decide)) ?_)
    have hx : 0 ≤ sr := hx
    exact ss_cons (s_ret (DE.eq (d_and (p := true) (q := true) (DE.eq (d_eqS (d_ix (d_var 0) (.tup _)) d_str) (by rfl)) fun _ => (d_one (DE.eq (d_call K1 hr (a_cons (d_ix (d_var 0) (.tup _)) (a_cons d_int (a_cons d_non a_nil))) ⟨sr, some 0, none, rfl, rfl⟩) (by simp [within, hx])))) rfl) rfl)
theorem sc_seat_of : FnScope ["layout", "serial", "rank", "payload", "room", "is_room", "things", "word", "its", "size"] ["layout", "serial"] (defScope (top 66)) := ⟨rfl, rfl, rfl, by decide +kernel, rfl, by decide +kernel, by decide +kernel⟩
def R_seat : List D → D → Prop := fun ds d => ∃ q n gs s, ds = [dLay q n gs, .int s] ∧ Lawful q n gs ∧ d = dSeat (seatM gs s)
theorem ok_seat_of (F : FnT K mg 66 "seat_of") (CL : ClsF K mg "Layout" ["q", "puts", "regions"]) : Kn P w K mg base "seat_of" 1 R_seat := by
  obtain ⟨f, fd, F, g⟩ := F
  refine kn_of F g sc_seat_of (fun ds d h => by obtain ⟨_, _, _, _, rfl, _⟩ := h; rfl) (fun _ _ _ _ _ _ us hl => match us, hl with | [_, _], _ => rfl) ?_
  rintro cdv A outer s H E hr ds d ⟨q, n, gs, sr, rfl, L, rfl⟩
  have nd := sc_seat_of.nd
  refine ss_cons (s_for (xs := gs) (enc := dRg) (p := .tp [.nm 2, .nm 3, .nm 4]) (i_tup (d_fld (d_var 0) CL.at)) (g_tp (gs_cons (g_nm 2 nd) (gs_cons (g_nm 3 nd) (gs_cons (g_nm 4 nd) gs_nil))))
    (fun i ρ => ((gs.take i).flatMap seatsR).find? (hitS sr) = none ∧ ∃ a b c d e f g h : Option Sl, ρ = [some (.val (dLay q n gs)), some (.val (.int sr)), a, b, c, d, e, f, g, h]) ⟨rfl, _, _, _, _, _, _, _, _, rfl⟩ ?_ ?_)
  · rintro i g ρ hx ⟨hno, a, b, c, d, e, f, g', h, rfl⟩
    refine ⟨_, rfl, ?_⟩
    refine ss_cons (s_for (xs := [(false, g.p), (true, g.m)]) (enc := fun x => .tup [.bl x.1, .tup (x.2.map dTh)]) (p := .tp [.nm 5, .nm 6]) (i_tup (d_tup (a_cons (d_tup (a_cons d_bl (a_cons (d_var 3) a_nil))) (a_cons (d_tup (a_cons d_bl (a_cons (d_var 4) a_nil))) a_nil)))) (g_tp (gs_cons (g_nm 5 nd) (gs_cons (g_nm 6 nd) gs_nil)))
      (fun j ρ => (([(false, g.p), (true, g.m)].take j).flatMap fun x => seatsT g.r x.1 x.2).find? (hitS sr) = none ∧ ∃ d e f g' h : Option Sl, ρ = [some (.val (dLay q n gs)), some (.val (.int sr)), some (.val (.int g.r)), some (.val (.tup (g.p.map dTh))), some (.val (.tup (g.m.map dTh))), d, e, f, g', h]) ⟨rfl, _, _, _, _, _, rfl⟩ ?_ ?_)
    · rintro j ⟨bb, ts⟩ ρ hj ⟨hno2, d, e, f, g', h, rfl⟩
      refine ⟨_, rfl, ?_⟩
      refine ss_cons (s_for (xs := ts) (enc := dTh) (p := .tp [.nm 7, .nm 8, .nm 9]) (i_tup (d_var 6)) (g_tp (gs_cons (g_nm 7 nd) (gs_cons (g_nm 8 nd) (gs_cons (g_nm 9 nd) gs_nil))))
        (fun m ρ => (ts.take m).find? (isF sr) = none ∧ ∃ f g' h : Option Sl, ρ = [some (.val (dLay q n gs)), some (.val (.int sr)), some (.val (.int g.r)), some (.val (.tup (g.p.map dTh))), some (.val (.tup (g.m.map dTh))), some (.val (.bl bb)), some (.val (.tup (ts.map dTh))), f, g', h]) ⟨rfl, _, _, _, rfl⟩ ?_ ?_)
      · rintro m t ρ hm ⟨hno3, f, g', h, rfl⟩
        refine ⟨_, rfl, ?_⟩
        refine ss_cons (s_if (b := isF sr t) (DT.eq (DW.t (w_and (t_eqS (d_var 7) d_str) fun _ => (w_and1 (t_eqI (d_var 8) (d_var 1))))) ?_) (fun hb => ?_) (fun hb => ?_))
        · exact congrArg (· && decide (t.s = sr)) (dec_wd (a := t.w) (b := .file))
        · refine ss_cons (s_ret (d_tup (a_cons (d_var 2) (a_cons (d_var 5) (a_cons (d_var 9) a_nil)))) ?_)
          show D.tup _ = dSeat (seatM gs sr)
          have e1 : (seatsT g.r bb ts).find? (hitS sr) = some (g.r, bb, t) := by
            unfold seatsT
            rw [find_map]
            have := hit_at hm hno3 hb
            show Option.map _ (ts.find? (isF sr)) = _
            rw [this]; rfl
          have e2 : (seatsR g).find? (hitS sr) = some (g.r, bb, t) := hit_flat (F := fun x => seatsT g.r x.1 x.2) hj hno2 e1
          have e3 : seatM gs sr = some (g.r, bb, t) := hit_flat (F := seatsR) hx hno e2
          rw [e3]
        · exact ss_nil (ss_nil ⟨miss_at hm hno3 hb, _, _, _, rfl⟩)
      · rintro ρ ⟨hno3, f, g', h, rfl⟩
        rw [List.take_length] at hno3
        refine ss_nil ⟨miss_flat (F := fun x => seatsT g.r x.1 x.2) hj hno2 ?_, _, _, _, _, _, rfl⟩
        unfold seatsT
        rw [find_map]
        show Option.map _ (ts.find? (isF sr)) = _
        rw [hno3]; rfl
    · rintro ρ ⟨hno2, d, e, f, g', h, rfl⟩
      exact ss_nil ⟨miss_flat (F := seatsR) hx hno hno2, _, _, _, _, _, _, _, _, rfl⟩
  · rintro ρ ⟨hno, a, b, c, d, e, f, g, h, rfl⟩
    rw [List.take_length] at hno
    refine ss_cons (s_ret d_non ?_)
    show D.non = dSeat (seatM gs sr)
    have : seatM gs sr = none := hno
    rw [this]
theorem allT_filter (p : Rg → Bool) (gs : List Rg) : (allT (gs.filter p)).length ≤ (allT gs).length := by
  unfold allT
  induction gs with
  | nil => exact Nat.le_refl _
  | cons g gs ih =>
    rw [List.filter_cons, List.flatMap_cons]
    split
    · rw [List.flatMap_cons, List.length_append, List.length_append (as := g.p ++ g.m) (bs := gs.flatMap _)]; omega
    · rw [List.length_append]; omega
theorem sc_lesser_things : FnScope ["layout", "rank", "rooms", "room", "thing", "own", "_"] ["layout", "rank"] (defScope (top 67)) := ⟨rfl, rfl, rfl, by decide +kernel, rfl, by decide +kernel, by decide +kernel⟩
def R_lesser : List D → D → Prop := fun ds d => ∃ q n gs b, ds = [dLay q n gs, .int b] ∧ Lawful q n gs ∧ d = .lst ((lesserT gs b).map dTh)
theorem ok_lesser_things (F : FnT K mg 67 "lesser_things") (CL : ClsF K mg "Layout" ["q", "puts", "regions"]) (K1 : Kn P w K mg base "rank_of" 5 R_rankof) : Kn P w K mg base "lesser_things" 6 R_lesser := by
  obtain ⟨f, fd, F, g⟩ := F
  refine kn_of F g sc_lesser_things (fun ds d h => by obtain ⟨_, _, _, _, rfl, _⟩ := h; rfl) (fun _ _ _ _ _ _ us hl => match us, hl with | [_, _], _ => rfl) ?_
  rintro cdv A outer s H E hr ds d ⟨q, n, gs, b, rfl, L, rfl⟩
  have nd := sc_lesser_things.nd
  have len := L.len
  have len2 := L.len2
  refine ss_cons (s_setLc 2 nd (LJ.eq (j_lcIf (p := .tp [.nm 5, .nm 6, .nm 3]) (xs := gs) (enc := dRg) (t := fun g => decide (b ≤ g.r)) (f := fun g => .tup (g.m.map dTh)) [("own", 5), ("_", 6), ("room", 3)] nd (i_tup (d_fld (d_var 0) CL.at)) (blkOk_by (by kernel_rfl)) (fun _ _ _ _ _ => g_tp (gs_cons (g_nm 5 nd) (gs_cons (g_nm 6 nd) (gs_cons (g_nm 3 nd) gs_nil)))) (by decide) (by omega) (fun g hg => ⟨_, rfl, fun _ _ _ _ _ => (t_ge (d_var 5) (d_var 1)), fun ht _ _ _ _ _ => (d_var 3)⟩))
    (show _ = ((gs.filter fun g => decide (b ≤ g.r)).map Rg.m).map fun ts => D.tup (ts.map dTh) by rw [List.map_map]; rfl)) ?_)
  refine ss_cons (s_ret (DE.eq (DF.de (f_lc2 (p := .nm 3) (p1 := .nm 4) (xs := (gs.filter fun g => decide (b ≤ g.r)).map Rg.m) (enc := fun ts => D.tup (ts.map dTh)) (t := fun _ => true) (ys := id) (enc1 := dTh) (t1 := fun _ t => decide (rk t.z < b)) (f := fun _ t => dTh t) [("room", 3), ("thing", 4)] nd (i_lst (d_var 2)) (blkOk_by (by kernel_rfl)) (fun _ _ _ _ _ => g_nm 3 nd) (fun _ _ _ _ _ => g_nm 4 nd) (by decide) (by decide)
    (fun ts hts => ⟨_, rfl, fun _ _ _ _ _ => ts_nil, fun _ => ⟨fun _ _ _ _ _ => (i_tup (d_var 3)), fun t ht => ⟨_, rfl, fun _ _ _ _ _ => ts_one (t_lt (d_call K1 hr (a_cons (d_ix (d_var 4) (.tup _)) a_nil) ?_) (d_var 1)), fun ht _ _ _ _ _ => (d_var 4)⟩⟩⟩) ?_)) ?_) rfl)
  · obtain ⟨g, hg, rfl⟩ := List.mem_map.mp hts
    have hg := (List.mem_filter.mp hg).1
    have := (L.rg g hg).m t ht
    exact ⟨t.z, rfl, this.2.2.2.1, this.2.2.2.2, rfl⟩
  · rw [List.filter_eq_self.mpr fun _ _ => rfl, List.flatMap_map]
    have := flat_le (gs := gs.filter fun g => decide (b ≤ g.r)) (f := Rg.m) fun g => by rw [List.length_append]; omega
    have h2 : (allT (gs.filter fun g => decide (b ≤ g.r))).length ≤ (allT gs).length := allT_filter _ gs
    show ((gs.filter fun g => decide (b ≤ g.r)).flatMap Rg.m).length ≤ _
    omega
  · rw [List.filter_eq_self.mpr fun _ _ => rfl]
    unfold lesserT
    rw [List.flatMap_map, List.map_flatMap]
    rfl
end
end K76
set_option maxRecDepth 100000
set_option maxHeartbeats 4000000
namespace K76
open PySem PySem.Spec PyProof.Rows L2
@[reducible] def dFall (x : Int × Th) : D := .tup [.int x.1, dTh x.2]
theorem lesser_len (gs : List Rg) (b : Int) : (lesserT gs b).length ≤ (allT gs).length := by
  unfold lesserT
  have := flat_le (gs := gs.filter fun g => decide (b ≤ g.r)) (f := fun g => g.m.filter fun t => decide (rk t.z < b)) fun g => by
    have := List.length_filter_le (fun t => decide (rk t.z < b)) g.m
    rw [List.length_append]; omega
  have h2 := allT_filter (fun g => decide (b ≤ g.r)) gs
  omega
theorem lesser_ok {q n : Int} {gs : List Rg} {b : Int} {t : Th} (L : Lawful q n gs) (h : t ∈ lesserT gs b) : 1 ≤ t.z ∧ t.z ≤ 4096 := by
  obtain ⟨g, hg, _, hm, _⟩ := lesser_mem.mp h
  have := (L.rg g hg).m t hm
  exact ⟨this.2.2.2.1, this.2.2.2.2⟩
theorem rk_le {z : Int} (h : z ≤ 4096) : rk z ≤ 12 := by
  unfold rk
  have h1 : z.toNat ≤ 4096 := by omega
  by_cases h0 : z.toNat = 0
  · rw [h0]; decide
  · have : Nat.log2 z.toNat < 13 := (Nat.log2_lt h0).mpr (by omega)
    omega
section
variable {P : Program} {w : World} {K : PySem.W.Frag} {mg : Str → Option Value} {base : Heap}
theorem sc_falls_of : FnScope ["layout", "size", "things", "rank", "found", "thing"] ["layout", "size"] (defScope (top 68)) := ⟨rfl, rfl, rfl, by decide +kernel, rfl, by decide +kernel, by decide +kernel⟩
def R_falls : List D → D → Prop := fun ds d => ∃ q n gs z, ds = [dLay q n gs, .int z] ∧ 1 ≤ z ∧ z ≤ 4096 ∧ Lawful q n gs ∧ d = .lst ((fallsM gs (rk z).toNat (rk z)).map dFall)
theorem ok_falls_of (T : Tx mg) (F : FnT K mg 68 "falls_of") (K1 : Kn P w K mg base "rank_of" 5 R_rankof) (K2 : Kn P w K mg base "lesser_things" 6 R_lesser) : Kn P w K mg base "falls_of" 7 R_falls := by
  obtain ⟨f, fd, F, g⟩ := F
  refine kn_of F g sc_falls_of (fun ds d h => by obtain ⟨_, _, _, _, rfl, _⟩ := h; rfl) (fun _ _ _ _ _ _ us hl => match us, hl with | [_, _], _ => rfl) ?_
  rintro cdv A outer s H E hr ds d ⟨q, n, gs, z, rfl, z1, z2, L, rfl⟩
  have nd := sc_falls_of.nd
  have len2 := L.len2
  have hb0 := rk_nonneg z
  refine ss_cons (s_parN [3, 4] (ls_cons (l_val (d_call K1 hr (a_cons (d_var 1) a_nil) ⟨z, rfl, z1, z2, rfl⟩)) (ls_cons (l_own (f_lst a_nil)) ls_nil)) (g_tp (gs_cons (g_nm 3 nd) (gs_cons (g_nm 4 nd) gs_nil))) ?_)
  refine ss_cons (s_set 2 nd (d_call K2 hr (a_cons (d_var 0) (a_cons (d_var 3) a_nil)) ⟨q, n, gs, rk z, rfl, L, rfl⟩) ?_)
  refine ss_cons (s_while (fun m ρ => ∃ (b : Int) (xs : List D) (e : Option Sl), ρ = [some (.val (dLay q n gs)), some (.val (.int z)), some (.val (.lst ((lesserT gs b).map dTh))), some (.val (.int b)), some (.ml xs), e] ∧ 0 ≤ b ∧ b ≤ 12 ∧ m = b.toNat ∧ xs.length + b.toNat ≤ 13 ∧ xs ++ (fallsM gs b.toNat b).map dFall = (fallsM gs (rk z).toNat (rk z)).map dFall)
    (rk z).toNat ⟨rk z, [], _, rfl, hb0, rk_le z2, rfl, by have := rk_le z2; simp; omega, rfl⟩ ?_)
  rintro m ρ ⟨b, xs, e, rfl, b0, b12, rfl, hxl, hxs⟩
  refine ⟨!decide (lesserT gs b = []), DT.eq (t_neD hr (d_var 2) (d_lst a_nil) (cmp_lst _ fun t _ => plain_th t) cmp_nilL) ?_, fun hne => ?_, fun hnil => ?_⟩
  · cases hl : lesserT gs b with
    | nil => simp [eqD, toPy, toPys, PyData.eqv, PyData.eqvAll]
    | cons t ts => simp [eqD, toPy, toPys, PyData.eqv, PyData.eqvAll]
  · have hne : lesserT gs b ≠ [] := by simpa using hne
    obtain ⟨⟨t0, ht0, e0⟩, hmin, hlt, hge⟩ := stepB_cons hne
    have hll := lesser_len gs b
    refine ss_cons (s_set 3 nd (d_minL (xs := lesserT gs b) (f := fun t => rk t.z) (m := stepB gs b) T.min (DF.de (f_lc (p := .nm 5) (xs := lesserT gs b) (enc := dTh) [("thing", 5)] nd (i_lst (d_var 2)) (blkOk_by (by kernel_rfl)) (fun _ _ _ _ _ => g_nm 5 nd) (by decide) (by omega) (fun t ht => ⟨_, rfl, fun _ _ _ _ _ => (d_call K1 hr (a_cons (d_ix (d_var 5) (.tup _)) a_nil) ⟨t.z, rfl, (lesser_ok L ht).1, (lesser_ok L ht).2, rfl⟩)⟩)))
      (List.mem_map.mpr ⟨t0, ht0, e0⟩) (fun y hy => by obtain ⟨t, ht, rfl⟩ := List.mem_map.mp hy; exact hmin t ht)) ?_)
    have hfind : ((lesserT gs b).find? fun t => decide (rk t.z = stepB gs b)) = some (firstT gs b) := by
      unfold firstT
      cases h : (lesserT gs b).find? fun t => decide (rk t.z = stepB gs b) with
      | none => exact absurd (List.find?_eq_none.mp h t0 ht0) (by simp [e0])
      | some t => rfl
    have hhead : ((((lesserT gs b).filter fun t => decide (rk t.z = stepB gs b)).map fun t => dTh t)[0]?) = some (dTh (firstT gs b)) := by
      rw [List.getElem?_map, ← List.head?_eq_getElem?, List.head?_filter, hfind]; rfl
    refine ss_cons (s_append 4 (d_tup (a_cons (d_var 3) (a_cons (d := dTh (firstT gs b)) ?_ a_nil))) ?_ ?_)
    · refine d_ixA (z := dTh (firstT gs b)) (i := ((0 : Nat) : Int)) ?_ (.lst _) d_int (atI_nat hhead)
      exact DF.de (f_lcIf (p := .nm 5) (xs := lesserT gs b) (enc := dTh) (t := fun t => decide (rk t.z = stepB gs b)) (f := fun t => dTh t) [("thing", 5)] nd (i_lst (d_var 2)) (blkOk_by (by kernel_rfl)) (fun _ _ _ _ _ => g_nm 5 nd) (by decide) (by omega) (fun t ht => ⟨_, rfl, fun _ _ _ _ _ => (t_eqI (d_call K1 hr (a_cons (d_ix (d_var 5) (.tup _)) a_nil) ⟨t.z, rfl, (lesser_ok L ht).1, (lesser_ok L ht).2, rfl⟩) (d_var 3)), fun _ _ _ _ _ _ => (d_var 5)⟩))
    · refine ss_cons (s_set 2 nd (d_call K2 hr (a_cons (d_var 0) (a_cons (d_var 3) a_nil)) ⟨q, n, gs, stepB gs b, rfl, L, rfl⟩) (ss_nil ⟨(stepB gs b).toNat, by omega, stepB gs b, _, _, rfl, hge, by omega, rfl, ?_, ?_⟩))
      · rw [List.length_append, List.length_singleton]; omega
      · rw [← hxs, List.append_assoc]
        congr 1
        have hbn : b.toNat = (b.toNat - 1) + 1 := by omega
        rw [hbn, fallsM, if_neg hne, List.map_cons]
        have : fallsM gs (b.toNat - 1) (stepB gs b) = fallsM gs (stepB gs b).toNat (stepB gs b) := falls_fuel gs _ _ _ hge (by omega) (Nat.le_refl _)
        rw [this]
        rfl
    · exact Nat.lt_of_lt_of_le (show _ < 1000 by omega) (ln16 (Nat.le_refl _))
  · have hnil : lesserT gs b = [] := by simpa using hnil
    have : fallsM gs b.toNat b = [] := by
      cases b.toNat with
      | zero => rfl
      | succ m => rw [fallsM, if_pos hnil]
    rw [this, List.map_nil, List.append_nil] at hxs
    subst hxs
    exact ss_frz 4 (ss_cons (s_ret (d_var 4) rfl))
theorem sc_rank_drawn : FnScope ["layout", "size", "falls"] ["layout", "size"] (defScope (top 69)) := ⟨rfl, rfl, rfl, by decide +kernel, rfl, by decide +kernel, by decide +kernel⟩
def R_drawn : List D → D → Prop := fun ds d => ∃ q n gs z, ds = [dLay q n gs, .int z] ∧ 1 ≤ z ∧ z ≤ 4096 ∧ Lawful q n gs ∧ d = .int (bgn gs z)
theorem ok_rank_drawn (F : FnT K mg 69 "rank_drawn") (K1 : Kn P w K mg base "falls_of" 7 R_falls) (K2 : Kn P w K mg base "rank_of" 5 R_rankof) : Kn P w K mg base "rank_drawn" 8 R_drawn := by
  obtain ⟨f, fd, F, g⟩ := F
  refine kn_of F g sc_rank_drawn (fun ds d h => by obtain ⟨_, _, _, _, rfl, _⟩ := h; rfl) (fun _ _ _ _ _ _ us hl => match us, hl with | [_, _], _ => rfl) ?_
  rintro cdv A outer s H E hr ds d ⟨q, n, gs, z, rfl, z1, z2, L, rfl⟩
  have nd := sc_rank_drawn.nd
  have e1 := (falls_last gs (rk z).toNat (rk z) (rk_nonneg z) (Nat.le_refl _)).1
  have e2 : bgn gs z = iterB gs (rk z).toNat (rk z) := iterB_more gs _ 14 _ (rk_nonneg z) (Nat.le_refl _) (by have := rk_le z2; omega)
  refine ss_cons (s_set 2 nd (d_call K1 hr (a_cons (d_var 0) (a_cons (d_var 1) a_nil)) ⟨q, n, gs, z, rfl, z1, z2, L, rfl⟩) ?_)
  cases hf : fallsM gs (rk z).toNat (rk z) with
  | nil =>
    rw [hf] at e1
    refine ss_cons (s_ret (DE.eq (d_ifF (DT.eq (t_neD hr (d_var 2) (d_lst a_nil) cmp_nilL cmp_nilL) (by decide)) (d_call K2 hr (a_cons (d_var 1) a_nil) ⟨z, rfl, z1, z2, rfl⟩)) ?_) rfl)
    rw [e2, ← e1]; rfl
  | cons x xs =>
    rw [hf, List.getLast?_eq_some_getLast (List.cons_ne_nil x xs)] at e1
    have e3 : L2.atI ((x :: xs).map dFall) (-1) = some (dFall ((x :: xs).getLast (List.cons_ne_nil x xs))) := by
      have e := List.dropLast_concat_getLast (List.cons_ne_nil x xs)
      conv => lhs; rw [← e, List.map_append]
      exact atI_last _ _
    have cmpF : ∀ y : Int × Th, plainD (dFall y) = true ∧ (toPy (dFall y)).depth ≤ 2 := fun y => ⟨by simp [plainD, plainDs, lay_wd], by simp [toPy, toPys, PyData.depth, PyData.depthAll]⟩
    refine ss_cons (s_ret (DE.eq (d_ifT (DT.eq (t_neD hr (d_var 2) (d_lst a_nil) (cmp_lst _ fun y _ => cmpF y) cmp_nilL) (by simp [eqD, toPy, toPys, PyData.eqv, PyData.eqvAll])) (d_ix (z := .int ((x :: xs).getLast (List.cons_ne_nil x xs)).1) (d_ixA (d_var 2) (.lst _) (d_neg d_int) e3) (.tup _))) ?_) rfl)
    rw [e2, ← e1]; rfl
theorem sc_volume : FnScope ["region", "thing"] ["region"] (defScope (top 70)) := ⟨rfl, rfl, rfl, by decide +kernel, rfl, by decide +kernel, by decide +kernel⟩
def R_volume : List D → D → Prop := fun ds d => ∃ g : Rg, ds = [dRg g] ∧ smR g ∧ d = .int (cells g.p)
theorem ok_volume (T : Tx mg) (F : FnT K mg 70 "volume") : Kn P w K mg base "volume" 1 R_volume := by
  obtain ⟨f, fd, F, g⟩ := F
  refine kn_of F g sc_volume (fun ds d h => by obtain ⟨_, rfl, _⟩ := h; rfl) (fun _ _ _ _ _ _ us hl => match us, hl with | [_], _ => rfl) ?_
  rintro cdv A outer s H E hr ds d ⟨g, rfl, sm, rfl⟩
  have nd := sc_volume.nd
  unfold smR at sm
  exact ss_cons (s_ret (d_sum (xs := g.p) (f := Th.z) T.sum (DF.de (f_lc (p := .nm 1) (xs := g.p) (enc := dTh) [("thing", 1)] nd (i_tup (d_ix (d_var 0) (.tup _))) (blkOk_by (by kernel_rfl)) (fun _ _ _ _ _ => g_nm 1 nd) (by decide) (by omega) (fun t ht => ⟨_, rfl, fun _ _ _ _ _ => (d_ix (d_var 1) (.tup _))⟩)))) rfl)
theorem sc_led : FnScope ["serial", "one", "other", "size", "aside"] ["serial", "one", "other", "size", "aside"] (defScope (top 72)) := ⟨rfl, rfl, rfl, by decide +kernel, rfl, by decide +kernel, by decide +kernel⟩
def ledM (s one other z aside : Int) : List (Int × Int × Int) := if one = other then [] else if (if one - other < 0 then -(one - other) else one - other) < z then [(s, one, aside), (s, aside, other)] else [(s, one, other)]
def R_led : List D → D → Prop := fun ds d => ∃ s one other z aside : Int, ds = [.int s, .int one, .int other, .int z, .int aside] ∧ d = .lst ((ledM s one other z aside).map dCp)
theorem ok_led (T : Tx mg) (F : FnT K mg 72 "led") : Kn P w K mg base "led" 1 R_led := by
  obtain ⟨f, fd, F, g⟩ := F
  refine kn_of F g sc_led (fun ds d h => by obtain ⟨_, _, _, _, _, rfl, _⟩ := h; rfl) (fun _ _ _ _ _ _ us hl => match us, hl with | [_, _, _, _, _], _ => rfl) ?_
  rintro cdv A outer s H E hr ds d ⟨sr, one, other, z, aside, rfl, rfl⟩
  refine ss_cons (s_if (t_eqI (d_var 1) (d_var 2)) (fun hb => ?_) (fun hb => ?_))
  · have hb := of_decide_eq_true hb
    exact ss_cons (s_ret (DE.eq (d_lst a_nil) (by unfold ledM; rw [if_pos hb]; rfl)) rfl)
  · have hb := of_decide_eq_false hb
    refine ss_nil (ss_cons (s_if (t_lt (d_abs T.abs (d_sub (d_var 1) (d_var 2))) (d_var 3)) (fun hc => ?_) (fun hc => ?_)))
    · have hc := of_decide_eq_true hc
      exact ss_cons (s_ret (DE.eq (d_lst (a_cons (d_tup (a_cons (d_var 0) (a_cons (d_var 1) (a_cons (d_var 4) a_nil)))) (a_cons (d_tup (a_cons (d_var 0) (a_cons (d_var 4) (a_cons (d_var 2) a_nil)))) a_nil))) (by unfold ledM; rw [if_neg hb, if_pos hc]; rfl)) rfl)
    · have hc := of_decide_eq_false hc
      exact ss_nil (ss_cons (s_ret (DE.eq (d_lst (a_cons (d_tup (a_cons (d_var 0) (a_cons (d_var 1) (a_cons (d_var 2) a_nil)))) a_nil)) (by unfold ledM; rw [if_neg hb, if_neg hc]; rfl)) rfl))
end
end K76
set_option maxRecDepth 100000
set_option maxHeartbeats 4000000
namespace K76
open PySem PySem.Spec PyProof.Rows L2
/-- the files that are laid anew -/
def anewFs (n : Int) (gs : List Rg) (b : Int) (put drop : Option Int) : List (Int × Int) := filesIn b drop gs ++ (put.map fun z => (n, z)).toList
theorem filesR_len (b : Int) (drop : Option Int) (g : Rg) : (filesR b drop g).length ≤ (g.p ++ g.m).length := by
  unfold filesR
  split
  · rw [List.length_map]; exact List.length_filter_le _ _
  · exact Nat.zero_le _
theorem filesIn_len (b : Int) (drop : Option Int) (gs : List Rg) : (filesIn b drop gs).length ≤ (allT gs).length := by
  unfold filesIn allT
  induction gs with
  | nil => exact Nat.le_refl _
  | cons g gs ih =>
    have := filesR_len b drop g
    rw [List.flatMap_cons, List.flatMap_cons, List.length_append, List.length_append]
    omega
theorem filesIn_eq (b : Int) (drop : Option Int) (gs : List Rg) : filesIn b drop gs = (((gs.filter fun g => decide (b ≤ g.r)).flatMap fun g => g.p ++ g.m).filter fun t => decide (t.w = .file) && !decide (some t.s = drop)).map fun t => (t.s, t.z) := by
  unfold filesIn
  induction gs with
  | nil => rfl
  | cons g gs ih =>
    rw [List.flatMap_cons, ih]
    unfold filesR
    by_cases h : b ≤ g.r
    · rw [if_pos h, List.filter_cons, if_pos (by simpa using h), List.flatMap_cons]
      simp only [List.filter_append, List.map_append, List.append_assoc]
    · rw [if_neg h, List.filter_cons, if_neg (by simpa using h), List.nil_append]
/-- a new region as the def makes it: its payload a list -/
@[reducible] def dNew (fs : List (Int × Int)) (r : Int) : D := .tup [.int r, .lst ((newR fs r).p.map dTh), .tup []]
theorem fix_new (fs : List (Int × Int)) (r : Int) : fixD (dNew fs r) = dRg (newR fs r) := by
  show D.tup [.int r, .tup (fixDs ((newR fs r).p.map dTh)), .tup []] = _
  rw [fixDs_map, List.map_map]
  rfl
theorem fix_ths (ts : List Th) : (ts.map dTh).map fixD = ts.map dTh := by rw [List.map_map]; rfl
theorem anew_fix (gs : List Rg) (b : Int) (fs : List (Int × Int)) : fixD (.lst ((gs.filter fun g => decide (g.r < b)).map dRg ++ (ranksOf fs).map (dNew fs))) = dGs (anewF gs b fs) := by
  show D.tup (fixDs _) = D.tup _
  rw [fixDs_map, List.map_append, List.map_map, List.map_map]
  unfold anewF
  rw [List.map_append, List.map_map]
  congr 1
  congr 1
  · exact List.map_congr_left fun g _ => fix_rg g
  · exact List.map_congr_left fun r _ => fix_new fs r
theorem newR_len (fs : List (Int × Int)) (r : Int) : (newR fs r).p.length ≤ fs.length := by
  unfold newR
  rw [List.length_map]
  exact Nat.le_trans (List.length_filter_le _ _) (Nat.le_of_eq (sortP_perm fs).length_eq)
theorem fixOk_new (fs : List (Int × Int)) (r : Int) : fixOk 4 (dNew fs r) = true := by
  show fixOk 4 (D.tup _) = true
  have h : fixOk 3 (D.lst ((newR fs r).p.map dTh)) = true := by
    rw [fixOk, fixOks_all, List.all_eq_true]
    intro d hd
    obtain ⟨t, _, rfl⟩ := List.mem_map.mp hd
    exact fixOk_th 0 t
  rw [fixOk, fixOks, fixOks, fixOks, fixOks, h]
  rfl
theorem fixOk_rg (g : Rg) : fixOk 4 (dRg g) = true := by
  show fixOk 4 (D.tup _) = true
  rw [fixOk, fixOks, fixOks, fixOks, fixOks, fixOk_ths 0, fixOk_ths 0]
  rfl
theorem smallD_rg (g : Rg) (h : smR g) : smallD 4 (dRg g) = true := by
  unfold smR at h
  show smallD 4 (D.tup _) = true
  rw [smallD, Bool.and_eq_true, decide_eq_true_eq, List.all_eq_true]
  refine ⟨Nat.le_of_ble_eq_true rfl, ?_⟩
  rintro ⟨d, hd⟩ _
  rcases List.mem_cons.mp hd with rfl | hd
  · rfl
  rcases List.mem_cons.mp hd with rfl | hd
  · exact smallD_ths 3 _ h.1
  rcases List.mem_cons.mp hd with rfl | hd
  · exact smallD_ths 3 _ h.2
  · cases hd
theorem smallD_lths (n : Nat) (ts : List Th) (h : ts.length ≤ 200) : smallD n (.lst (ts.map dTh)) = true := by
  cases n with
  | zero => rfl
  | succ n =>
    rw [smallD, Bool.and_eq_true, decide_eq_true_eq, List.all_eq_true]
    refine ⟨by rw [List.length_map]; omega, ?_⟩
    rintro ⟨d, hd⟩ _
    obtain ⟨t, _, rfl⟩ := List.mem_map.mp hd
    cases n with
    | zero => rfl
    | succ n => cases n <;> rfl
theorem smallD_new (fs : List (Int × Int)) (r : Int) (h : fs.length < 64) : smallD 4 (dNew fs r) = true := by
  show smallD 4 (D.tup _) = true
  rw [smallD, Bool.and_eq_true, decide_eq_true_eq, List.all_eq_true]
  refine ⟨Nat.le_of_ble_eq_true rfl, ?_⟩
  rintro ⟨d, hd⟩ _
  rcases List.mem_cons.mp hd with rfl | hd
  · rfl
  rcases List.mem_cons.mp hd with rfl | hd
  · exact smallD_lths 3 _ (by have := newR_len fs r; omega)
  rcases List.mem_cons.mp hd with rfl | hd
  · rfl
  · cases hd
theorem ranksOf_sorted (fs : List (Int × Int)) : (ranksOf fs).Pairwise (· < ·) := by
  unfold ranksOf
  refine List.Pairwise.filter _ ?_
  rw [List.pairwise_map]
  exact List.pairwise_lt_range.imp fun h => by omega
theorem ranksOf_mem {fs : List (Int × Int)} (h : ∀ f ∈ fs, f.2 ≤ 4096) {k : Int} : k ∈ ranksOf fs ↔ ∃ f ∈ fs, rk f.2 = k := by
  unfold ranksOf
  simp only [List.mem_filter, List.mem_map, List.mem_range, List.any_eq_true, decide_eq_true_eq]
  constructor
  · rintro ⟨_, h⟩; exact h
  · rintro ⟨f, hf, rfl⟩
    refine ⟨⟨(rk f.2).toNat, ?_, ?_⟩, f, hf, rfl⟩
    · have := rk_le (h f hf); omega
    · have := rk_nonneg f.2; omega
theorem ranksOf_len (fs : List (Int × Int)) : (ranksOf fs).length ≤ 13 := by
  unfold ranksOf
  exact Nat.le_trans (List.length_filter_le _ _) (by rw [List.length_map, List.length_range]; exact Nat.le_refl _)
section
variable {P : Program} {w : World} {K : PySem.W.Frag} {mg : Str → Option Value} {base : Heap}
theorem sc_laid_anew : FnScope ["layout", "rank", "put", "drop", "regions", "old", "files", "ranks", "own", "payload", "region", "thing", "word", "serial", "size", "_"] ["layout", "rank", "put", "drop"] (defScope (top 71)) := ⟨rfl, rfl, rfl, by decide +kernel, rfl, by decide +kernel, by decide +kernel⟩
def R_anew : List D → D → Prop := fun ds d => ∃ q n gs b put drop, ds = [dLay q n gs, .int b, dO put, dO drop] ∧ 2 ≤ q ∧ q ≤ 64 ∧ 0 ≤ n ∧ Lawful q n gs ∧ (anewFs n gs b put drop).length < 64 ∧ (∀ f ∈ anewFs n gs b put drop, 1 ≤ f.2 ∧ f.2 ≤ 4096) ∧
  Lawful q (n + if put.isSome then 1 else 0) (anewF gs b (anewFs n gs b put drop)) ∧ d = dLay q (n + if put.isSome then 1 else 0) (anewF gs b (anewFs n gs b put drop))
theorem ok_laid_anew (T : Tx mg) (F : FnT K mg 71 "laid_anew") (CL : ClsF K mg "Layout" ["q", "puts", "regions"]) (K1 : Kn P w K mg base "rank_of" 5 R_rankof) (K2 : KnI P w K mg base "Layout" 7 R_layout) : Kn P w K mg base "laid_anew" 9 R_anew := by
  obtain ⟨f, fd, F, g⟩ := F
  refine kn_of F g sc_laid_anew (fun ds d h => by obtain ⟨_, _, _, _, _, _, rfl, _⟩ := h; rfl) (fun _ _ _ _ _ _ us hl => match us, hl with | [_, _, _, _], _ => rfl) ?_
  rintro cdv A outer s H E hr ds d ⟨q, n, gs, b, put, drop, rfl, q1, q2, n0, L, hfl, hfz, L2, rfl⟩
  have nd := sc_laid_anew.nd
  have len := L.len
  have len2 := L.len2
  refine ss_cons (s_setLcW 4 nd (j_lcIf (p := .nm 10) (xs := gs) (enc := dRg) (t := fun g => decide (g.r < b)) (f := dRg) [("region", 10)] nd (i_tup (d_fld (d_var 0) CL.at)) (blkOk_by (by kernel_rfl)) (fun _ _ _ _ _ => g_nm 10 nd) (by decide) (by omega) (fun g hg => ⟨_, rfl, fun _ _ _ _ _ => (t_lt (d_ix (d_var 10) (.tup _)) (d_var 1)), fun ht _ _ _ _ _ => (d_var 10)⟩)) ?_)
  refine ss_cons (s_setLc2 5 nd (LJ2.eq (j_lc2 (p := .nm 10) (p1 := .nm 11) (xs := gs) (enc := dRg) (t := fun g => decide (b ≤ g.r)) (ys := fun g => g.p ++ g.m) (enc1 := dTh) (t1 := fun _ _ => true) (f := fun _ t => dTh t) [("region", 10), ("thing", 11)] nd (i_tup (d_fld (d_var 0) CL.at)) (blkOk_by (by kernel_rfl)) (fun _ _ _ _ _ => g_nm 10 nd) (fun _ _ _ _ _ => g_nm 11 nd) (by decide) (by decide)
    (fun g hg => ⟨_, rfl, fun _ _ _ _ _ => ts_one (t_ge (d_ix (d_var 10) (.tup _)) (d_var 1)), fun _ => ⟨fun _ _ _ _ _ => (i_tup (DE.eq (d_tup (a_star (d_ix (d_var 10) (.tup _)) (.tup _) (a_star (d_ix (d_var 10) (.tup _)) (.tup _) a_nil)) ?_) (by rw [List.append_nil, List.map_append]))), fun t ht => ⟨_, rfl, fun _ _ _ _ _ => ts_nil, fun _ _ _ _ _ _ => (d_var 11)⟩⟩⟩) ?_)
    (show _ = ((gs.filter fun g => decide (b ≤ g.r)).flatMap fun g => g.p ++ g.m).map dTh by rw [List.map_flatMap]; congr 1; funext g; rw [List.filter_eq_self.mpr fun _ _ => rfl])) ?_)
  · have sm := (L.rg g hg).sm
    unfold smR at sm
    refine ln16 ?_
    simp only [List.length_append, List.length_map, List.length_nil]
    omega
  · have := allT_filter (fun g => decide (b ≤ g.r)) gs
    show (allT (gs.filter fun g => decide (b ≤ g.r))).length ≤ _
    omega
  have hold : ((gs.filter fun g => decide (b ≤ g.r)).flatMap fun g => g.p ++ g.m).length ≤ 200 := by
    have := allT_filter (fun g => decide (b ≤ g.r)) gs
    show (allT (gs.filter fun g => decide (b ≤ g.r))).length ≤ _
    omega
  refine ss_cons (s_setLcW 6 nd (LJ.eq (j_lcIf (p := .tp [.nm 12, .nm 13, .nm 14]) (xs := (gs.filter fun g => decide (b ≤ g.r)).flatMap fun g => g.p ++ g.m) (enc := dTh) (t := fun t => decide (t.w = .file) && !decide (some t.s = drop)) (f := fun t => dPr (t.s, t.z)) [("word", 12), ("serial", 13), ("size", 14)] nd (i_lst (d_var 5)) (blkOk_by (by kernel_rfl)) (fun _ _ _ _ _ => g_tp (gs_cons (g_nm 12 nd) (gs_cons (g_nm 13 nd) (gs_cons (g_nm 14 nd) gs_nil)))) (by decide) (by omega)
    (fun t ht => ⟨_, rfl, fun _ _ _ _ _ => DT.eq (DW.t (w_and (t_eqS (d_var 12) d_str) fun _ => (w_and1 (t_neIO (d_var 13) (d_var 3))))) (congrArg (· && !decide (some t.s = drop)) (dec_wd (a := t.w) (b := .file))), fun ht _ _ _ _ _ => (d_tup (a_cons (d_var 13) (a_cons (d_var 14) a_nil)))⟩))
    (show _ = (filesIn b drop gs).map dPr by rw [filesIn_eq, List.map_map]; rfl)) ?_)
  have fl1 := filesIn_len b drop gs
  -- after the put
  have after : ∀ ρ : Env, ρ = [some (.val (dLay q n gs)), some (.val (.int b)), some (.val (dO put)), some (.val (dO drop)), some (.ml ((gs.filter fun g => decide (g.r < b)).map dRg)), some (.val (.lst (((gs.filter fun g => decide (b ≤ g.r)).flatMap fun g => g.p ++ g.m).map dTh))), some (.ml ((anewFs n gs b put drop).map dPr)), none, none, none, none, none, none, none, none, none] →
      DSs (Cxf P w K mg base ["layout", "rank", "put", "drop", "regions", "old", "files", "ranks", "own", "payload", "region", "thing", "word", "serial", "size", "_"] "laid_anew" (defScope (top 71)) f cdv A outer s H E) ((defBody (top 71)).drop 4) ρ (retK (dLay q (n + if put.isSome then 1 else 0) (anewF gs b (anewFs n gs b put drop)))) := by
    rintro ρ rfl
    refine ss_frz 6 ?_
    refine ss_cons (s_setDc 7 nd (j_dc (p := .tp [.nm 15, .nm 14]) (xs := anewFs n gs b put drop) (enc := dPr) (kf := fun f => rk f.2) (vf := fun _ => .bl true) [("_", 15), ("size", 14)] nd (i_lst (d_var 6)) (blkOk_by (by kernel_rfl)) (fun _ _ _ _ _ => g_tp (gs_cons (g_nm 15 nd) (gs_cons (g_nm 14 nd) gs_nil))) (by decide) (by omega) (fun x hx => ⟨_, rfl, fun _ _ _ _ _ => (d_call K1 hr (a_cons (d_var 14) a_nil) ⟨x.2, rfl, (hfz x hx).1, (hfz x hx).2, rfl⟩), fun _ _ _ _ _ => d_bl⟩)) ?_)
    obtain ⟨kn, km⟩ := dictI_keys (kf := fun f : Int × Int => rk f.2) (vf := fun _ => D.bl true) (anewFs n gs b put drop) [] List.nodup_nil
    have kl := dictI_len (kf := fun f : Int × Int => rk f.2) (vf := fun _ => D.bl true) (anewFs n gs b put drop) []
    have kl' : ((anewFs n gs b put drop).foldl (fun acc x => putI acc (rk x.2) (D.bl true)) []).length < 64 := by
      have : (dictI (fun f : Int × Int => rk f.2) (fun _ => D.bl true) (anewFs n gs b put drop) []).length ≤ (anewFs n gs b put drop).length := by simpa using kl
      exact Nat.lt_of_le_of_lt this hfl
    have rs := ranksOf_sorted (anewFs n gs b put drop)
    have rn : (ranksOf (anewFs n gs b put drop)).Nodup := rs.imp fun h => Int.ne_of_lt h
    refine ss_cons (s_for (xs := ranksOf (anewFs n gs b put drop)) (enc := D.int) (p := .nm 8) (i_lst (DF.de (f_sortedDI T.sorted (d_var 7) ((List.perm_ext_iff_of_nodup rn kn).mpr fun k => ?_) (rs.imp fun h => Int.le_of_lt h) kl'))) (g_nm 8 nd)
      (fun i ρ => ∃ (a b1 c d e1 e2 e3 e4 e5 : Option Sl) (xs : List D), ρ = [some (.val (dLay q n gs)), some (.val (.int b)), some (.val (dO put)), some (.val (dO drop)), some (.ml xs), e1, some (.val (.lst ((anewFs n gs b put drop).map dPr))), e2, a, b1, c, d, e3, e4, e5, none] ∧ xs = (gs.filter fun g => decide (g.r < b)).map dRg ++ ((ranksOf (anewFs n gs b put drop)).take i).map (dNew (anewFs n gs b put drop))) ?_ ?_ ?_)
    · rw [km k, ranksOf_mem fun f hf => (hfz f hf).2]
      simp
    · exact ⟨_, _, _, _, _, _, _, _, _, _, rfl, by simp⟩
    · rintro i r ρ hi ⟨a, b1, c, d, e1, e2, e3, e4, e5, xs, rfl, hxs⟩
      have hil := (List.getElem?_eq_some_iff.mp hi).1
      have hrl := ranksOf_len (anewFs n gs b put drop)
      have hgl := List.length_filter_le (fun g : Rg => decide (g.r < b)) gs
      refine ⟨_, rfl, ?_⟩
      refine ss_cons (s_setLc 9 nd (LJ.eq (j_lcIf (p := .tp [.nm 13, .nm 14]) (xs := sortP (anewFs n gs b put drop)) (enc := dPr) (t := fun f => decide (rk f.2 = r)) (f := fun f => dTh ⟨.file, f.1, f.2⟩) [("serial", 13), ("size", 14)] nd (i_lst (DF.de (f_sortedP T.sorted (d_var 6) (sortP_perm _) (sortP_sorted _)))) (blkOk_by (by kernel_rfl)) (fun _ _ _ _ _ => g_tp (gs_cons (g_nm 13 nd) (gs_cons (g_nm 14 nd) gs_nil))) (by decide) (by rw [(sortP_perm _).length_eq]; omega)
        (fun x hx => ⟨_, rfl, fun _ _ _ _ _ => (t_eqI (d_call K1 hr (a_cons (d_var 14) a_nil) ⟨x.2, rfl, (hfz x ((sortP_perm _).mem_iff.mp hx)).1, (hfz x ((sortP_perm _).mem_iff.mp hx)).2, rfl⟩) (d_var 8)), fun _ _ _ _ _ _ => (d_tup (a_cons d_str (a_cons (d_var 13) (a_cons (d_var 14) a_nil))))⟩))
        (show _ = (newR (anewFs n gs b put drop) r).p.map dTh by unfold newR; rw [List.map_map]; rfl)) ?_)
      refine ss_cons (s_append 4 (d_tup (a_cons (d_var 8) (a_cons (d_var 9) (a_cons (d_tup a_nil) a_nil)))) (ss_nil ⟨_, _, _, _, _, _, _, _, _, _, rfl, ?_⟩) ?_)
      · rw [hxs, take_get hi, List.map_append, List.append_assoc]; rfl
      · rw [hxs]
        refine Nat.lt_of_lt_of_le (show _ < 1000 from ?_) (ln16 (Nat.le_refl _))
        simp only [List.length_append, List.length_map, List.length_take]
        omega
    · rintro ρ ⟨a, b1, c, d, e1, e2, e3, e4, e5, xs, rfl, hxs⟩
      rw [List.take_length] at hxs
      subst hxs
      refine ss_frz 4 (ss_cons (s_ret (d_make K2 hr (a_cons (d_fld (d_var 0) CL.at) (a_cons (d_add (d_fld (d_var 0) CL.at) (d_intB T.int (d_notN (d_var 2)))) (a_cons (d_var 4) a_nil))) ⟨q, n + if put.isSome then 1 else 0, _, _, ?_, ?_, ?_, anew_fix gs b _, q1, q2, ?_, L2, rfl⟩) rfl))
      · cases put <;> rfl
      · show fixOk 5 (D.lst _) = true
        rw [fixOk, fixOks_all, List.all_eq_true]
        intro d hd
        rcases List.mem_append.mp hd with hd | hd
        · obtain ⟨g, _, rfl⟩ := List.mem_map.mp hd; exact fixOk_rg g
        · obtain ⟨r, _, rfl⟩ := List.mem_map.mp hd; exact fixOk_new _ r
      · have hrl := ranksOf_len (anewFs n gs b put drop)
        have hgl := List.length_filter_le (fun g : Rg => decide (g.r < b)) gs
        rw [smallD, Bool.and_eq_true, decide_eq_true_eq, List.all_eq_true]
        refine ⟨by simp only [List.length_append, List.length_map]; omega, ?_⟩
        rintro ⟨d, hd⟩ _
        rcases List.mem_append.mp hd with hd | hd
        · obtain ⟨g, hg, rfl⟩ := List.mem_map.mp hd
          exact smallD_rg g (L.rg g (List.mem_filter.mp hg).1).sm
        · obtain ⟨r, _, rfl⟩ := List.mem_map.mp hd
          exact smallD_new _ r hfl
      · split <;> omega
  cases put with
  | none =>
    refine ss_cons (s_ifF0 (DT.eq (t_notN (d_var 2)) rfl) ?_)
    refine after _ ?_
    unfold anewFs
    rw [Option.map_none, Option.toList_none, List.append_nil]
    rfl
  | some z =>
    refine ss_cons (s_ifT (DT.eq (t_notN (d_var 2)) rfl) (ss_cons (s_append 6 (d_tup (a_cons (d_fld (d_var 0) CL.at) (a_cons (d_var 2) a_nil))) (ss_nil (after _ ?_)) ?_)))
    · unfold anewFs
      rw [Option.map_some, Option.toList_some, List.map_append]
      rfl
    · rw [List.length_map]
      exact Nat.lt_of_lt_of_le (show _ < 1000 by omega) (ln16 (Nat.le_refl _))
end
end K76
set_option maxRecDepth 100000
set_option maxHeartbeats 4000000
namespace K76
open PySem PySem.Spec PyProof.Rows L2
section
variable {P : Program} {w : World} {K : PySem.W.Frag} {mg : Str → Option Value} {base : Heap}
theorem sc_Paper_init : FnScope ["self", "word", "parts"] ["self", "word", "parts"] (defScope (inClass (top 22) 0)) := ⟨rfl, rfl, rfl, by decide +kernel, rfl, by decide +kernel, by decide +kernel⟩
def R_paper : List D → List (Str × D) → Prop := fun ds fs => ∃ (wd : Str) (xs : List D), ds = [.str wd, .tup xs] ∧ fixOk 4 (.tup xs) = true ∧ smallD 4 (.tup xs) = true ∧ fs = ([("word", .str wd), ("parts", fixD (.tup xs))] : List (Str × D))
abbrev PapT (K : PySem.W.Frag) (f : Addr) : Prop := ∃ fd, FunD K "__init__" "Paper.__init__" (defArgs (inClass (top 22) 0)) (defBody (inClass (top 22) 0)) (defScope (inClass (top 22) 0)) [] [] f fd
theorem ok_Paper {f : Addr} (F : PapT K f) (CL : ClsF K mg "Tidying" ["word", "parts", "rank", "layout", "far", "copies"]) (K1 : Kn P w K mg base "fixed" 5 (R_fixed 4)) :
    FnR P w K mg base CX0 6 f (fun vs H Q E => ∃ ws rest, vs = ws ++ rest ∧ ws.length = 2 ∧ rest.length ≤ sizeLine ∧ ∀ p, H p = none → spI K mg "Tidying" R_paper (ws ++ [V.ref p]) (upd H p (.tup rest)) Q E) := by
  obtain ⟨fd, F⟩ := F
  refine fnR_star F sc_Paper_init (fun kV doc pm an cdv ct us rest hl => StX.bind_star2 (B := fun vs => bindArgs (PySem.W.fnOf "__init__" "Paper.__init__" (defArgs (inClass (top 22) 0)) (defBody (inClass (top 22) 0)) (defScope (inClass (top 22) 0)) .none kV doc pm an cdv ct) ⟨vs, []⟩) (fun a b => rfl) (fun a b r rs => rfl) us rest hl) ?_
  rintro cdv A outer s H E hr l ds fs ⟨wd, xs, rfl, h1, h2, rfl⟩
  refine ss_cons (s_fldI 0 (d_var 1) CL.at ?_)
  refine ss_cons (s_fldI 0 (d_call K1 hr (a_cons (d_var 2) a_nil) ⟨.tup xs, rfl, h1, h2, rfl⟩) CL.at ?_)
  exact ss_nil rfl
theorem sc_Tidying_init : SupScope ["self", "rank", "layout", "far", "copies"] ["self", "rank", "layout", "far", "copies"] (defScope (inClass (top 64) 0)) := ⟨rfl, rfl, rfl, by decide +kernel, rfl, by decide +kernel, by decide +kernel, by decide +kernel, rfl, rfl⟩
/-- the class Tidying and its __init__ -/
structure TidT (P : Program) (K : PySem.W.Frag) (mg : Str → Option Value) : Prop where
  ex : ∃ (C D f cc cda g : Addr) (oc : Value) (od : Option Addr) (doc pm ct : Value) (an : Option Addr) (osl : Array (Option Value)),
    K.lookup f = some ⟨oc, od, .func (PySem.W.ksFn "__init__" "Tidying.__init__" (defArgs (inClass (top 64) 0)) (defBody (inClass (top 64) 0)) (defScope (inClass (top 64) 0)) .none .none doc pm an (.ref cda) ct cc), osl⟩ ∧ PySem.W.codeIn K (.ref cda) "Tidying.__init__" = true ∧
    SupF P K mg D C cc cda f g "self" "__init__" ∧ PapT K g ∧ mg "Tidying" = some (.ref C) ∧ Mk K C f
def R_tid : List D → List (Str × D) → Prop := fun ds fs => ∃ (r q n : Int) (gs : List Rg) (far : Int) (cs : List (Int × Int × Int)), ds = [.int r, dLay q n gs, .int far, .lst (cs.map dCp)] ∧ cs.length ≤ 10000 ∧ fs = fTid r (dLay q n gs) far cs
theorem ok_Tidying (F : TidT P K mg) (CL : ClsF K mg "Tidying" ["word", "parts", "rank", "layout", "far", "copies"]) (K1 : Kn P w K mg base "fixed" 5 (R_fixed 4)) : KnI P w K mg base "Tidying" 8 R_tid := by
  obtain ⟨C, D', f, cc, cda, g, oc, od, doc, pm, ct, an, osl, lk, hcd, SF, PT, hm, M⟩ := F.ex
  have G := (ok_Paper (P := P) (w := w) (base := base) PT CL K1).mono (show 6 ≤ 7 by decide)
  refine ⟨C, f, _, ["self", "rank", "layout", "far", "copies"], [], fn_super (k := 7) (sp := spI K mg "Tidying" R_tid) lk hcd sc_Tidying_init SF G rfl rfl (by decide) ?_ (fun L => rfl) (fun L => rfl) (fun L => rfl) (fun L => rfl) (fun L => rfl) ?_, hm, M, ?_, rfl⟩
  · intro vs H Q E h
    obtain ⟨l, C', dx, us, Hb, ds, fs, rfl, _, _, _, _, r, hR, _⟩ := h
    obtain ⟨_, _, _, _, _, _, rfl, _⟩ := hR
    rw [List.length_cons, r.length]; rfl
  · rintro A outer s H vs Q E hr ⟨l, C', dx, us, Hb, ds, fs, rfl, hm', hs, hbl, hl, rr, ⟨r, q, n, gs, far, cs, rfl, hcl, rfl⟩, qq⟩
    rw [hm] at hm'
    cases hm'
    have so := so_startI (N := ["self", "rank", "layout", "far", "copies"]) (c := "Tidying") hs hbl hm hl .nil rr
    refine ⟨l, dx, [], rfl, hl, ?_⟩
    refine (a_cons (d := .str "tidying") d_str (a_cons (d_var 1) (a_cons (d_var 2) (a_cons (d_var 3) (a_cons (d_var 4) a_nil))))) _ Hb H so.en _ fun ws Hb1 H1 n1 rs => ?_
    have so1 := so.mono n1
    obtain ⟨l', e1, e2, e3, C', dx', fvs', m', hv, rv⟩ := so1.en.own 0 _ rfl (fun _ z => nomatch z)
    subst e3
    rw [hm] at m'
    cases m'
    cases rv
    cases rs with
    | cons r0 rs =>
      rename_i wv us'
      refine ⟨[.ref l', wv], us', rfl, rfl, by rw [rs.length]; exact Nat.le_of_ble_eq_true rfl, fun p hp => ?_⟩
      have hbp : Hb1 p = none := sm_none n1.i hp
      have hpl : l' ≠ p := fun e => by rw [e, hp] at hv; cases hv
      refine ⟨l', C, dx', [wv, .ref p], upd Hb1 p (.tup us'), [.str "tidying", .tup [.int r, dLay q n gs, .int far, .lst (cs.map dCp)]], _, rfl, hm, ⟨sm_upd n1.i p _, ((so1.en.t).updH (so1.en.t.ne hp)).updB (so1.en.t.ne hp) hbp⟩, by rw [upd_ne hpl]; exact e2, by rw [upd_ne hpl]; exact hv, .cons (r0.mono (sm_new hbp)) (.cons (.tup upd_same (rs.mono (sm_new hbp))) .nil), ⟨_, _, rfl, ?_, ?_, rfl⟩, fun C2 dx2 fvs Hb2 H2 hm2 nn hb2 hl2 rf => ?_⟩
      · show fixOk 4 (D.tup _) = true
        rw [fixOk, fixOks, fixOks, fixOks, fixOks, fixOks]
        have : fixOk 3 (D.lst (cs.map dCp)) = true := by
          rw [fixOk, fixOks_all, List.all_eq_true]
          intro d hd
          obtain ⟨c, _, rfl⟩ := List.mem_map.mp hd
          rfl
        rw [this]; rfl
      · rw [smallD, Bool.and_eq_true, decide_eq_true_eq, List.all_eq_true]
        refine ⟨Nat.le_of_ble_eq_true rfl, ?_⟩
        rintro ⟨d, hd⟩ _
        rcases List.mem_cons.mp hd with rfl | hd
        · rfl
        rcases List.mem_cons.mp hd with rfl | hd
        · rfl
        rcases List.mem_cons.mp hd with rfl | hd
        · rfl
        rcases List.mem_cons.mp hd with rfl | hd
        · show smallD 3 (D.lst (cs.map dCp)) = true
          rw [smallD, Bool.and_eq_true, decide_eq_true_eq, List.all_eq_true]
          refine ⟨by rw [List.length_map]; omega, ?_⟩
          rintro ⟨d, hd⟩ _
          obtain ⟨c, _, rfl⟩ := List.mem_map.mp hd
          rfl
        · cases hd
      · have nw2 : Nw Hb1 H1 (upd Hb1 p (.tup us')) (upd H1 p (.tup us')) := Nw.new n1.i hp
        have so2 := (so1.mono nw2).calledI (i := 0) (l := l') rfl e1 nn hb2 hm2 hl2 rf
        refine (show DSs (cxS P w K mg base ["self", "rank", "layout", "far", "copies"] "Tidying.__init__" (defScope (inClass (top 64) 0)) f (.ref cda) cc A outer s H) ((defBody (inClass (top 64) 0)).drop 1) _ (retI l' "Tidying" (fTid r (dLay q n gs) far cs)) from ?_) Hb (er H l') _ Hb2 H2 so2 _ fun o ho => ?_
        · have ex : fixD (.tup [.int r, dLay q n gs, .int far, .lst (cs.map dCp)]) = .tup [.int r, dLay q n gs, .int far, .tup (cs.map dCp)] := by
            show D.tup [.int r, dLay q n gs, .int far, .tup (fixDs (cs.map dCp))] = _
            rw [fixDs_map, List.map_map]; rfl
          rw [ex]
          refine ss_cons (s_asgT (d_fldI (d := D.tup [.int r, dLay q n gs, .int far, .tup (cs.map dCp)]) (fs := ([("word", .str "tidying"), ("parts", D.tup [.int r, dLay q n gs, .int far, .tup (cs.map dCp)])] : List (Str × D))) 0 CL.at) (tg_tup (tgs_cons (tg_fldI (l := l') (c := "Tidying") (fs := ([("word", .str "tidying"), ("parts", D.tup [.int r, dLay q n gs, .int far, .tup (cs.map dCp)])] : List (Str × D))) 0 CL.at (tgs_cons (tg_fldI (l := l') (c := "Tidying") (fs := ([("word", .str "tidying"), ("parts", D.tup [.int r, dLay q n gs, .int far, .tup (cs.map dCp)]), ("rank", .int r)] : List (Str × D))) 0 CL.at (tgs_cons (tg_fldI (l := l') (c := "Tidying") (fs := ([("word", .str "tidying"), ("parts", D.tup [.int r, dLay q n gs, .int far, .tup (cs.map dCp)]), ("rank", .int r), ("layout", dLay q n gs)] : List (Str × D))) 0 CL.at (tgs_cons (tg_fldI (l := l') (c := "Tidying") (fs := ([("word", .str "tidying"), ("parts", D.tup [.int r, dLay q n gs, .int far, .tup (cs.map dCp)]), ("rank", .int r), ("layout", dLay q n gs), ("far", .int far)] : List (Str × D))) 0 CL.at (tgs_nil ?_) (hf := Nat.le_of_ble_eq_true rfl))) (hf := Nat.le_of_ble_eq_true rfl))) (hf := Nat.le_of_ble_eq_true rfl))) (hf := Nat.le_of_ble_eq_true rfl)))))
          exact ss_nil rfl
        · cases o with
          | nx ρ =>
            refine fun σ Hb3 H3 so3 => ?_
            obtain ⟨l3, g1, g2, g3, C3, dx3, fvs3, g4, g5, g6⟩ := so3.en.own 0 _ ho (fun _ z => nomatch z)
            subst g3
            exact qq C3 dx3 fvs3 Hb3 H3 g4 (so3.left g2) g2 g5 g6
          | _ => exact ho.elim
  · exact .all fun us hl => match us, hl with
      | [_, _, _, _, _], _ => rfl
end
end K76
set_option maxRecDepth 100000
set_option maxHeartbeats 4000000
namespace K76
open PySem PySem.Spec PyProof.Rows L2
abbrev C3 := Int × Int × Int
structure CpS where
  at_ : Int
  wt : List (Int × Int)
  fd : List C3
  py : List C3
def putO : Dd → Option Int
  | .put z => some z
  | .drop _ => none
def dropO : Dd → Option Int
  | .put _ => none
  | .drop s => some s
def cpStep (gs : List Rg) (b : Int) (dr : Option Int) (a : CpS) (x : C3) : CpS :=
  match seatM gs x.1 with
  | none => a
  | some y => if b ≤ y.1 ∧ some x.1 ≠ dr then (if y.2.1 then ⟨a.at_ + x.2.2, putI a.wt x.1 a.at_, a.fd ++ [(x.1, x.2.1, a.at_)], a.py⟩ else ⟨a.at_, a.wt, a.fd, a.py ++ [x]⟩) else a
def cp0 (n far : Int) : Dd → CpS
  | .put z => ⟨far + z, [(n, far)], [], []⟩
  | .drop _ => ⟨far, [], [], []⟩
def newsD (q : Int) (later : List Rg) : List (Int × Int) := dictI (fun x : C3 => x.1) (fun x => x.2.1) (placesM q later) []
def newsM (q : Int) (later : List Rg) (s : Int) : Int := (valI (newsD q later) s).getD 0
structure LdS where
  fd : List C3
  pk : List C3
  spot : Int
def ldStep (at_ : Int) (a : LdS) (x : C3) : LdS := ⟨a.fd ++ ledM x.1 x.2.1 a.spot x.2.2 at_, a.pk ++ [(x.1, a.spot, x.2.2)], a.spot + x.2.2⟩
def under (q : Int) (gs : List Rg) (b : Int) : Int := (((gs.filter fun g => decide (g.r < b)).map fun g => cells g.p).map fun m => m + m / q).sum
def copiesM (q n : Int) (gs later : List Rg) (b far : Int) (d : Dd) : List C3 :=
  let a := (placesM q gs).foldl (cpStep gs b (dropO d)) (cp0 n far d)
  let l := a.py.foldl (ldStep a.at_) ⟨a.fd, [], under q gs b⟩
  let f2 := l.pk.reverse.foldl (fun f x => f ++ ledM x.1 x.2.1 (newsM q later x.1) x.2.2 a.at_) l.fd
  f2 ++ (sortK (newsM q later) (a.wt.map (·.1))).map fun s => (s, (valI a.wt s).getD 0, newsM q later s)
/-- what the def is sure of: every file of the layout has a seat, and what is copied lies in the later layout -/
structure CpOk (q n : Int) (gs later : List Rg) (b far : Int) (d : Dd) : Prop where
  seat : ∀ x ∈ placesM q gs, ∃ y, seatM gs x.1 = some y
  wt : ∀ p ∈ ((placesM q gs).foldl (cpStep gs b (dropO d)) (cp0 n far d)).wt, (valI (newsD q later) p.1).isSome = true
  py : ∀ x ∈ ((placesM q gs).foldl (cpStep gs b (dropO d)) (cp0 n far d)).py, (valI (newsD q later) x.1).isSome = true
theorem putI_map {α β : Type} (f : α → β) (kvs : List (Int × α)) (k : Int) (v : α) : putI (kvs.map fun p => (p.1, f p.2)) k (f v) = (putI kvs k v).map fun p => (p.1, f p.2) := by
  unfold putI
  rw [List.any_map]
  by_cases h : (kvs.any fun kv => decide (kv.1 = k)) = true
  · rw [if_pos h, if_pos (by exact h), List.map_map, List.map_map]
    refine List.map_congr_left fun p _ => ?_
    by_cases e : p.1 = k
    · simp [e]
    · simp [e]
  · rw [if_neg h, if_neg (by exact h), List.map_append]; rfl
theorem dictI_map {α β γ : Type} (f : β → γ) (kf : α → Int) (vf : α → β) : ∀ (xs : List α) (acc : List (Int × β)), xs.foldl (fun acc x => putI acc (kf x) (f (vf x))) (acc.map fun p => (p.1, f p.2)) = (dictI kf vf xs acc).map fun p => (p.1, f p.2)
  | [], acc => rfl
  | x :: xs, acc => by
    show xs.foldl _ (putI (acc.map fun p => (p.1, f p.2)) (kf x) (f (vf x))) = _
    rw [putI_map f acc (kf x) (vf x), dictI_map f kf vf xs]
    rfl
theorem valI_map {α β : Type} (f : α → β) (kvs : List (Int × α)) (k : Int) : valI (kvs.map fun p => (p.1, f p.2)) k = (valI kvs k).map f := by
  unfold valI
  induction kvs with
  | nil => rfl
  | cons x xs ih =>
    rw [List.map_cons, List.find?_cons, List.find?_cons]
    by_cases h : x.1 = k
    · simp [h]
    · simp only [h, decide_false]; exact ih
theorem valI_mem {α : Type} {kvs : List (Int × α)} {k : Int} (h : k ∈ kvs.map (·.1)) : (valI kvs k).isSome = true := by
  unfold valI
  rw [Option.isSome_map, List.find?_isSome]
  obtain ⟨p, hp, e⟩ := List.mem_map.mp h
  exact ⟨p, hp, decide_eq_true e⟩
theorem cp_len (gs : List Rg) (b : Int) (dr : Option Int) : ∀ (xs : List C3) (a : CpS), (xs.foldl (cpStep gs b dr) a).fd.length ≤ a.fd.length + xs.length ∧ (xs.foldl (cpStep gs b dr) a).wt.length ≤ a.wt.length + xs.length ∧ (xs.foldl (cpStep gs b dr) a).py.length ≤ a.py.length + xs.length
  | [], a => ⟨Nat.le_refl _, Nat.le_refl _, Nat.le_refl _⟩
  | x :: xs, a => by
    obtain ⟨h1, h2, h3⟩ := cp_len gs b dr xs (cpStep gs b dr a x)
    have h4 : (cpStep gs b dr a x).fd.length ≤ a.fd.length + 1 ∧ (cpStep gs b dr a x).wt.length ≤ a.wt.length + 1 ∧ (cpStep gs b dr a x).py.length ≤ a.py.length + 1 := by
      unfold cpStep
      split
      · exact ⟨by omega, by omega, by omega⟩
      · split
        · split
          · have := putI_len a.wt x.1 a.at_
            refine ⟨?_, this, by show a.py.length ≤ _; omega⟩
            show (a.fd ++ [_]).length ≤ _
            rw [List.length_append]; exact Nat.le_refl _
          · refine ⟨by show a.fd.length ≤ _; omega, by show a.wt.length ≤ _; omega, ?_⟩
            show (a.py ++ [_]).length ≤ _
            rw [List.length_append]; exact Nat.le_refl _
        · exact ⟨by omega, by omega, by omega⟩
    rw [List.foldl_cons, List.length_cons]
    omega
theorem cp0_len (n far : Int) (d : Dd) : (cp0 n far d).fd.length = 0 ∧ (cp0 n far d).wt.length ≤ 1 ∧ (cp0 n far d).py.length = 0 := by
  cases d <;> exact ⟨rfl, by simp [cp0], rfl⟩
theorem ledM_len (s one other z aside : Int) : (ledM s one other z aside).length ≤ 2 := by
  unfold ledM
  by_cases h : one = other
  · rw [if_pos h]; exact Nat.zero_le _
  · rw [if_neg h]
    by_cases h2 : (if one - other < 0 then -(one - other) else one - other) < z
    · rw [if_pos h2]; exact Nat.le_refl _
    · rw [if_neg h2]; exact Nat.le_succ _
theorem ld_len (at_ : Int) : ∀ (xs : List C3) (a : LdS), (xs.foldl (ldStep at_) a).fd.length ≤ a.fd.length + 2 * xs.length ∧ ((xs.foldl (ldStep at_) a).pk.map fun c => c.1) = (a.pk.map fun c => c.1) ++ xs.map fun c => c.1
  | [], a => ⟨Nat.le_refl _, (List.append_nil _).symm⟩
  | x :: xs, a => by
    obtain ⟨h1, h2⟩ := ld_len at_ xs (ldStep at_ a x)
    have h3 := ledM_len x.1 x.2.1 a.spot x.2.2 at_
    have h4 : (ldStep at_ a x).fd.length ≤ a.fd.length + 2 := by
      show (a.fd ++ ledM x.1 x.2.1 a.spot x.2.2 at_).length ≤ _
      rw [List.length_append]; omega
    rw [List.foldl_cons, List.length_cons]
    refine ⟨by omega, ?_⟩
    rw [h2]
    show ((a.pk ++ [(x.1, a.spot, x.2.2)]).map fun c => c.1) ++ _ = _
    rw [List.map_append, List.append_assoc, List.map_cons]; rfl
def f2M (nw : Int → Int) (at_ : Int) (f : List C3) (x : C3) : List C3 := f ++ ledM x.1 x.2.1 (nw x.1) x.2.2 at_
theorem f2_len (nw : Int → Int) (at_ : Int) : ∀ (xs f : List C3), (xs.foldl (f2M nw at_) f).length ≤ f.length + 2 * xs.length
  | [], f => Nat.le_refl _
  | x :: xs, f => by
    have h1 := f2_len nw at_ xs (f2M nw at_ f x)
    have h3 := ledM_len x.1 x.2.1 (nw x.1) x.2.2 at_
    have h4 : (f2M nw at_ f x).length ≤ f.length + 2 := by
      show (f ++ ledM x.1 x.2.1 (nw x.1) x.2.2 at_).length ≤ _
      rw [List.length_append]; omega
    rw [List.foldl_cons, List.length_cons]
    omega
theorem places_len {q n : Int} {gs : List Rg} (L : Lawful q n gs) : (placesM q gs).length ≤ 200 := by
  unfold placesM
  rw [List.length_map]
  refine Nat.le_trans (List.length_filter_le _ _) ?_
  rw [laidG_len]; exact L.len2
section
variable {P : Program} {w : World} {K : PySem.W.Frag} {mg : Str → Option Value} {base : Heap}
theorem sc_copies_of : FnScope ["layout", "later", "rank", "far", "deed", "news", "spot", "serial", "put", "drop", "at", "waiting", "found", "payloads", "place", "size", "volumes", "packed", "own", "is_room", "_", "region", "many"] ["layout", "later", "rank", "far", "deed"] (defScope (top 73)) := ⟨rfl, rfl, rfl, by decide +kernel, rfl, by decide +kernel, by decide +kernel⟩
def R_copies : List D → D → Prop := fun ds d => ∃ q n gs n2 later b far dd, ds = [dLay q n gs, dLay q n2 later, .int b, .int far, dDd dd] ∧ 2 ≤ q ∧ q ≤ 64 ∧ Lawful q n gs ∧ Lawful q n2 later ∧ CpOk q n gs later b far dd ∧ d = .lst ((copiesM q n gs later b far dd).map dCp)
structure LamT (K : PySem.W.Frag) (mg : Str → Option Value) (base : Heap) : Prop where
  ex : ∃ f fd c, FunD K "copies_of" "copies_of" (defArgs (top 73)) (defBody (top 73)) (defScope (top 73)) [] [] f fd ∧ mg "copies_of" = some (.ref f) ∧ fd.code = .ref c ∧ LamX.TabB base mg c tabP
theorem ok_copies_of (T : Tx mg) (F : LamT K mg base) (CL : ClsF K mg "Layout" ["q", "puts", "regions"]) (K1 : Kn P w K mg base "places" 4 R_places) (K2 : Kn P w K mg base "seat_of" 1 R_seat) (K3 : Kn P w K mg base "volume" 1 R_volume) (K4 : Kn P w K mg base "led" 1 R_led) : Kn P w K mg base "copies_of" 6 R_copies := by
  obtain ⟨f, fd, c, F, g, hc, TB⟩ := F
  refine kn_ofL F g sc_copies_of (fun ds d h => by obtain ⟨_, _, _, _, _, _, _, _, rfl, _⟩ := h; rfl) (fun _ _ _ _ _ _ us hl => match us, hl with | [_, _, _, _, _], _ => rfl) ?_
  rintro cdv A outer s H E hcd hr ds d ⟨q, n, gs, n2, later, b, far, dd, rfl, q1, q2, L, L2, O, rfl⟩
  have nd := sc_copies_of.nd
  have hcode : cdv = .ref c := hcd.symm.trans hc
  refine ss_cons (s_asg (p := .tp [.nm 8, .nm 9]) (d := .tup [dO (putO dd), dO (dropO dd)]) ?_ (g_tp (gs_cons (g_nm 8 nd) (gs_cons (g_nm 9 nd) gs_nil))) rfl ?_)
  · cases dd with
    | put z => exact d_ifT (DT.eq (t_eqS (d_ix (d_var 4) (.tup _)) d_str) (by decide)) (d_tup (a_cons (d_ix (d_var 4) (.tup _)) (a_cons d_non a_nil)))
    | drop z => exact d_ifF (DT.eq (t_eqS (d_ix (d_var 4) (.tup _)) d_str) (by decide)) (d_tup (a_cons d_non (a_cons (d_ix (d_var 4) (.tup _)) a_nil)))
  refine ss_cons (s_set 5 nd (d_dc (p := .tp [.nm 7, .nm 14, .nm 20]) (xs := placesM q later) (enc := d3) (kf := fun x => x.1) (vf := fun x => .int x.2.1) [("serial", 7), ("place", 14), ("_", 20)] nd (i_tup (d_call K1 hr (a_cons (d_var 1) a_nil) ⟨q, n2, later, rfl, q1, q2, L2, rfl⟩)) (blkOk_by (by kernel_rfl)) (fun _ _ _ _ _ => g_tp (gs_cons (g_nm 7 nd) (gs_cons (g_nm 14 nd) (gs_cons (g_nm 20 nd) gs_nil)))) (by decide) (by have := places_len L2; omega) (fun x hx => ⟨_, rfl, fun _ _ _ _ _ => (d_var 7), fun _ _ _ _ _ => (d_var 14)⟩)) ?_)
  refine ss_cons (s_parN [10, 11, 12, 13] (ls_cons (l_val (d_var 3)) (ls_cons l_dct (ls_cons (l_own (f_lst a_nil)) (ls_cons (l_own (f_lst a_nil)) ls_nil)))) (g_tp (gs_cons (g_nm 10 nd) (gs_cons (g_nm 11 nd) (gs_cons (g_nm 12 nd) (gs_cons (g_nm 13 nd) gs_nil))))) ?_)
  have hnews : (placesM q later).foldl (fun acc x => putI acc x.1 (D.int x.2.1)) [] = (newsD q later).map fun p => (p.1, D.int p.2) := dictI_map D.int _ _ _ []
  rw [hnews]
  suffices hrest : ∀ (a : CpS) (ws : List (Int × D)) (fs ys : List D), a = cp0 n far dd → ws = a.wt.map (fun p => (p.1, D.int p.2)) → fs = a.fd.map dCp → ys = a.py.map d3 → DSs (Cxf P w K mg base ["layout", "later", "rank", "far", "deed", "news", "spot", "serial", "put", "drop", "at", "waiting", "found", "payloads", "place", "size", "volumes", "packed", "own", "is_room", "_", "region", "many"] "copies_of" (defScope (top 73)) f cdv A outer s H E) ((defBody (top 73)).drop 4)
      [some (.val (dLay q n gs)), some (.val (dLay q n2 later)), some (.val (.int b)), some (.val (.int far)), some (.val (dDd dd)), some (.val (.dct ((newsD q later).map fun p => (p.1, D.int p.2)))), none, none, some (.val (dO (putO dd))), some (.val (dO (dropO dd))), some (.val (.int a.at_)), some (.md ws), some (.ml fs), some (.ml ys), none, none, none, none, none, none, none, none, none]
      (retK (.lst ((copiesM q n gs later b far dd).map dCp))) by
    cases dd with
    | put z =>
      refine ss_cons (s_ifT (DT.eq (t_notN (d_var 8)) rfl) ?_)
      refine ss_cons (s_asgT (d_tup (a_cons (d_var 3) (a_cons (d_add (d_var 3) (d_var 8)) a_nil))) (tg_tup (tgs_cons (tg_dput (m := 11) (kvs := []) hr (d_fld (d_var 0) CL.at) (tgs_cons (tg_nm 10 nd (tgs_nil ?_))) (Nat.le_of_ble_eq_true rfl)))))
      exact ss_nil (hrest (cp0 n far (.put z)) _ _ _ rfl rfl rfl rfl)
    | drop z =>
      refine ss_cons (s_ifF0 (DT.eq (t_notN (d_var 8)) rfl) ?_)
      exact (hrest (cp0 n far (.drop z)) _ _ _ rfl rfl rfl rfl)
  rintro a0 ws fs ys ea rfl rfl rfl
  have plen := places_len (q := q) L
  refine ss_cons (s_for (xs := placesM q gs) (enc := d3) (p := .tp [.nm 7, .nm 14, .nm 15]) (i_tup (d_call K1 hr (a_cons (d_var 0) a_nil) ⟨q, n, gs, rfl, q1, q2, L, rfl⟩)) (g_tp (gs_cons (g_nm 7 nd) (gs_cons (g_nm 14 nd) (gs_cons (g_nm 15 nd) gs_nil))))
    (fun i ρ => ∃ (e7 e14 e15 e18 e19 e20 : Option Sl) (a : CpS) (ws : List (Int × D)) (fs ys : List D), ρ = [some (.val (dLay q n gs)), some (.val (dLay q n2 later)), some (.val (.int b)), some (.val (.int far)), some (.val (dDd dd)), some (.val (.dct ((newsD q later).map fun p => (p.1, D.int p.2)))), none, e7, some (.val (dO (putO dd))), some (.val (dO (dropO dd))), some (.val (.int a.at_)), some (.md ws), some (.ml fs), some (.ml ys), e14, e15, none, none, e18, e19, e20, none, none] ∧
      ws = a.wt.map (fun p => (p.1, D.int p.2)) ∧ fs = a.fd.map dCp ∧ ys = a.py.map d3 ∧ a = ((placesM q gs).take i).foldl (cpStep gs b (dropO dd)) (cp0 n far dd)) ?_ ?_ ?_)
  · exact ⟨_, _, _, _, _, _, a0, _, _, _, rfl, rfl, rfl, rfl, ea⟩
  · rintro i x ρ hx ⟨e7, e14, e15, e18, e19, e20, a, ws, fs, ys, rfl, rfl, rfl, rfl, ha⟩
    refine ⟨_, rfl, ?_⟩
    have hxm : x ∈ placesM q gs := List.mem_of_getElem? hx
    obtain ⟨y, hy⟩ := O.seat x hxm
    have hstep : ((placesM q gs).take (i + 1)).foldl (cpStep gs b (dropO dd)) (cp0 n far dd) = cpStep gs b (dropO dd) a x := by
      rw [List.take_add_one, hx, List.foldl_append, ← ha]; rfl
    refine ss_cons (s_asg (p := .tp [.nm 18, .nm 19, .nm 20]) (d := dSeat (some y)) (DE.eq (d_call K2 hr (a_cons (d_var 0) (a_cons (d_var 7) a_nil)) ⟨q, n, gs, x.1, rfl, L, rfl⟩) (by rw [hy])) (g_tp (gs_cons (g_nm 18 nd) (gs_cons (g_nm 19 nd) (gs_cons (g_nm 20 nd) gs_nil)))) rfl ?_)
    refine ss_cons (s_if (b := decide (b ≤ y.1) && !decide (some x.1 = dropO dd)) (DT.eq (DW.t (w_and (t_ge (d_var 18) (d_var 2)) fun _ => (w_and1 (t_neIO (d_var 7) (d_var 9))))) (by simp)) (fun hb => ?_) (fun hb => ?_))
    · have hb2 : b ≤ y.1 ∧ some x.1 ≠ dropO dd := by simpa using hb
      refine ss_cons (s_if (b := y.2.1) (t_val (d_var 19)) (fun hc => ?_) (fun hc => ?_))
      · refine ss_cons (s_append 12 (d_tup (a_cons (d_var 7) (a_cons (d_var 14) (a_cons (d_var 10) a_nil)))) ?_ ?_)
        · refine ss_cons (s_asgT (d_tup (a_cons (d_var 10) (a_cons (d_add (d_var 10) (d_var 15)) a_nil))) (tg_tup (tgs_cons (tg_dput (m := 11) (kvs := a.wt.map fun p => (p.1, D.int p.2)) hr (d_var 7) (tgs_cons (tg_nm 10 nd (tgs_nil ?_))) ?_))))
          · refine ss_nil (ss_nil (ss_nil ⟨_, _, _, _, _, _, ⟨a.at_ + x.2.2, putI a.wt x.1 a.at_, a.fd ++ [(x.1, x.2.1, a.at_)], a.py⟩, _, _, _, rfl, ?_, ?_, rfl, ?_⟩))
            · exact putI_map D.int a.wt x.1 a.at_
            · rw [List.map_append]; rfl
            · rw [hstep]; unfold cpStep; rw [hy]; show _ = (if b ≤ y.1 ∧ some x.1 ≠ dropO dd then (if y.2.1 = true then _ else _) else a); rw [if_pos hb2]; simp only [hc]; rfl
          · have := (cp_len gs b (dropO dd) ((placesM q gs).take i) (cp0 n far dd)).2.1
            rw [← ha] at this
            have h0 := (cp0_len n far dd).2.1
            have h1 := List.length_take_le i (placesM q gs)
            rw [List.length_map]
            have : a.wt.length ≤ 201 := by have := List.length_take (i := i) (l := placesM q gs); omega
            exact Nat.lt_of_le_of_lt this (by decide)
        · have := (cp_len gs b (dropO dd) ((placesM q gs).take i) (cp0 n far dd)).1
          rw [← ha] at this
          have h0 := (cp0_len n far dd).1
          rw [List.length_map]
          have : a.fd.length ≤ 200 := by have := List.length_take (i := i) (l := placesM q gs); omega
          exact Nat.lt_of_le_of_lt this (by decide)
      · refine ss_cons (s_append 13 (d_tup (a_cons (d_var 7) (a_cons (d_var 14) (a_cons (d_var 15) a_nil)))) ?_ ?_)
        · refine ss_nil (ss_nil (ss_nil ⟨_, _, _, _, _, _, ⟨a.at_, a.wt, a.fd, a.py ++ [x]⟩, _, _, _, rfl, rfl, rfl, ?_, ?_⟩))
          · rw [List.map_append]; rfl
          · rw [hstep]; unfold cpStep; rw [hy]; show _ = (if b ≤ y.1 ∧ some x.1 ≠ dropO dd then (if y.2.1 = true then _ else _) else a); rw [if_pos hb2]; simp only [hc]; rfl
        · have := (cp_len gs b (dropO dd) ((placesM q gs).take i) (cp0 n far dd)).2.2
          rw [← ha] at this
          have h0 := (cp0_len n far dd).2.2
          rw [List.length_map]
          have : a.py.length ≤ 200 := by have := List.length_take (i := i) (l := placesM q gs); omega
          exact Nat.lt_of_le_of_lt this (by decide)
    · have hb2 : ¬ (b ≤ y.1 ∧ some x.1 ≠ dropO dd) := by simpa using hb
      refine ss_nil (ss_nil ⟨_, _, _, _, _, _, a, _, _, _, rfl, rfl, rfl, rfl, ?_⟩)
      rw [hstep]; unfold cpStep; rw [hy]; simp only [if_neg hb2]
  · rintro ρ ⟨e7, e14, e15, e18, e19, e20, a, ws, fs, ys, rfl, rfl, rfl, rfl, ha⟩
    rw [List.take_length] at ha
    have cl := cp_len gs b (dropO dd) (placesM q gs) (cp0 n far dd)
    have cl0 := cp0_len n far dd
    rw [← ha] at cl
    have pyl : a.py.length ≤ 200 := by omega
    have wtl : a.wt.length ≤ 201 := by omega
    have fdl : a.fd.length ≤ 200 := by omega
    have hwt : ∀ p ∈ a.wt, (valI (newsD q later) p.1).isSome = true := by rw [ha]; exact O.wt
    have hpy : ∀ x ∈ a.py, (valI (newsD q later) x.1).isSome = true := by rw [ha]; exact O.py
    have hnw : ∀ k, (valI (newsD q later) k).isSome = true → valI ((newsD q later).map fun p => (p.1, D.int p.2)) k = some (.int (newsM q later k)) := fun k hk => by
      rw [valI_map]
      unfold newsM
      cases e : valI (newsD q later) k with
      | none => rw [e] at hk; cases hk
      | some z => rfl
    refine ss_cons (s_par2 16 17 nd (ls_cons (l_own (f_lcIf (p := .nm 21) (xs := gs) (enc := dRg) (t := fun g => decide (g.r < b)) (f := fun g => .int (cells g.p)) [("region", 21)] nd (i_tup (d_fld (d_var 0) CL.at)) (blkOk_by (by kernel_rfl)) (fun _ _ _ _ _ => g_nm 21 nd) (by decide) (by have := L.len; omega) (fun g hg => ⟨_, rfl, fun _ _ _ _ _ => (t_lt (d_ix (d_var 21) (.tup _)) (d_var 2)), fun ht _ _ _ _ _ => (d_call K3 hr (a_cons (d_var 21) a_nil) ⟨g, rfl, (L.rg g hg).sm, rfl⟩)⟩))) (ls_cons (l_own (f_lst a_nil)) ls_nil)) ?_)
    refine ss_frz 13 (ss_frz 16 ?_)
    refine ss_cons (s_set 6 nd (d_sum (xs := (gs.filter fun g => decide (g.r < b)).map fun g => cells g.p) (f := fun m => m + m / q) T.sum (DF.de (f_lc (p := .nm 22) (xs := (gs.filter fun g => decide (g.r < b)).map fun g => cells g.p) (enc := D.int) (f := fun m => .int (m + m / q)) [("many", 22)] nd (i_lst (DE.eq (d_var 16) (by rw [List.map_map]; rfl))) (blkOk_by (by kernel_rfl)) (fun _ _ _ _ _ => g_nm 22 nd) (by decide) (by have := L.len; have := List.length_filter_le (fun g : Rg => decide (g.r < b)) gs; rw [List.length_map]; omega) (fun m hm => ⟨_, rfl, fun _ _ _ _ _ => d_add (d_var 22) (d_fdiv (d_var 22) (d_fld (d_var 0) CL.at) ⟨by omega, by omega⟩)⟩)))) ?_)
    refine ss_cons (s_for (xs := a.py) (enc := d3) (p := .tp [.nm 7, .nm 14, .nm 15]) (i_lst (d_var 13)) (g_tp (gs_cons (g_nm 7 nd) (gs_cons (g_nm 14 nd) (gs_cons (g_nm 15 nd) gs_nil))))
      (fun i ρ => ∃ (e7 e14 e15 : Option Sl) (l : LdS) (fs pk : List D), ρ = [some (.val (dLay q n gs)), some (.val (dLay q n2 later)), some (.val (.int b)), some (.val (.int far)), some (.val (dDd dd)), some (.val (.dct ((newsD q later).map fun p => (p.1, D.int p.2)))), some (.val (.int l.spot)), e7, some (.val (dO (putO dd))), some (.val (dO (dropO dd))), some (.val (.int a.at_)), some (.md (a.wt.map fun p => (p.1, D.int p.2))), some (.ml fs), some (.val (.lst (a.py.map d3))), e14, e15, some (.val (.lst ((gs.filter fun g => decide (g.r < b)).map fun g => .int (cells g.p)))), some (.ml pk), e18, e19, e20, none, none] ∧
        fs = l.fd.map dCp ∧ pk = l.pk.map d3 ∧ l = (a.py.take i).foldl (ldStep a.at_) ⟨a.fd, [], under q gs b⟩) ?_ ?_ ?_)
    · exact ⟨_, _, _, ⟨a.fd, [], under q gs b⟩, _, _, rfl, rfl, rfl, rfl⟩
    · rintro i x ρ hx ⟨e7, e14, e15, l, fs, pk, rfl, rfl, rfl, hl⟩
      refine ⟨_, rfl, ?_⟩
      have hstep : (a.py.take (i + 1)).foldl (ldStep a.at_) ⟨a.fd, [], under q gs b⟩ = ldStep a.at_ l x := by
        rw [List.take_add_one, hx, List.foldl_append, ← hl]; rfl
      have ll := ld_len a.at_ (a.py.take i) ⟨a.fd, [], under q gs b⟩
      rw [← hl] at ll
      have ht : (a.py.take i).length ≤ 200 := by rw [List.length_take]; omega
      have l1 : l.fd.length ≤ 600 := by
        have := ll.1
        have : l.fd.length ≤ a.fd.length + 2 * (a.py.take i).length := this
        omega
      have l2 : l.pk.length ≤ 200 := by
        have := congrArg List.length ll.2
        simp only [List.length_map, List.length_append, List.length_nil, Nat.zero_add] at this
        omega
      have l3 := ledM_len x.1 x.2.1 l.spot x.2.2 a.at_
      refine ss_cons (s_extend 12 (d_call K4 hr (a_cons (d_var 7) (a_cons (d_var 14) (a_cons (d_var 6) (a_cons (d_var 15) (a_cons (d_var 10) a_nil))))) ⟨x.1, x.2.1, l.spot, x.2.2, a.at_, rfl, rfl⟩) ?_ ?_)
      · refine ss_cons (s_append 17 (d_tup (a_cons (d_var 7) (a_cons (d_var 6) (a_cons (d_var 15) a_nil)))) ?_ ?_)
        · refine ss_cons (s_set 6 nd (d_add (d_var 6) (d_var 15)) (ss_nil ⟨_, _, _, ldStep a.at_ l x, _, _, rfl, ?_, ?_, hstep.symm⟩))
          · show _ = (l.fd ++ ledM x.1 x.2.1 l.spot x.2.2 a.at_).map dCp
            rw [List.map_append]
          · show _ = (l.pk ++ [(x.1, l.spot, x.2.2)]).map d3
            rw [List.map_append]; rfl
        · rw [List.length_map]; exact Nat.lt_of_le_of_lt l2 (by decide)
      · rw [List.length_map, List.length_map]
        exact Nat.le_trans (Nat.add_le_add l1 l3) (by decide)
    rintro ρ ⟨e7, e14, e15, l, fs, pk, rfl, rfl, rfl, hl⟩
    rw [List.take_length] at hl
    have ll := ld_len a.at_ a.py ⟨a.fd, [], under q gs b⟩
    rw [← hl] at ll
    have l1 : l.fd.length ≤ 600 := by
      have : l.fd.length ≤ a.fd.length + 2 * a.py.length := ll.1
      omega
    have ek : l.pk.map (·.1) = a.py.map (·.1) := ll.2
    have l2 : l.pk.length ≤ 200 := by
      have := congrArg List.length ek
      rw [List.length_map, List.length_map] at this
      omega
    refine ss_frz 17 ?_
    refine ss_cons (s_for (xs := l.pk.reverse) (enc := d3) (p := .tp [.nm 7, .nm 14, .nm 15]) (i_lst (DE.eq (DF.de (f_revL (d_var 17))) (by rw [List.map_reverse]))) (g_tp (gs_cons (g_nm 7 nd) (gs_cons (g_nm 14 nd) (gs_cons (g_nm 15 nd) gs_nil))))
      (fun i ρ => ∃ (e7 e14 e15 : Option Sl) (f2 : List C3) (fs : List D), ρ = [some (.val (dLay q n gs)), some (.val (dLay q n2 later)), some (.val (.int b)), some (.val (.int far)), some (.val (dDd dd)), some (.val (.dct ((newsD q later).map fun p => (p.1, D.int p.2)))), some (.val (.int l.spot)), e7, some (.val (dO (putO dd))), some (.val (dO (dropO dd))), some (.val (.int a.at_)), some (.md (a.wt.map fun p => (p.1, D.int p.2))), some (.ml fs), some (.val (.lst (a.py.map d3))), e14, e15, some (.val (.lst ((gs.filter fun g => decide (g.r < b)).map fun g => .int (cells g.p)))), some (.val (.lst (l.pk.map d3))), e18, e19, e20, none, none] ∧
        fs = f2.map dCp ∧ f2 = (l.pk.reverse.take i).foldl (f2M (newsM q later) a.at_) l.fd) ?_ ?_ ?_)
    · exact ⟨_, _, _, l.fd, _, rfl, rfl, rfl⟩
    · rintro i x ρ hx ⟨e7, e14, e15, f2, fs, rfl, rfl, hf⟩
      refine ⟨_, rfl, ?_⟩
      have hstep : (l.pk.reverse.take (i + 1)).foldl (f2M (newsM q later) a.at_) l.fd = f2M (newsM q later) a.at_ f2 x := by
        rw [List.take_add_one, hx, List.foldl_append, ← hf]; rfl
      have fl := f2_len (newsM q later) a.at_ (l.pk.reverse.take i) l.fd
      rw [← hf, List.length_take, List.length_reverse] at fl
      have hxm : (valI (newsD q later) x.1).isSome = true := by
        have h1 : x ∈ l.pk := List.mem_reverse.mp (List.mem_of_getElem? hx)
        have h2 : x.1 ∈ a.py.map (·.1) := by rw [← ek]; exact List.mem_map.mpr ⟨x, h1, rfl⟩
        obtain ⟨y, hy, e⟩ := List.mem_map.mp h2
        rw [← e]; exact hpy y hy
      have l3 := ledM_len x.1 x.2.1 (newsM q later x.1) x.2.2 a.at_
      refine ss_cons (s_extend 12 (d_call K4 hr (a_cons (d_var 7) (a_cons (d_var 14) (a_cons (d_dget hr (d_var 5) (d_var 7) (hnw x.1 hxm)) (a_cons (d_var 15) (a_cons (d_var 10) a_nil))))) ⟨x.1, x.2.1, newsM q later x.1, x.2.2, a.at_, rfl, rfl⟩) ?_ ?_)
      · refine ss_nil ⟨_, _, _, f2M (newsM q later) a.at_ f2 x, _, rfl, ?_, hstep.symm⟩
        show _ = (f2 ++ ledM x.1 x.2.1 (newsM q later x.1) x.2.2 a.at_).map dCp
        rw [List.map_append]
      · rw [List.length_map, List.length_map]
        exact Nat.le_trans (Nat.add_le_add (show f2.length ≤ 1000 by omega) l3) (by decide)
    rintro ρ ⟨e7, e14, e15, f2, fs, rfl, rfl, hf0⟩
    rw [List.take_of_length_le (Nat.le_refl _)] at hf0
    have fl := f2_len (newsM q later) a.at_ l.pk.reverse l.fd
    rw [← hf0, List.length_reverse] at fl
    have kl : (sortK (newsM q later) (a.wt.map (·.1))).length ≤ 201 := by rw [(sortK_perm _ _).length_eq, List.length_map]; exact wtl
    refine ss_cons (s_for (xs := sortK (newsM q later) (a.wt.map (·.1))) (enc := D.int) (p := .nm 7) (i_lst (DE.eq (DF.de (f_sortedLam (k := 3) (g := newsM q later) 11 5 hr TB hcode T.sorted ⟨rfl, rfl, rfl, by decide +kernel, rfl, rfl⟩ (by decide +kernel) (by kernel_rfl) (fun _ _ _ _ us hl => match us, hl with | [_], _ => rfl) (by rw [List.length_map]; omega) rfl rfl (fun x hx => ?_) rfl rfl (.inl rfl))) (by rw [List.map_map]; rfl))) (g_nm 7 nd)
      (fun i ρ => ∃ (e7 e14 e15 : Option Sl) (fs : List D), ρ = [some (.val (dLay q n gs)), some (.val (dLay q n2 later)), some (.val (.int b)), some (.val (.int far)), some (.val (dDd dd)), some (.val (.dct ((newsD q later).map fun p => (p.1, D.int p.2)))), some (.val (.int l.spot)), e7, some (.val (dO (putO dd))), some (.val (dO (dropO dd))), some (.val (.int a.at_)), some (.md (a.wt.map fun p => (p.1, D.int p.2))), some (.ml fs), some (.val (.lst (a.py.map d3))), e14, e15, some (.val (.lst ((gs.filter fun g => decide (g.r < b)).map fun g => .int (cells g.p)))), some (.val (.lst (l.pk.map d3))), e18, e19, e20, none, none] ∧
        fs = (f2 ++ ((sortK (newsM q later) (a.wt.map (·.1))).take i).map fun s => (s, (valI a.wt s).getD 0, newsM q later s)).map dCp) ?_ ?_ ?_)
    · obtain ⟨p, hp, rfl⟩ := List.mem_map.mp hx
      exact hnw p.1 (hwt p hp)
    · exact ⟨_, _, _, _, rfl, by simp⟩
    · rintro i x ρ hx ⟨e7, e14, e15, fs, rfl, hf⟩
      refine ⟨_, rfl, ?_⟩
      have hxm : x ∈ a.wt.map (·.1) := (sortK_perm (newsM q later) _).mem_iff.mp (List.mem_of_getElem? hx)
      have hws := valI_mem hxm
      obtain ⟨p, hp, ep⟩ := List.mem_map.mp hxm
      have hns : (valI (newsD q later) x).isSome = true := by rw [← ep]; exact hwt p hp
      refine ss_cons (s_append 12 (d_tup (a_cons (d_var 7) (a_cons (d_dgetO (d := .int ((valI a.wt x).getD 0)) 11 hr (d_var 7) ?_) (a_cons (d_dget hr (d_var 5) (d_var 7) (hnw x hns)) a_nil)))) ?_ ?_)
      · rw [valI_map]
        cases e : valI a.wt x with
        | none => rw [e] at hws; cases hws
        | some z => rfl
      · refine ss_nil ⟨_, _, _, _, rfl, ?_⟩
        rw [hf, List.take_add_one, hx]
        simp only [List.map_append, List.append_assoc, Option.toList_some, List.map_cons, List.map_nil]
      · rw [hf, List.length_map, List.length_append, List.length_map, List.length_take]
        exact Nat.lt_of_le_of_lt (show _ ≤ 2000 by omega) (by decide)
    rintro ρ ⟨e7, e14, e15, fs, rfl, hf⟩
    refine ss_frz 12 (ss_cons (s_ret (d_var 12) ?_))
    rw [hf, List.take_length]
    subst ha
    subst hl
    subst hf0
    rfl
end
end K76
set_option maxRecDepth 100000
namespace K76
/-! ### what stays lawful: things added, things marked -/
theorem asc_len : ∀ (xs : List Int) (a b : Int), xs.Pairwise (· < ·) → (∀ x ∈ xs, a ≤ x ∧ x ≤ b) → a ≤ b + 1 → (xs.length : Int) ≤ b - a + 1
  | [], a, b, _, _, h => by simp only [List.length_nil]; omega
  | x :: xs, a, b, h, hb, h3 => by
    obtain ⟨h1, h2⟩ := List.pairwise_cons.mp h
    have hx := hb x List.mem_cons_self
    have := asc_len xs (x + 1) b h2 (fun y hy => ⟨h1 y hy, (hb y (List.mem_cons_of_mem _ hy)).2⟩) (by omega)
    rw [List.length_cons]
    omega
theorem spot_split {q z : Int} {gs : List Rg} {i : Nat} (h : spot q z gs = some i) : ∃ A g B, gs = A ++ g :: B ∧ A.length = i ∧ (∀ x ∈ A, fits q z x = false) ∧ fits q z g = true ∧ ∀ t, putAt i t gs = A ++ { g with m := g.m ++ [t] } :: B := by
  unfold spot at h
  obtain ⟨h1, h2, h3⟩ := List.findIdx?_eq_some_iff_getElem.mp h
  refine ⟨gs.take i, gs[i], gs.drop (i + 1), ?_, by rw [List.length_take]; omega, fun x hx => ?_, h2, fun t => ?_⟩
  · rw [← List.drop_eq_getElem_cons h1, List.take_append_drop]
  · obtain ⟨j, hj, e⟩ := List.mem_take_iff_getElem.mp hx
    subst e
    have := h3 j (by omega)
    simpa using this
  · unfold putAt
    rw [List.getElem?_eq_getElem h1]
    simp
theorem spot_none {q z : Int} {gs : List Rg} (h : spot q z gs = none) : ∀ g ∈ gs, fits q z g = false := by
  unfold spot at h
  intro g hg
  have := List.findIdx?_eq_none_iff.mp h g hg
  simpa using this
theorem allT_append (xs ys : List Rg) : allT (xs ++ ys) = allT xs ++ allT ys := by unfold allT; rw [List.flatMap_append]
theorem allT_cons (g : Rg) (gs : List Rg) : allT (g :: gs) = g.p ++ g.m ++ allT gs := by unfold allT; rw [List.flatMap_cons]
theorem allT_add (A : List Rg) (g : Rg) (B : List Rg) (t : Th) : (allT (A ++ { g with m := g.m ++ [t] } :: B)).Perm (t :: allT (A ++ g :: B)) := by
  rw [allT_append, allT_cons, allT_append, allT_cons]
  simp only [List.append_assoc]
  have h1 : (g.p ++ (g.m ++ ([t] ++ allT B))).Perm (t :: (g.p ++ (g.m ++ allT B))) := by
    rw [← List.append_assoc, ← List.append_assoc g.p g.m]
    exact List.perm_middle
  exact (List.Perm.append_left (allT A) h1).trans List.perm_middle
theorem mem_allT {gs : List Rg} {t : Th} : t ∈ allT gs ↔ ∃ g ∈ gs, t ∈ g.p ∨ t ∈ g.m := by
  unfold allT; simp only [List.mem_flatMap, List.mem_append]
theorem serials_perm {xs ys : List Th} (h : xs.Perm ys) : (serials xs).Perm (serials ys) := (h.filter _).map _
theorem pairsW_perm {w : Wd} {xs ys : List Th} (h : xs.Perm ys) : (pairsW w xs).Perm (pairsW w ys) := (h.filter _).map _
theorem serials_cons (t : Th) (ts : List Th) : serials (t :: ts) = if t.w = .shade then serials ts else t.s :: serials ts := by
  unfold serials
  rw [List.filter_cons]
  by_cases h : t.w = .shade
  · simp [h]
  · simp [h]
theorem pairsW_cons (w : Wd) (t : Th) (ts : List Th) : pairsW w (t :: ts) = if t.w = w then (t.s, t.z) :: pairsW w ts else pairsW w ts := by
  unfold pairsW
  rw [List.filter_cons]
  by_cases h : t.w = w
  · simp [h]
  · simp [h]
theorem pairsW_append (w : Wd) (xs ys : List Th) : pairsW w (xs ++ ys) = pairsW w xs ++ pairsW w ys := by unfold pairsW; rw [List.filter_append, List.map_append]
theorem serials_append (xs ys : List Th) : serials (xs ++ ys) = serials xs ++ serials ys := by unfold serials; rw [List.filter_append, List.map_append]
theorem mem_serials {ts : List Th} {s : Int} : s ∈ serials ts ↔ ∃ t ∈ ts, t.w ≠ .shade ∧ t.s = s := by
  unfold serials
  simp only [List.mem_map, List.mem_filter, Bool.not_eq_true', decide_eq_false_iff_not]
  exact ⟨fun ⟨t, ⟨h1, h2⟩, h3⟩ => ⟨t, h1, h2, h3⟩, fun ⟨t, h1, h2, h3⟩ => ⟨t, ⟨h1, h2⟩, h3⟩⟩
theorem thOk.mono {n n' : Int} {ws : List Wd} {t : Th} (h : thOk n ws t) (hn : n ≤ n') : thOk n' ws t := ⟨h.1, h.2.1, by have := h.2.2.1; omega, h.2.2.2⟩
theorem cells_snoc (ts : List Th) (t : Th) : cells (ts ++ [t]) = cells ts + t.z := by
  rw [cells_append, cells_cons]; simp [cells]
/-- lawful but for holes and shades, and lengths -/
structure Law0 (q puts : Int) (gs : List Rg) : Prop where
  rg : ∀ g ∈ gs, RgOk puts g
  asc : gs.Pairwise fun a b => a.r < b.r
  rkd : ∀ g ∈ gs, Ranked q g
  ser : (serials (allT gs)).Nodup
  later : ∀ g ∈ gs, ∀ t ∈ g.m, t.w ≠ .shade → ∀ h ∈ gs, h.r = rk t.z → lastS h < t.s
  passed : ∀ i g, gs[i]? = some g → ∀ t ∈ g.m, ∀ h ∈ gs.take i, ¬ (rk t.z ≤ h.r ∧ t.z ≤ free q h)
  len2 : (allT gs).length ≤ 200
theorem Lawful.law0 {q n : Int} {gs : List Rg} (L : Lawful q n gs) : Law0 q n gs := ⟨L.rg, L.asc, L.rkd, L.ser, L.later, L.passed, L.len2⟩
theorem asc_len13 {gs : List Rg} {n : Int} (asc : gs.Pairwise fun a b => a.r < b.r) (rg : ∀ g ∈ gs, RgOk n g) : gs.length ≤ 13 := by
  have := asc_len (gs.map Rg.r) 0 12 (List.pairwise_map.mpr asc) (fun x hx => by
    obtain ⟨g, hg, rfl⟩ := List.mem_map.mp hx
    exact ⟨(rg g hg).r0, (rg g hg).r12⟩) (by omega)
  rw [List.length_map] at this
  omega
theorem Law0.full {q n : Int} {gs : List Rg} (L : Law0 q n gs) (h : (pairsW .hole (allT gs)).Perm (pairsW .shade (allT gs))) : Lawful q n gs := ⟨L.rg, L.asc, L.rkd, L.ser, h, L.later, L.passed, asc_len13 L.asc L.rg, L.len2⟩
/-- the passed condition by the split -/
theorem passed_iff {q : Int} {gs : List Rg} : (∀ i g, gs[i]? = some g → ∀ t ∈ g.m, ∀ h ∈ gs.take i, ¬ (rk t.z ≤ h.r ∧ t.z ≤ free q h)) ↔ ∀ A g B, gs = A ++ g :: B → ∀ t ∈ g.m, ∀ h ∈ A, ¬ (rk t.z ≤ h.r ∧ t.z ≤ free q h) := by
  constructor
  · intro H A g B e t ht h hh
    subst e
    refine H A.length g (by simp) t ht h ?_
    rw [List.take_left']
    · exact hh
    · rfl
  · intro H i g hg t ht h hh
    obtain ⟨hi, e⟩ := List.getElem?_eq_some_iff.mp hg
    refine H (gs.take i) g (gs.drop (i + 1)) ?_ t ht h hh
    rw [← e, ← List.drop_eq_getElem_cons hi, List.take_append_drop]
/-- passed is a matter of pairs -/
theorem passed_pw {q : Int} {gs : List Rg} : (∀ A g B, gs = A ++ g :: B → ∀ t ∈ g.m, ∀ h ∈ A, ¬ (rk t.z ≤ h.r ∧ t.z ≤ free q h)) ↔ gs.Pairwise fun h g => ∀ t ∈ g.m, ¬ (rk t.z ≤ h.r ∧ t.z ≤ free q h) := by
  constructor
  · intro H
    rw [List.pairwise_iff_getElem]
    intro i j hi hj hij t ht
    refine H (gs.take j) gs[j] (gs.drop (j + 1)) (by rw [← List.drop_eq_getElem_cons hj, List.take_append_drop]) t ht _ ?_
    exact List.mem_take_iff_getElem.mpr ⟨i, by omega, rfl⟩
  · intro H A g B e t ht h hh
    subst e
    rw [List.pairwise_append] at H
    exact H.2.2 h hh g List.mem_cons_self t ht
theorem free_add (q : Int) (g : Rg) (t : Th) : free q { g with m := g.m ++ [t] } = free q g - t.z := by
  unfold free; show cells g.p / q - cells (g.m ++ [t]) = _; rw [cells_snoc]; omega
theorem law0_add {q n n' : Int} {A : List Rg} {g : Rg} {B : List Rg} {t : Th} (L : Law0 q n (A ++ g :: B)) (hn : n ≤ n') (ht : thOk n' [.file, .gone, .shade] t) (hA : ∀ x ∈ A, fits q t.z x = false) (hg : fits q t.z g = true)
    (hs : t.w ≠ .shade → t.s ∉ serials (allT (A ++ g :: B)) ∧ ∀ h ∈ A ++ g :: B, lastS h < t.s) (hl : (allT (A ++ g :: B)).length < 200) : Law0 q n' (A ++ { g with m := g.m ++ [t] } :: B) := by
  have hf : rk t.z ≤ g.r ∧ t.z ≤ free q g := by unfold fits at hg; simpa using hg
  have len : (allT (A ++ { g with m := g.m ++ [t] } :: B)).length ≤ 200 := by rw [(allT_add A g B t).length_eq, List.length_cons]; omega
  have gm : g ∈ A ++ g :: B := by simp
  have mem : ∀ {P : Rg → Prop}, (∀ x ∈ A ++ g :: B, P x) → P { g with m := g.m ++ [t] } → ∀ x ∈ A ++ { g with m := g.m ++ [t] } :: B, P x := fun h1 h2 x hx => by
    rcases List.mem_append.mp hx with h | h
    · exact h1 x (List.mem_append_left _ h)
    · rcases List.mem_cons.mp h with rfl | h
      · exact h2
      · exact h1 x (List.mem_append_right _ (List.mem_cons_of_mem _ h))
  have G := L.rg g gm
  refine ⟨mem (fun x hx => ?_) ?_, ?_, mem (fun x hx => L.rkd x hx) ?_, ?_, ?_, ?_, len⟩
  · have X := L.rg x hx
    exact ⟨X.r0, X.r12, X.p0, fun t ht => (X.p t ht).mono hn, fun t ht => (X.m t ht).mono hn, X.sm⟩
  · refine ⟨G.r0, G.r12, G.p0, fun t ht => (G.p t ht).mono hn, fun u hu => ?_, G.sm.1, ?_⟩
    · rcases List.mem_append.mp hu with h | h
      · exact (G.m u h).mono hn
      · rw [List.mem_singleton.mp h]; exact ht
    · show (g.m ++ [t]).length ≤ 200
      have h1 : (allT (A ++ { g with m := g.m ++ [t] } :: B)).length = (allT A).length + (g.p.length + (g.m ++ [t]).length + (allT B).length) := by
        rw [allT_append, allT_cons]; simp only [List.length_append]
      omega
  · have := L.asc
    rw [List.pairwise_append] at this ⊢
    obtain ⟨a1, a2, a3⟩ := this
    obtain ⟨b1, b2⟩ := List.pairwise_cons.mp a2
    refine ⟨a1, List.pairwise_cons.mpr ⟨b1, b2⟩, fun x hx y hy => ?_⟩
    rcases List.mem_cons.mp hy with rfl | hy
    · exact a3 x hx g List.mem_cons_self
    · exact a3 x hx y (List.mem_cons_of_mem _ hy)
  · have R := L.rkd g gm
    refine ⟨R.p, fun u hu => ?_, R.asc, ?_⟩
    · rcases List.mem_append.mp hu with h | h
      · exact R.m u h
      · rw [List.mem_singleton.mp h]; exact hf.1
    · rw [free_add]; omega
  · refine (serials_perm (allT_add A g B t)).nodup_iff.mpr ?_
    rw [serials_cons]
    by_cases h : t.w = .shade
    · rw [if_pos h]; exact L.ser
    · rw [if_neg h]; exact List.nodup_cons.mpr ⟨(hs h).1, L.ser⟩
  · refine mem (P := fun x => ∀ u ∈ x.m, u.w ≠ .shade → ∀ h ∈ A ++ { g with m := g.m ++ [t] } :: B, h.r = rk u.z → lastS h < u.s) (fun x hx u hu hw => ?_) (fun u hu hw => ?_)
    · exact mem (P := fun h => h.r = rk u.z → lastS h < u.s) (fun h hh => L.later x hx u hu hw h hh) (L.later x hx u hu hw g gm)
    · rcases List.mem_append.mp hu with h | h
      · exact mem (P := fun h => h.r = rk u.z → lastS h < u.s) (fun h' hh => L.later g gm u h hw h' hh) (L.later g gm u h hw g gm)
      · rw [List.mem_singleton.mp h] at hw ⊢
        exact mem (P := fun h => h.r = rk t.z → lastS h < t.s) (fun h' hh _ => (hs hw).2 h' hh) (fun _ => (hs hw).2 g gm)
  · refine passed_iff.mpr (passed_pw.mpr ?_)
    have H := passed_pw.mp (passed_iff.mp L.passed)
    rw [List.pairwise_append] at H ⊢
    obtain ⟨a1, a2, a3⟩ := H
    obtain ⟨b1, b2⟩ := List.pairwise_cons.mp a2
    have tz : 0 ≤ t.z := by have := ht.2.2.2.1; omega
    refine ⟨a1, List.pairwise_cons.mpr ⟨fun y hy u hu z => b1 y hy u hu ⟨z.1, ?_⟩, b2⟩, fun x hx y hy => ?_⟩
    · have := z.2; rw [free_add] at this; omega
    · rcases List.mem_cons.mp hy with rfl | hy
      · intro u hu
        rcases List.mem_append.mp hu with h | h
        · exact a3 x hx g List.mem_cons_self u h
        · rw [List.mem_singleton.mp h]
          have := hA x hx
          unfold fits at this
          intro z
          rw [decide_eq_true z.1, decide_eq_true z.2] at this
          cases this
      · exact a3 x hx y (List.mem_cons_of_mem _ hy)
theorem lastS_le {q n : Int} {gs : List Rg} (L : Law0 q n gs) {g : Rg} (hg : g ∈ gs) : lastS g ≤ n - 1 := by
  have G := L.rg g hg
  unfold lastS
  cases e : g.p.getLast? with
  | none => exact absurd (List.getLast?_eq_none_iff.mp e) G.p0
  | some t => exact (G.p t (List.mem_of_getLast? e)).2.2.1
theorem lawful_put {q n z : Int} {gs : List Rg} {i : Nat} (L : Lawful q n gs) (n0 : 0 ≤ n) (z1 : 1 ≤ z) (z2 : z ≤ 4096) (h : spot q z gs = some i) (hl : (allT gs).length < 200) : Lawful q (n + 1) (putAt i ⟨.file, n, z⟩ gs) := by
  obtain ⟨A, g, B, rfl, _, hA, hg, hp⟩ := spot_split h
  rw [hp]
  refine (law0_add L.law0 (by omega) ⟨by simp, n0, by show n ≤ n + 1 - 1; omega, z1, z2⟩ hA hg (fun _ => ⟨fun hm => ?_, fun x hx => ?_⟩) hl).full ?_
  · obtain ⟨t, ht, _, e⟩ := mem_serials.mp hm
    obtain ⟨x, hx, ht⟩ := mem_allT.mp ht
    have X := L.rg x hx
    have : t.s ≤ n - 1 := by rcases ht with h | h
                             · exact (X.p t h).2.2.1
                             · exact (X.m t h).2.2.1
    have e2 : t.s = n := e
    omega
  · have := lastS_le L.law0 hx
    show lastS x < n
    omega
  · refine (pairsW_perm (allT_add A g B _)).trans ((?_ : List.Perm _ _).trans (pairsW_perm (allT_add A g B _)).symm)
    rw [pairsW_cons, pairsW_cons, if_neg (fun z => nomatch z), if_neg (fun z => nomatch z)]
    exact L.shd
end K76
set_option maxRecDepth 100000
namespace K76
/-! ### a file dropped without a tidying -/
theorem mark_len (w : Wd) (s : Int) (ts : List Th) : (mark w s ts).length = ts.length := by unfold mark; rw [List.length_map]
theorem mark_cells (w : Wd) (s : Int) (ts : List Th) : cells (mark w s ts) = cells ts := by
  unfold cells mark
  rw [List.map_map]
  refine congrArg List.sum (List.map_congr_left fun t _ => ?_)
  show (if isF s t then { t with w := w } else t).z = t.z
  split <;> rfl
theorem mark_s (w : Wd) (s : Int) (ts : List Th) : (mark w s ts).map Th.s = ts.map Th.s := by
  unfold mark
  rw [List.map_map]
  refine List.map_congr_left fun t _ => ?_
  show (if isF s t then { t with w := w } else t).s = t.s
  split <;> rfl
theorem isF_iff {s : Int} {t : Th} : isF s t = true ↔ t.w = .file ∧ t.s = s := by unfold isF; rw [Bool.and_eq_true, decide_eq_true_eq, decide_eq_true_eq]
theorem mem_mark {w : Wd} {s : Int} {ts : List Th} {u : Th} (h : u ∈ mark w s ts) : ∃ t ∈ ts, u.s = t.s ∧ u.z = t.z ∧ (u = t ∨ (isF s t = true ∧ u.w = w)) := by
  unfold mark at h
  obtain ⟨t, ht, rfl⟩ := List.mem_map.mp h
  by_cases e : isF s t = true
  · rw [if_pos e]; exact ⟨t, ht, rfl, rfl, .inr ⟨e, rfl⟩⟩
  · rw [if_neg e]; exact ⟨t, ht, rfl, rfl, .inl rfl⟩
theorem markR_free (q s : Int) (g : Rg) : free q (markR s g) = free q g := by
  unfold free markR
  show cells (mark .hole s g.p) / q - cells (mark .gone s g.m) = _
  rw [mark_cells, mark_cells]
theorem fits_mark (q z s : Int) (g : Rg) : fits q z (markR s g) = fits q z g := by unfold fits; rw [markR_free]; rfl
theorem spot_mark (q z s : Int) (gs : List Rg) : spot q z (gs.map (markR s)) = spot q z gs := by
  unfold spot
  rw [List.findIdx?_map]
  congr 1
  funext g
  exact fits_mark q z s g
theorem serials_mark (w : Wd) (hw : w ≠ .shade) (s : Int) (ts : List Th) : serials (mark w s ts) = serials ts := by
  induction ts with
  | nil => rfl
  | cons t ts ih =>
    have e : mark w s (t :: ts) = (if isF s t then { t with w := w } else t) :: mark w s ts := rfl
    rw [e, serials_cons, serials_cons, ih]
    by_cases h : isF s t = true
    · rw [if_pos h]
      have := (isF_iff.mp h).1
      rw [if_neg (by exact hw), if_neg (by rw [this]; exact fun z => nomatch z)]
    · rw [if_neg h]
theorem serials_markG (s : Int) (gs : List Rg) : serials (allT (gs.map (markR s))) = serials (allT gs) := by
  induction gs with
  | nil => rfl
  | cons g gs ih =>
    rw [List.map_cons, allT_cons, allT_cons, serials_append, serials_append, ih, serials_append, serials_append]
    show serials (mark .hole s g.p) ++ serials (mark .gone s g.m) ++ _ = _
    rw [serials_mark .hole (fun z => nomatch z), serials_mark .gone (fun z => nomatch z)]
theorem lastS_mark (s : Int) (g : Rg) : lastS (markR s g) = lastS g := by
  unfold lastS
  show ((mark .hole s g.p).getLast?.map Th.s).getD 0 = _
  rw [← List.getLast?_map, ← List.getLast?_map, mark_s]
theorem allT_mark_len (s : Int) (gs : List Rg) : (allT (gs.map (markR s))).length = (allT gs).length := by
  induction gs with
  | nil => rfl
  | cons g gs ih =>
    rw [List.map_cons, allT_cons, allT_cons, List.length_append, List.length_append, ih, List.length_append, List.length_append]
    show (mark .hole s g.p).length + (mark .gone s g.m).length + _ = _
    rw [mark_len, mark_len]
theorem law0_mark {q n : Int} {gs : List Rg} (L : Law0 q n gs) (s : Int) : Law0 q n (gs.map (markR s)) := by
  have mem : ∀ {P : Rg → Prop}, (∀ g ∈ gs, P (markR s g)) → ∀ x ∈ gs.map (markR s), P x := fun h x hx => by
    obtain ⟨g, hg, rfl⟩ := List.mem_map.mp hx
    exact h g hg
  refine ⟨mem fun g hg => ?_, ?_, mem fun g hg => ?_, ?_, mem fun g hg u hu hw => mem fun h hh hr => ?_, ?_, ?_⟩
  · have G := L.rg g hg
    refine ⟨G.r0, G.r12, fun e => G.p0 ?_, fun u hu => ?_, fun u hu => ?_, ?_⟩
    · have := congrArg List.length e
      rw [show (markR s g).p = mark .hole s g.p from rfl, mark_len] at this
      exact List.length_eq_zero_iff.mp this
    · obtain ⟨t, ht, e1, e2, e3⟩ := mem_mark hu
      have T := G.p t ht
      refine ⟨?_, by rw [e1]; exact T.2.1, by rw [e1]; exact T.2.2.1, by rw [e2]; exact T.2.2.2⟩
      rcases e3 with rfl | ⟨_, e⟩
      · exact T.1
      · rw [e]; simp
    · obtain ⟨t, ht, e1, e2, e3⟩ := mem_mark hu
      have T := G.m t ht
      refine ⟨?_, by rw [e1]; exact T.2.1, by rw [e1]; exact T.2.2.1, by rw [e2]; exact T.2.2.2⟩
      rcases e3 with rfl | ⟨_, e⟩
      · exact T.1
      · rw [e]; simp
    · exact ⟨by rw [show (markR s g).p = mark .hole s g.p from rfl, mark_len]; exact G.sm.1, by rw [show (markR s g).m = mark .gone s g.m from rfl, mark_len]; exact G.sm.2⟩
  · exact List.pairwise_map.mpr L.asc
  · have R := L.rkd g hg
    refine ⟨fun u hu => ?_, fun u hu => ?_, ?_, by rw [markR_free]; exact R.fr⟩
    · obtain ⟨t, ht, e1, e2, _⟩ := mem_mark hu
      rw [e2]; exact R.p t ht
    · obtain ⟨t, ht, e1, e2, _⟩ := mem_mark hu
      rw [e2]; exact R.m t ht
    · have h1 : (g.p.map Th.s).Pairwise (· < ·) := List.pairwise_map.mpr R.asc
      rw [← mark_s .hole s] at h1
      exact List.pairwise_map.mp h1
  · rw [serials_markG]; exact L.ser
  · obtain ⟨t, ht, e1, e2, e3⟩ := mem_mark hu
    rw [lastS_mark, e1]
    refine L.later g hg t ht ?_ h hh (by rw [← e2]; exact hr)
    rcases e3 with rfl | ⟨e, _⟩
    · exact hw
    · rw [(isF_iff.mp e).1]; exact fun z => nomatch z
  · refine passed_iff.mpr (passed_pw.mpr ?_)
    have H := passed_pw.mp (passed_iff.mp L.passed)
    refine List.pairwise_map.mpr (H.imp fun {a b} h u hu => ?_)
    obtain ⟨t, ht, e1, e2, e3⟩ := mem_mark hu
    rw [markR_free, e2]
    exact h t ht
  · rw [allT_mark_len]; exact L.len2
/-! ### the one file s -/
theorem one_file {ts : List Th} (h : (serials ts).Nodup) {t u : Th} (ht : t ∈ ts) (hu : u ∈ ts) (w1 : t.w ≠ .shade) (w2 : u.w ≠ .shade) (e : t.s = u.s) : t = u := by
  induction ts with
  | nil => cases ht
  | cons x ts ih =>
    rw [serials_cons] at h
    by_cases hx : x.w = .shade
    · rw [if_pos hx] at h
      rcases List.mem_cons.mp ht with rfl | ht
      · exact absurd hx w1
      · rcases List.mem_cons.mp hu with rfl | hu
        · exact absurd hx w2
        · exact ih h ht hu
    · rw [if_neg hx] at h
      obtain ⟨h1, h2⟩ := List.nodup_cons.mp h
      rcases List.mem_cons.mp ht with r | ht2
      · rcases List.mem_cons.mp hu with r2 | hu2
        · exact r.trans r2.symm
        · exact absurd (mem_serials.mpr ⟨u, hu2, w2, e.symm.trans (by rw [r])⟩) h1
      · rcases List.mem_cons.mp hu with r2 | hu2
        · exact absurd (mem_serials.mpr ⟨t, ht2, w1, e.trans (by rw [r2])⟩) h1
        · exact ih h2 ht2 hu2
theorem isF_ne {s : Int} {t : Th} (h : isF s t = true) : t.w ≠ .shade := by rw [(isF_iff.mp h).1]; exact fun z => nomatch z
theorem files_one {ts : List Th} (h : (serials ts).Nodup) {t : Th} (ht : t ∈ ts) {s : Int} (hs : isF s t = true) : ts.filter (isF s) = [t] := by
  induction ts with
  | nil => cases ht
  | cons x ts ih =>
    have h' := h
    rw [serials_cons] at h
    by_cases hx : isF s x = true
    · have e : x = t := one_file h' List.mem_cons_self ht (isF_ne hx) (isF_ne hs) ((isF_iff.mp hx).2.trans (isF_iff.mp hs).2.symm)
      subst e
      rw [List.filter_cons, if_pos hx, if_neg (isF_ne hx)] at *
      obtain ⟨h1, h2⟩ := List.nodup_cons.mp h
      rw [List.filter_eq_nil_iff.mpr]
      intro u hu hf
      exact h1 (mem_serials.mpr ⟨u, hu, isF_ne hf, (isF_iff.mp hf).2.trans (isF_iff.mp hs).2.symm⟩)
    · rw [List.filter_cons, if_neg hx]
      rcases List.mem_cons.mp ht with rfl | ht
      · exact absurd hs hx
      · refine ih ?_ ht
        split at h
        · exact h
        · exact (List.nodup_cons.mp h).2
theorem size_one {q n : Int} {gs : List Rg} (L : Law0 q n gs) {t : Th} (ht : t ∈ allT gs) {s : Int} (hs : isF s t = true) : sizeOf s gs = t.z := by
  unfold sizeOf
  rw [files_one L.ser ht hs]
  simp
def payT (gs : List Rg) : List Th := gs.flatMap Rg.p
theorem payT_cons (g : Rg) (gs : List Rg) : payT (g :: gs) = g.p ++ payT gs := by unfold payT; rw [List.flatMap_cons]
theorem holes_mark (s : Int) (ts : List Th) : (pairsW .hole (mark .hole s ts)).Perm (((ts.filter (isF s)).map fun t => (t.s, t.z)) ++ pairsW .hole ts) := by
  induction ts with
  | nil => exact List.Perm.refl _
  | cons t ts ih =>
    have e : mark .hole s (t :: ts) = (if isF s t then { t with w := .hole } else t) :: mark .hole s ts := rfl
    rw [e, pairsW_cons, pairsW_cons, List.filter_cons]
    by_cases h : isF s t = true
    · rw [if_pos h, if_pos h, if_pos rfl, if_neg (by rw [(isF_iff.mp h).1]; exact fun z => nomatch z)]
      exact List.Perm.cons _ ih
    · rw [if_neg h, if_neg h]
      by_cases h2 : t.w = .hole
      · rw [if_pos h2, if_pos h2]
        exact (List.Perm.cons _ ih).trans List.perm_middle.symm
      · rw [if_neg h2, if_neg h2]; exact ih
theorem pairs_gone (w : Wd) (h1 : w ≠ .file) (h2 : w ≠ .gone) (s : Int) (ts : List Th) : pairsW w (mark .gone s ts) = pairsW w ts := by
  induction ts with
  | nil => rfl
  | cons t ts ih =>
    have e : mark .gone s (t :: ts) = (if isF s t then { t with w := .gone } else t) :: mark .gone s ts := rfl
    rw [e, pairsW_cons, pairsW_cons, ih]
    by_cases h : isF s t = true
    · rw [if_pos h, if_neg (fun z => h2 (by exact z.symm)), if_neg (by rw [(isF_iff.mp h).1]; exact fun z => h1 z.symm)]
    · rw [if_neg h]
theorem pairs_hole (w : Wd) (h1 : w ≠ .file) (h2 : w ≠ .hole) (s : Int) (ts : List Th) : pairsW w (mark .hole s ts) = pairsW w ts := by
  induction ts with
  | nil => rfl
  | cons t ts ih =>
    have e : mark .hole s (t :: ts) = (if isF s t then { t with w := .hole } else t) :: mark .hole s ts := rfl
    rw [e, pairsW_cons, pairsW_cons, ih]
    by_cases h : isF s t = true
    · rw [if_pos h, if_neg (fun z => h2 (by exact z.symm)), if_neg (by rw [(isF_iff.mp h).1]; exact fun z => h1 z.symm)]
    · rw [if_neg h]
theorem holesG_mark (s : Int) (gs : List Rg) : (pairsW .hole (allT (gs.map (markR s)))).Perm ((((payT gs).filter (isF s)).map fun t => (t.s, t.z)) ++ pairsW .hole (allT gs)) := by
  induction gs with
  | nil => exact List.Perm.refl _
  | cons g gs ih =>
    rw [List.map_cons, allT_cons, allT_cons, payT_cons, pairsW_append, pairsW_append, pairsW_append, pairsW_append, List.filter_append, List.map_append]
    show (pairsW .hole (mark .hole s g.p) ++ pairsW .hole (mark .gone s g.m) ++ _).Perm _
    rw [pairs_gone .hole (fun z => nomatch z) (fun z => nomatch z)]
    refine (((holes_mark s g.p).append_right _).append ih).trans ?_
    simp only [List.append_assoc]
    refine List.Perm.append_left _ ?_
    refine (List.Perm.append_left _ (List.perm_append_comm_assoc _ _ _)).trans ?_
    exact List.perm_append_comm_assoc _ _ _
theorem shadesG_mark (s : Int) (gs : List Rg) : pairsW .shade (allT (gs.map (markR s))) = pairsW .shade (allT gs) := by
  induction gs with
  | nil => rfl
  | cons g gs ih =>
    rw [List.map_cons, allT_cons, allT_cons, pairsW_append, pairsW_append, pairsW_append, pairsW_append, ih]
    show pairsW .shade (mark .hole s g.p) ++ pairsW .shade (mark .gone s g.m) ++ _ = _
    rw [pairs_gone .shade (fun z => nomatch z) (fun z => nomatch z), pairs_hole .shade (fun z => nomatch z) (fun z => nomatch z)]
theorem isHole_iff {s : Int} {gs : List Rg} : isHole s gs = true ↔ ∃ t ∈ payT gs, isF s t = true := by
  unfold isHole payT
  rw [List.any_eq_true]
  constructor
  · rintro ⟨g, hg, h⟩
    obtain ⟨t, ht, h⟩ := List.any_eq_true.mp h
    exact ⟨t, List.mem_flatMap.mpr ⟨g, hg, ht⟩, h⟩
  · rintro ⟨t, ht, h⟩
    obtain ⟨g, hg, ht⟩ := List.mem_flatMap.mp ht
    exact ⟨g, hg, List.any_eq_true.mpr ⟨t, ht, h⟩⟩
theorem pay_sub (gs : List Rg) : (payT gs).Sublist (allT gs) := by
  induction gs with
  | nil => exact List.Sublist.refl _
  | cons g gs ih =>
    rw [payT_cons, allT_cons]
    exact (List.sublist_append_left _ _).append ih
theorem pay_mem {gs : List Rg} {t : Th} (h : t ∈ payT gs) : t ∈ allT gs := (pay_sub gs).mem h
theorem serials_sub {xs ys : List Th} (h : xs.Sublist ys) : (serials xs).Sublist (serials ys) := (h.filter _).map _
theorem lawful_mark {q n : Int} {gs : List Rg} (L : Lawful q n gs) (s : Int) (h : isHole s gs = false) : Lawful q n (gs.map (markR s)) := by
  refine (law0_mark L.law0 s).full ?_
  rw [shadesG_mark]
  refine (holesG_mark s gs).trans ?_
  rw [List.filter_eq_nil_iff.mpr fun t ht hf => by rw [isHole_iff.mpr ⟨t, ht, hf⟩] at h; cases h]
  exact L.shd
theorem lawful_shade {q n z : Int} {gs : List Rg} {i : Nat} (L : Lawful q n gs) (s : Int) (h : isHole s gs = true) (hz : sizeOf s gs = z) (hi : spot q z gs = some i) (hl : (allT gs).length < 200) : Lawful q n (putAt i ⟨.shade, s, z⟩ (gs.map (markR s))) := by
  obtain ⟨t, ht, hs⟩ := isHole_iff.mp h
  have e := size_one L.law0 (pay_mem ht) hs
  obtain ⟨g0, hg0, ht0⟩ := mem_allT.mp (pay_mem ht)
  have T : 0 ≤ t.s ∧ t.s ≤ n - 1 ∧ 1 ≤ t.z ∧ t.z ≤ 4096 := by
    rcases ht0 with h | h
    · exact ((L.rg g0 hg0).p t h).2
    · exact ((L.rg g0 hg0).m t h).2
  have es : t.s = s := (isF_iff.mp hs).2
  rw [← spot_mark q z s] at hi
  obtain ⟨A, g, B, eg, _, hA, hg, hp⟩ := spot_split hi
  rw [hp]
  have L0 := law0_mark L.law0 s
  have len := allT_mark_len s gs
  have shd : pairsW .shade (allT (A ++ g :: B)) = pairsW .shade (allT gs) := by rw [← eg]; exact shadesG_mark s gs
  have hol : (pairsW .hole (allT (A ++ g :: B))).Perm ((s, z) :: pairsW .hole (allT gs)) := by
    rw [← eg]
    refine (holesG_mark s gs).trans ?_
    have : (payT gs).filter (isF s) = [t] := files_one ((serials_sub (pay_sub gs)).nodup L.ser) ht hs
    rw [this]
    show ((t.s, t.z) :: pairsW .hole (allT gs)).Perm _
    rw [es, ← e, hz]
  rw [eg] at L0 len
  refine (law0_add L0 (Int.le_refl _) ⟨by simp, ?_, ?_, ?_, ?_⟩ hA hg (fun z => absurd rfl z) (by omega)).full ?_
  · show 0 ≤ s; omega
  · show s ≤ n - 1; omega
  · show 1 ≤ z; omega
  · show z ≤ 4096; omega
  · refine (pairsW_perm (allT_add A g B _)).trans ((?_ : List.Perm _ _).trans (pairsW_perm (allT_add A g B _)).symm)
    rw [pairsW_cons, pairsW_cons, if_neg (fun z => nomatch z), if_pos rfl, shd]
    exact hol.trans (List.Perm.cons _ L.shd)
end K76
set_option maxRecDepth 100000
namespace K76
/-! ### a tidying keeps a layout lawful -/
theorem filter_or_perm {α : Type} (p q : α → Bool) (xs : List α) (h : ∀ x ∈ xs, p x = true → q x = false) : (xs.filter p ++ xs.filter q).Perm (xs.filter fun x => p x || q x) := by
  induction xs with
  | nil => exact List.Perm.refl _
  | cons x xs ih =>
    have ih := ih fun y hy => h y (List.mem_cons_of_mem _ hy)
    have hx := h x List.mem_cons_self
    rw [List.filter_cons, List.filter_cons, List.filter_cons]
    cases hp : p x with
    | true =>
      rw [hx hp]
      exact List.Perm.cons _ ih
    | false =>
      cases hq : q x with
      | true => exact List.perm_middle.trans (List.Perm.cons _ ih)
      | false => exact ih
theorem flat_rank (xs : List (Int × Int)) : ∀ (rs : List Int), rs.Nodup → (rs.flatMap fun r => xs.filter fun f => decide (rk f.2 = r)).Perm (xs.filter fun f => decide (rk f.2 ∈ rs))
  | [], _ => by simp
  | r :: rs, h => by
    obtain ⟨h1, h2⟩ := List.nodup_cons.mp h
    rw [List.flatMap_cons]
    refine ((flat_rank xs rs h2).append_left _).trans ((filter_or_perm _ _ xs fun x _ hp => ?_).trans (List.Perm.of_eq (List.filter_congr fun x _ => ?_)))
    · rw [decide_eq_false_iff_not]; rw [decide_eq_true_eq] at hp; rw [hp]; exact h1
    · simp [List.mem_cons]
def mkF (f : Int × Int) : Th := ⟨.file, f.1, f.2⟩
theorem newR_p (fs : List (Int × Int)) (r : Int) : (newR fs r).p = ((sortP fs).filter fun f => decide (rk f.2 = r)).map mkF := rfl
theorem allT_new (fs : List (Int × Int)) (rs : List Int) : allT (rs.map (newR fs)) = (rs.flatMap fun r => (sortP fs).filter fun f => decide (rk f.2 = r)).map mkF := by
  induction rs with
  | nil => rfl
  | cons r rs ih =>
    rw [List.map_cons, allT_cons, ih, List.flatMap_cons, List.map_append, newR_p]
    show _ ++ [] ++ _ = _
    rw [List.append_nil]
theorem allT_new_perm {fs : List (Int × Int)} (h : ∀ f ∈ fs, f.2 ≤ 4096) : (allT ((ranksOf fs).map (newR fs))).Perm (fs.map mkF) := by
  rw [allT_new]
  refine List.Perm.map _ ((flat_rank (sortP fs) (ranksOf fs) ((ranksOf_sorted fs).imp fun {a b} (h : a < b) => by omega)).trans ?_)
  rw [List.filter_eq_self.mpr fun f hf => decide_eq_true ((ranksOf_mem h).mpr ⟨f, (sortP_perm fs).mem_iff.mp hf, rfl⟩)]
  exact sortP_perm fs
theorem serials_mkF (fs : List (Int × Int)) : serials (fs.map mkF) = fs.map (·.1) := by
  induction fs with
  | nil => rfl
  | cons f fs ih => rw [List.map_cons, serials_cons, if_neg (fun z => nomatch z), ih]; rfl
theorem pairsW_mkF (w : Wd) (h : w ≠ .file) (fs : List (Int × Int)) : pairsW w (fs.map mkF) = [] := by
  induction fs with
  | nil => rfl
  | cons f fs ih => rw [List.map_cons, pairsW_cons, if_neg (fun z => h (by exact z.symm)), ih]
theorem pairsF_mkF (fs : List (Int × Int)) : pairsW .file (fs.map mkF) = fs := by
  induction fs with
  | nil => rfl
  | cons f fs ih => rw [List.map_cons, pairsW_cons, if_pos (show (mkF f).w = Wd.file from rfl), ih]; rfl
def loG (gs : List Rg) (b : Int) : List Rg := gs.filter fun g => decide (g.r < b)
theorem mem_lo {gs : List Rg} {b : Int} {g : Rg} : g ∈ loG gs b ↔ g ∈ gs ∧ g.r < b := by unfold loG; rw [List.mem_filter, decide_eq_true_eq]
theorem allT_sub {xs ys : List Rg} (h : xs.Sublist ys) : (allT xs).Sublist (allT ys) := by
  induction h with
  | slnil => exact List.Sublist.refl _
  | cons a _ ih => rw [allT_cons]; exact ih.trans (List.sublist_append_right _ _)
  | cons_cons a _ ih => rw [allT_cons, allT_cons]; exact (List.Sublist.refl _).append ih
theorem lo_sub (gs : List Rg) (b : Int) : (loG gs b).Sublist gs := List.filter_sublist
theorem pairsW_nil {w : Wd} {ts : List Th} (h : ∀ t ∈ ts, t.w ≠ w) : pairsW w ts = [] := by
  unfold pairsW
  rw [List.filter_eq_nil_iff.mpr fun t ht hf => h t ht (of_decide_eq_true hf)]; rfl
theorem mem_pairsW {w : Wd} {ts : List Th} {p : Int × Int} : p ∈ pairsW w ts ↔ ∃ t ∈ ts, t.w = w ∧ (t.s, t.z) = p := by
  unfold pairsW
  simp only [List.mem_map, List.mem_filter, decide_eq_true_eq]
  exact ⟨fun ⟨t, ⟨h1, h2⟩, h3⟩ => ⟨t, h1, h2, h3⟩, fun ⟨t, h1, h2, h3⟩ => ⟨t, ⟨h1, h2⟩, h3⟩⟩
theorem holes_lo {q n b : Int} : ∀ {gs : List Rg}, (∀ g ∈ gs, RgOk n g) → (∀ g ∈ gs, Ranked q g) → lesserT gs b = [] → pairsW .hole (allT (loG gs b)) = (pairsW .hole (allT gs)).filter (fun p => decide (rk p.2 < b)) ∧ pairsW .shade (allT (loG gs b)) = (pairsW .shade (allT gs)).filter (fun p => decide (rk p.2 < b))
  | [], _, _, _ => ⟨rfl, rfl⟩
  | g :: gs, h1, h2, h3 => by
    have h3' : ∀ t, t ∉ lesserT (g :: gs) b := fun t ht => by rw [h3] at ht; cases ht
    have l2 : lesserT gs b = [] := List.eq_nil_iff_forall_not_mem.mpr fun t ht => by
      obtain ⟨x, hx, a⟩ := lesser_mem.mp ht
      exact h3' t (lesser_mem.mpr ⟨x, List.mem_cons_of_mem _ hx, a⟩)
    obtain ⟨i1, i2⟩ := holes_lo (fun x hx => h1 x (List.mem_cons_of_mem _ hx)) (fun x hx => h2 x (List.mem_cons_of_mem _ hx)) l2
    have G := h1 g List.mem_cons_self
    have R := h2 g List.mem_cons_self
    have e : loG (g :: gs) b = if g.r < b then g :: loG gs b else loG gs b := by unfold loG; rw [List.filter_cons]; simp
    rw [e]
    by_cases h : g.r < b
    · rw [if_pos h, allT_cons, allT_cons]
      simp only [pairsW_append, List.filter_append, i1, i2]
      have keep : ∀ w, (∀ p ∈ pairsW w g.p, rk p.2 < b) ∧ ∀ p ∈ pairsW w g.m, rk p.2 < b := fun w => by
        refine ⟨fun p hp => ?_, fun p hp => ?_⟩
        · obtain ⟨t, ht, _, rfl⟩ := mem_pairsW.mp hp
          have := R.p t ht
          show rk t.z < b
          omega
        · obtain ⟨t, ht, _, rfl⟩ := mem_pairsW.mp hp
          have := R.m t ht
          show rk t.z < b
          omega
      have f1 : ∀ w, (pairsW w g.p).filter (fun p => decide (rk p.2 < b)) = pairsW w g.p := fun w => List.filter_eq_self.mpr fun p hp => decide_eq_true ((keep w).1 p hp)
      have f2 : ∀ w, (pairsW w g.m).filter (fun p => decide (rk p.2 < b)) = pairsW w g.m := fun w => List.filter_eq_self.mpr fun p hp => decide_eq_true ((keep w).2 p hp)
      rw [f1, f2, f1, f2]
      exact ⟨rfl, rfl⟩
    · rw [if_neg h, allT_cons]
      simp only [pairsW_append, List.filter_append, i1, i2]
      have k1 : (pairsW .hole g.p).filter (fun p => decide (rk p.2 < b)) = [] := List.filter_eq_nil_iff.mpr fun p hp => by
        obtain ⟨t, ht, _, rfl⟩ := mem_pairsW.mp hp
        have := R.p t ht
        rw [decide_eq_true_eq]
        show ¬ rk t.z < b
        omega
      have k2 : pairsW .hole g.m = [] := pairsW_nil fun t ht e => by
        have := (G.m t ht).1
        rw [e] at this
        simp at this
      have k3 : pairsW .shade g.p = [] := pairsW_nil fun t ht e => by
        have := (G.p t ht).1
        rw [e] at this
        simp at this
      have k4 : (pairsW .shade g.m).filter (fun p => decide (rk p.2 < b)) = [] := List.filter_eq_nil_iff.mpr fun p hp => by
        obtain ⟨t, ht, _, rfl⟩ := mem_pairsW.mp hp
        rw [decide_eq_true_eq]
        intro hlt
        exact h3' t (lesser_mem.mpr ⟨g, List.mem_cons_self, by omega, ht, hlt⟩)
      rw [k1, k2, k3, k4]
      exact ⟨rfl, rfl⟩
theorem strict_of_lex : ∀ {ps : List (Int × Int)}, ps.Pairwise lexLe → (ps.map (·.1)).Nodup → ps.Pairwise fun a b => a.1 < b.1
  | [], _, _ => List.Pairwise.nil
  | p :: ps, h, hn => by
    obtain ⟨h1, h2⟩ := List.pairwise_cons.mp h
    rw [List.map_cons] at hn
    obtain ⟨n1, n2⟩ := List.nodup_cons.mp hn
    refine List.pairwise_cons.mpr ⟨fun y hy => ?_, strict_of_lex h2 n2⟩
    have := h1 y hy
    have ne : p.1 ≠ y.1 := fun e => n1 (List.mem_map.mpr ⟨y, hy, e.symm⟩)
    unfold lexLe at this
    omega
theorem cells_nonneg {ts : List Th} (h : ∀ t ∈ ts, 0 ≤ t.z) : 0 ≤ cells ts := by
  induction ts with
  | nil => simp [cells]
  | cons t ts ih =>
    rw [cells_cons]
    have := h t List.mem_cons_self
    have := ih fun u hu => h u (List.mem_cons_of_mem _ hu)
    omega
/-- what the files of a tidying must keep -/
structure FilesOk (n' b : Int) (gs : List Rg) (fs : List (Int × Int)) : Prop where
  nd : (fs.map (·.1)).Nodup
  s : ∀ f ∈ fs, 0 ≤ f.1 ∧ f.1 ≤ n' - 1
  z : ∀ f ∈ fs, 1 ≤ f.2 ∧ f.2 ≤ 4096
  r : ∀ f ∈ fs, b ≤ rk f.2
  lo : ∀ f ∈ fs, f.1 ∉ serials (allT (loG gs b))
  len : (allT (loG gs b)).length + fs.length ≤ 200
theorem anewF_perm {gs : List Rg} {b : Int} {fs : List (Int × Int)} (h : ∀ f ∈ fs, f.2 ≤ 4096) : (allT (anewF gs b fs)).Perm (allT (loG gs b) ++ fs.map mkF) := by
  unfold anewF
  rw [allT_append]
  exact (allT_new_perm h).append_left _
theorem lawful_anewF {q n n' b : Int} {gs : List Rg} {fs : List (Int × Int)} (L : Lawful q n gs) (q0 : 0 < q) (hn : n ≤ n') (hb : lesserT gs b = []) (F : FilesOk n' b gs fs) : Lawful q n' (anewF gs b fs) := by
  have hz : ∀ f ∈ fs, f.2 ≤ 4096 := fun f hf => (F.z f hf).2
  have perm := anewF_perm (gs := gs) (b := b) hz
  have new : ∀ g ∈ (ranksOf fs).map (newR fs), ∃ r ∈ ranksOf fs, g = newR fs r := fun g hg => by
    obtain ⟨r, hr, rfl⟩ := List.mem_map.mp hg; exact ⟨r, hr, rfl⟩
  have rb : ∀ r ∈ ranksOf fs, b ≤ r ∧ 0 ≤ r ∧ r ≤ 12 := fun r hr => by
    obtain ⟨f, hf, rfl⟩ := (ranksOf_mem hz).mp hr
    exact ⟨F.r f hf, rk_nonneg _, rk_le (hz f hf)⟩
  have newp : ∀ r, ∀ t ∈ (newR fs r).p, ∃ f ∈ fs, t = mkF f ∧ rk f.2 = r := fun r t ht => by
    rw [newR_p] at ht
    obtain ⟨f, hf, rfl⟩ := List.mem_map.mp ht
    obtain ⟨h1, h2⟩ := List.mem_filter.mp hf
    exact ⟨f, (sortP_perm fs).mem_iff.mp h1, rfl, of_decide_eq_true h2⟩
  have mem : ∀ {P : Rg → Prop}, (∀ g ∈ gs, g.r < b → P g) → (∀ r ∈ ranksOf fs, P (newR fs r)) → ∀ g ∈ anewF gs b fs, P g := fun h1 h2 g hg => by
    rcases List.mem_append.mp hg with h | h
    · obtain ⟨h3, h4⟩ := mem_lo.mp h
      exact h1 g h3 h4
    · obtain ⟨r, hr, rfl⟩ := new g h
      exact h2 r hr
  have rkdN : ∀ r ∈ ranksOf fs, Ranked q (newR fs r) := fun r hr => by
    refine ⟨fun t ht => ?_, fun t ht => (nomatch ht), ?_, ?_⟩
    · obtain ⟨f, _, rfl, e⟩ := newp r t ht; exact e
    · rw [newR_p]
      refine List.pairwise_map.mpr ?_
      have s1 : (sortP fs).Pairwise fun a b => a.1 < b.1 := strict_of_lex (sortP_sorted fs) (((sortP_perm fs).map _).nodup_iff.mpr F.nd)
      exact (s1.sublist List.filter_sublist)
    · unfold free
      show 0 ≤ cells (newR fs r).p / q - 0
      have : 0 ≤ cells (newR fs r).p := cells_nonneg fun t ht => by
        obtain ⟨f, hf, rfl, _⟩ := newp r t ht
        have := (F.z f hf).1
        show 0 ≤ f.2
        omega
      have := Int.ediv_nonneg this (Int.le_of_lt q0)
      omega
  refine Law0.full (L := ⟨mem (fun g hg _ => ?_) (fun r hr => ?_), ?_, mem (fun g hg _ => L.rkd g hg) rkdN, ?_, mem (P := fun g => ∀ t ∈ g.m, t.w ≠ .shade → ∀ h ∈ anewF gs b fs, h.r = rk t.z → lastS h < t.s) (fun g hg hgb t ht hw => mem (P := fun h => h.r = rk t.z → lastS h < t.s) (fun h hh _ => L.later g hg t ht hw h hh) (fun r hr e => ?_)) (fun r hr t ht => (nomatch ht)), ?_, ?_⟩) ?_
  · have X := L.rg g hg
    exact ⟨X.r0, X.r12, X.p0, fun t ht => (X.p t ht).mono hn, fun t ht => (X.m t ht).mono hn, X.sm⟩
  · refine ⟨(rb r hr).2.1, (rb r hr).2.2, fun e => ?_, fun t ht => ?_, fun t ht => (nomatch ht), ?_, Nat.zero_le _⟩
    · obtain ⟨f, hf, e2⟩ := (ranksOf_mem hz).mp hr
      have : mkF f ∈ (newR fs r).p := by
        rw [newR_p]
        exact List.mem_map.mpr ⟨f, List.mem_filter.mpr ⟨(sortP_perm fs).mem_iff.mpr hf, decide_eq_true e2⟩, rfl⟩
      rw [e] at this; cases this
    · obtain ⟨f, hf, rfl, _⟩ := newp r t ht
      exact ⟨by show Wd.file ∈ _; simp, (F.s f hf).1, (F.s f hf).2, F.z f hf⟩
    · have := newR_len fs r
      have := F.len
      omega
  · unfold anewF
    rw [List.pairwise_append]
    refine ⟨L.asc.sublist (lo_sub gs b), List.pairwise_map.mpr (ranksOf_sorted fs), fun x hx y hy => ?_⟩
    obtain ⟨r, hr, rfl⟩ := new y hy
    have h1 := (mem_lo.mp hx).2
    have h2 := (rb r hr).1
    show x.r < r
    omega
  · refine (serials_perm perm).nodup_iff.mpr ?_
    rw [serials_append, serials_mkF]
    rw [List.nodup_append]
    refine ⟨(serials_sub (allT_sub (lo_sub gs b))).nodup L.ser, F.nd, fun x hx y hy e => ?_⟩
    obtain ⟨f, hf, rfl⟩ := List.mem_map.mp hy
    exact F.lo f hf (by rw [← e]; exact hx)
  · have h1 := (L.rkd g hg).m t ht
    have h2 := (rb r hr).1
    have e2 : r = rk t.z := e
    omega
  · refine passed_iff.mpr (passed_pw.mpr ?_)
    unfold anewF
    rw [List.pairwise_append]
    refine ⟨(passed_pw.mp (passed_iff.mp L.passed)).sublist (lo_sub gs b), List.pairwise_map.mpr ((ranksOf_sorted fs).imp fun _ t ht => (nomatch ht)), fun x hx y hy t ht => ?_⟩
    obtain ⟨r, hr, rfl⟩ := new y hy
    exact nomatch ht
  · rw [perm.length_eq, List.length_append, List.length_map]; exact F.len
  · obtain ⟨e1, e2⟩ := holes_lo L.rg L.rkd hb
    refine (pairsW_perm perm).trans ((?_ : List.Perm _ _).trans (pairsW_perm perm).symm)
    rw [pairsW_append, pairsW_append, pairsW_mkF .hole (fun z => nomatch z), pairsW_mkF .shade (fun z => nomatch z), e1, e2, List.append_nil, List.append_nil]
    exact L.shd.filter _
end K76
set_option maxRecDepth 100000
namespace K76
/-! ### one deed keeps everything -/
theorem iterB_le (gs : List Rg) : ∀ (n : Nat) (b : Int), iterB gs n b ≤ b
  | 0, b => Int.le_refl _
  | n + 1, b => by
    have h1 := iterB_le gs n (stepB gs b)
    have h2 := (minI_le b (low b gs)).1
    rw [iterB]
    unfold stepB at h1 ⊢
    omega
theorem bgn_ok {q n z : Int} {gs : List Rg} (z2 : z ≤ 4096) : lesserT gs (bgn gs z) = [] ∧ bgn gs z ≤ rk z := by
  unfold bgn
  have := rk_le z2
  exact ⟨(falls_last gs 14 (rk z) (rk_nonneg z) (by omega)).2, iterB_le gs 14 (rk z)⟩
def hiG (gs : List Rg) (b : Int) : List Rg := gs.filter fun g => decide (b ≤ g.r)
theorem mem_hi {gs : List Rg} {b : Int} {g : Rg} : g ∈ hiG gs b ↔ g ∈ gs ∧ b ≤ g.r := by unfold hiG; rw [List.mem_filter, decide_eq_true_eq]
theorem lohi (gs : List Rg) (b : Int) : (allT (loG gs b) ++ allT (hiG gs b)).Perm (allT gs) := by
  rw [← allT_append]
  unfold allT
  refine List.Perm.flatMap_right _ ?_
  have : hiG gs b = gs.filter fun g => !decide (g.r < b) := by
    unfold hiG
    refine List.filter_congr fun g _ => ?_
    by_cases h : g.r < b
    · simp [h]
    · simp [h]; omega
  rw [this]
  exact List.filter_append_perm _ _
theorem filesIn_none (b : Int) (gs : List Rg) : filesIn b none gs = pairsW .file (allT (hiG gs b)) := by
  rw [filesIn_eq]
  unfold pairsW
  congr 1
  refine List.filter_congr fun t _ => ?_
  simp
theorem filesIn_some (b s : Int) (gs : List Rg) : filesIn b (some s) gs = (pairsW .file (allT (hiG gs b))).filter fun p => !decide (p.1 = s) := by
  rw [filesIn_eq]
  unfold pairsW
  rw [List.filter_map, List.filter_filter]
  congr 1
  refine List.filter_congr fun t _ => ?_
  simp [Bool.and_comm]
theorem pairsF_sub (ts : List Th) : ((pairsW .file ts).map (·.1)).Sublist (serials ts) := by
  induction ts with
  | nil => exact List.Sublist.refl _
  | cons t ts ih =>
    rw [pairsW_cons, serials_cons]
    by_cases h : t.w = .file
    · rw [if_pos h, if_neg (by rw [h]; exact fun z => nomatch z)]
      exact ih.cons_cons _
    · rw [if_neg h]
      split
      · exact ih
      · exact ih.cons _
theorem pairsW_len (w : Wd) (ts : List Th) : (pairsW w ts).length ≤ ts.length := by
  unfold pairsW; rw [List.length_map]; exact List.length_filter_le _ _
theorem file_ok {q n : Int} {gs : List Rg} (L : Lawful q n gs) {f : Int × Int} (h : f ∈ pairsW .file (allT gs)) : 0 ≤ f.1 ∧ f.1 ≤ n - 1 ∧ 1 ≤ f.2 ∧ f.2 ≤ 4096 := by
  obtain ⟨t, ht, _, rfl⟩ := mem_pairsW.mp h
  obtain ⟨g, hg, ht⟩ := mem_allT.mp ht
  rcases ht with h | h
  · exact ((L.rg g hg).p t h).2
  · exact ((L.rg g hg).m t h).2
theorem hi_rank {q n b : Int} {gs : List Rg} (L : Lawful q n gs) (hb : lesserT gs b = []) {f : Int × Int} (h : f ∈ pairsW .file (allT (hiG gs b))) : b ≤ rk f.2 := by
  obtain ⟨t, ht, _, rfl⟩ := mem_pairsW.mp h
  obtain ⟨g, hg, ht⟩ := mem_allT.mp ht
  obtain ⟨h1, h2⟩ := mem_hi.mp hg
  rcases ht with h | h
  · have := (L.rkd g h1).p t h
    show b ≤ rk t.z
    omega
  · have : ¬ rk t.z < b := fun hlt => by
      have : t ∈ lesserT gs b := lesser_mem.mpr ⟨g, h1, h2, h, hlt⟩
      rw [hb] at this; cases this
    show b ≤ rk t.z
    omega
theorem ser_lohi {q n b : Int} {gs : List Rg} (L : Lawful q n gs) : (serials (allT (loG gs b)) ++ serials (allT (hiG gs b))).Nodup := by
  rw [← serials_append]
  exact (serials_perm (lohi gs b)).nodup_iff.mpr L.ser
/-- the files of the upper regions, some left out -/
theorem filesOk_of {q n n' b : Int} {gs : List Rg} (L : Lawful q n gs) (hn : n ≤ n') (hb : lesserT gs b = []) {fs : List (Int × Int)} (hs : fs.Sublist (pairsW .file (allT (hiG gs b)))) : FilesOk n' b gs fs := by
  have nd := ser_lohi (b := b) L
  rw [List.nodup_append] at nd
  have sub : (fs.map (·.1)).Sublist (serials (allT (hiG gs b))) := (hs.map _).trans (pairsF_sub _)
  have ok : ∀ f ∈ fs, 0 ≤ f.1 ∧ f.1 ≤ n - 1 ∧ 1 ≤ f.2 ∧ f.2 ≤ 4096 := fun f hf => by
    refine file_ok L ?_
    obtain ⟨t, ht, a⟩ := mem_pairsW.mp (hs.mem hf)
    exact mem_pairsW.mpr ⟨t, (lohi gs b).mem_iff.mp (List.mem_append_right _ ht), a⟩
  refine ⟨sub.nodup nd.2.1, fun f hf => ⟨(ok f hf).1, by have := (ok f hf).2.1; omega⟩, fun f hf => (ok f hf).2.2, fun f hf => hi_rank L hb (hs.mem hf), fun f hf h => ?_, ?_⟩
  · exact nd.2.2 f.1 h f.1 (sub.mem (List.mem_map.mpr ⟨f, hf, rfl⟩)) rfl
  · have h1 := (lohi gs b).length_eq
    rw [List.length_append] at h1
    have h2 := hs.length_le
    have h3 := pairsW_len .file (allT (hiG gs b))
    have := L.len2
    omega
theorem filesOk_put {q n b z : Int} {gs : List Rg} (L : Lawful q n gs) (n0 : 0 ≤ n) (z1 : 1 ≤ z) (z2 : z ≤ 4096) (hb : lesserT gs b = []) (hz : b ≤ rk z) (hl : (allT gs).length < 200) : FilesOk (n + 1) b gs ((n, z) :: pairsW .file (allT (hiG gs b))) := by
  have F := filesOk_of (n' := n + 1) L (by omega) hb (List.Sublist.refl (pairsW .file (allT (hiG gs b))))
  have fresh : ∀ {ts : List Th}, (∀ t ∈ ts, t ∈ allT gs) → n ∉ serials ts := fun h hm => by
    obtain ⟨t, ht, _, e⟩ := mem_serials.mp hm
    obtain ⟨g, hg, ht⟩ := mem_allT.mp (h t ht)
    have : t.s ≤ n - 1 := by
      rcases ht with h | h
      · exact ((L.rg g hg).p t h).2.2.1
      · exact ((L.rg g hg).m t h).2.2.1
    omega
  have mlo : ∀ t ∈ allT (loG gs b), t ∈ allT gs := fun t ht => (lohi gs b).mem_iff.mp (List.mem_append_left _ ht)
  have mhi : ∀ t ∈ allT (hiG gs b), t ∈ allT gs := fun t ht => (lohi gs b).mem_iff.mp (List.mem_append_right _ ht)
  have all : ∀ {P : Int × Int → Prop}, P (n, z) → (∀ f ∈ pairsW .file (allT (hiG gs b)), P f) → ∀ f ∈ (n, z) :: pairsW .file (allT (hiG gs b)), P f := fun h1 h2 f hf => by
    rcases List.mem_cons.mp hf with rfl | h
    · exact h1
    · exact h2 f h
  refine ⟨?_, all ⟨n0, by show n ≤ n + 1 - 1; omega⟩ F.s, all ⟨z1, z2⟩ F.z, all hz F.r, all (fresh mlo) F.lo, ?_⟩
  · rw [List.map_cons]
    exact List.nodup_cons.mpr ⟨fun h => fresh mhi ((pairsF_sub _).mem h), F.nd⟩
  · have h1 := (lohi gs b).length_eq
    rw [List.length_append] at h1
    have h3 := pairsW_len .file (allT (hiG gs b))
    rw [List.length_cons]
    omega
theorem filter_ne_self {ps : List (Int × Int)} {s : Int} (h : s ∉ ps.map (·.1)) : (ps.filter fun p => !decide (p.1 = s)) = ps := List.filter_eq_self.mpr fun p hp => by
  rw [Bool.not_eq_true', decide_eq_false_iff_not]
  exact fun e => h (List.mem_map.mpr ⟨p, hp, e⟩)
theorem files_mark (w : Wd) (hw : w ≠ .file) (s : Int) (ts : List Th) : pairsW .file (mark w s ts) = (pairsW .file ts).filter fun p => !decide (p.1 = s) := by
  induction ts with
  | nil => rfl
  | cons t ts ih =>
    have e : mark w s (t :: ts) = (if isF s t then { t with w := w } else t) :: mark w s ts := rfl
    rw [e, pairsW_cons, pairsW_cons, ih]
    by_cases h : isF s t = true
    · have h2 := isF_iff.mp h
      rw [if_pos h, if_neg (by exact hw), if_pos h2.1, List.filter_cons, if_neg (by simp [h2.2])]
    · rw [if_neg h]
      by_cases h3 : t.w = .file
      · have h4 : t.s ≠ s := fun e => h (isF_iff.mpr ⟨h3, e⟩)
        rw [if_pos h3, if_pos h3, List.filter_cons, if_pos (by simp [h4])]
      · rw [if_neg h3, if_neg h3]
theorem filesG_mark (s : Int) (gs : List Rg) : pairsW .file (allT (gs.map (markR s))) = (pairsW .file (allT gs)).filter fun p => !decide (p.1 = s) := by
  induction gs with
  | nil => rfl
  | cons g gs ih =>
    rw [List.map_cons, allT_cons, allT_cons, pairsW_append, pairsW_append, ih, pairsW_append, pairsW_append, List.filter_append, List.filter_append]
    show pairsW .file (mark .hole s g.p) ++ pairsW .file (mark .gone s g.m) ++ _ = _
    rw [files_mark .hole (fun z => nomatch z), files_mark .gone (fun z => nomatch z)]
/-- the deed may be done -/
def DeedOk (gs : List Rg) : Dd → Prop
  | .put z => 1 ≤ z ∧ z ≤ 4096
  | .drop s => s ∈ (pairsW .file (allT gs)).map (·.1)
def newN (n : Int) : Dd → Int
  | .put _ => n + 1
  | .drop _ => n
def newFiles (n : Int) (fs : List (Int × Int)) : Dd → List (Int × Int)
  | .put z => (n, z) :: fs
  | .drop s => fs.filter fun p => !decide (p.1 = s)
theorem file_at {gs : List Rg} {s : Int} (h : s ∈ (pairsW .file (allT gs)).map (·.1)) : ∃ t ∈ allT gs, isF s t = true := by
  obtain ⟨p, hp, rfl⟩ := List.mem_map.mp h
  obtain ⟨t, ht, hw, rfl⟩ := mem_pairsW.mp hp
  exact ⟨t, ht, isF_iff.mpr ⟨hw, rfl⟩⟩
theorem files_put {gs : List Rg} {q z : Int} {i : Nat} (t : Th) (h : spot q z gs = some i) : (pairsW .file (allT (putAt i t gs))).Perm (if t.w = .file then (t.s, t.z) :: pairsW .file (allT gs) else pairsW .file (allT gs)) := by
  obtain ⟨A, g, B, rfl, _, _, _, hp⟩ := spot_split h
  rw [hp]
  refine (pairsW_perm (allT_add A g B t)).trans ?_
  rw [pairsW_cons]
theorem len_put {gs : List Rg} {q z : Int} {i : Nat} (t : Th) (h : spot q z gs = some i) : (allT (putAt i t gs)).length = (allT gs).length + 1 := by
  obtain ⟨A, g, B, rfl, _, _, _, hp⟩ := spot_split h
  rw [hp, (allT_add A g B t).length_eq, List.length_cons]
theorem done_put_some {q n z : Int} {gs : List Rg} {i : Nat} (h : spot q z gs = some i) : doneM q n gs (.put z) = putAt i ⟨.file, n, z⟩ gs := by
  show (lay q ⟨.file, n, z⟩ gs).getD _ = _
  unfold lay
  rw [show spot q (Th.mk Wd.file n z).z gs = some i from h]; rfl
theorem done_put_none {q n z : Int} {gs : List Rg} (h : spot q z gs = none) : doneM q n gs (.put z) = anewF gs (bgn gs z) ((n, z) :: filesIn (bgn gs z) none gs) := by
  show (lay q ⟨.file, n, z⟩ gs).getD _ = _
  unfold lay
  rw [show spot q (Th.mk Wd.file n z).z gs = none from h]; rfl
theorem done_drop_room {q n s : Int} {gs : List Rg} (h : isHole s gs = false) : doneM q n gs (.drop s) = gs.map (markR s) := by
  show (if isHole s gs then _ else _) = _
  rw [h]; rfl
theorem done_drop_some {q n s : Int} {gs : List Rg} {i : Nat} (h : isHole s gs = true) (hi : spot q (sizeOf s gs) gs = some i) : doneM q n gs (.drop s) = putAt i ⟨.shade, s, sizeOf s gs⟩ (gs.map (markR s)) := by
  show (if isHole s gs then (lay q ⟨.shade, s, sizeOf s gs⟩ (gs.map (markR s))).getD _ else _) = _
  rw [h]
  unfold lay
  rw [show spot q (Th.mk Wd.shade s (sizeOf s gs)).z (gs.map (markR s)) = some i from (spot_mark _ _ _ _).trans hi]; rfl
theorem done_drop_none {q n s : Int} {gs : List Rg} (h : isHole s gs = true) (hi : spot q (sizeOf s gs) gs = none) : doneM q n gs (.drop s) = anewF gs (bgn gs (sizeOf s gs)) (filesIn (bgn gs (sizeOf s gs)) (some s) gs) := by
  show (if isHole s gs then (lay q ⟨.shade, s, sizeOf s gs⟩ (gs.map (markR s))).getD _ else _) = _
  rw [h]
  unfold lay
  rw [show spot q (Th.mk Wd.shade s (sizeOf s gs)).z (gs.map (markR s)) = none from (spot_mark _ _ _ _).trans hi]; rfl
/-- what a deed keeps -/
theorem done_ok {q n : Int} {gs : List Rg} {d : Dd} (L : Lawful q n gs) (q0 : 0 < q) (n0 : 0 ≤ n) (hl : (allT gs).length < 200) (D : DeedOk gs d) :
    Lawful q (newN n d) (doneM q n gs d) ∧ (allT (doneM q n gs d)).length ≤ (allT gs).length + 1 ∧ (pairsW .file (allT (doneM q n gs d))).Perm (newFiles n (pairsW .file (allT gs)) d) := by
  cases d with
  | put z =>
    obtain ⟨z1, z2⟩ : 1 ≤ z ∧ z ≤ 4096 := D
    show Lawful q (n + 1) _ ∧ _
    cases h : spot q z gs with
    | some i =>
      rw [done_put_some h]
      refine ⟨lawful_put L n0 z1 z2 h hl, ?_, ?_⟩
      · rw [len_put _ h]; exact Nat.le_refl _
      · exact files_put _ h
    | none =>
      obtain ⟨b1, b2⟩ := bgn_ok (q := q) (n := n) (gs := gs) z2
      have F := filesOk_put L n0 z1 z2 b1 b2 hl
      rw [done_put_none h, filesIn_none]
      have P := anewF_perm (gs := gs) (b := bgn gs z) (fs := (n, z) :: pairsW .file (allT (hiG gs (bgn gs z)))) fun f hf => (F.z f hf).2
      have hlen := (lohi gs (bgn gs z)).length_eq
      refine ⟨lawful_anewF L q0 (by omega) b1 F, ?_, ?_⟩
      · rw [P.length_eq, List.length_append, List.length_map, List.length_cons]
        have := pairsW_len .file (allT (hiG gs (bgn gs z)))
        rw [List.length_append] at hlen
        omega
      · refine (pairsW_perm P).trans ?_
        rw [pairsW_append, pairsF_mkF]
        refine List.perm_middle.trans (List.Perm.cons _ ?_)
        rw [← pairsW_append]
        exact pairsW_perm (lohi gs _)
  | drop s =>
    obtain ⟨t, ht, hs⟩ := file_at D
    have sz := size_one L.law0 ht hs
    obtain ⟨g0, hg0, ht0⟩ := mem_allT.mp ht
    have T : 1 ≤ t.z ∧ t.z ≤ 4096 := by
      rcases ht0 with h | h
      · exact ((L.rg g0 hg0).p t h).2.2.2
      · exact ((L.rg g0 hg0).m t h).2.2.2
    show Lawful q n _ ∧ _ ∧ (pairsW .file _).Perm ((pairsW .file (allT gs)).filter fun p => !decide (p.1 = s))
    cases hh : isHole s gs with
    | false =>
      rw [done_drop_room hh]
      refine ⟨lawful_mark L s hh, by rw [allT_mark_len]; omega, ?_⟩
      rw [filesG_mark]
    | true =>
      cases h : spot q (sizeOf s gs) gs with
      | some i =>
        rw [done_drop_some hh h]
        refine ⟨lawful_shade L s hh rfl h hl, ?_, ?_⟩
        · rw [← spot_mark q (sizeOf s gs) s gs] at h
          rw [len_put _ h, allT_mark_len]; exact Nat.le_refl _
        · rw [← spot_mark q (sizeOf s gs) s gs] at h
          refine (files_put _ h).trans ?_
          rw [if_neg (fun z => nomatch z), filesG_mark]
      | none =>
        obtain ⟨b1, b2⟩ := bgn_ok (q := q) (n := n) (gs := gs) (z := sizeOf s gs) (by omega)
        have F := filesOk_of (n' := n) (fs := filesIn (bgn gs (sizeOf s gs)) (some s) gs) L (Int.le_refl _) b1 (by rw [filesIn_some]; exact List.filter_sublist)
        rw [done_drop_none hh h]
        have P := anewF_perm (gs := gs) (b := bgn gs (sizeOf s gs)) (fs := filesIn (bgn gs (sizeOf s gs)) (some s) gs) fun f hf => (F.z f hf).2
        have hlen := (lohi gs (bgn gs (sizeOf s gs))).length_eq
        refine ⟨lawful_anewF L q0 (Int.le_refl _) b1 F, ?_, ?_⟩
        · rw [P.length_eq, List.length_append, List.length_map, filesIn_some]
          have h1 := pairsW_len .file (allT (hiG gs (bgn gs (sizeOf s gs))))
          have h2 := List.length_filter_le (fun p : Int × Int => !decide (p.1 = s)) (pairsW .file (allT (hiG gs (bgn gs (sizeOf s gs)))))
          rw [List.length_append] at hlen
          omega
        · refine (pairsW_perm P).trans ?_
          rw [pairsW_append, pairsF_mkF, filesIn_some]
          -- the file lies in the payload of its rank, so not below
          obtain ⟨t', ht', hs'⟩ := isHole_iff.mp hh
          have et : t' = t := one_file L.ser (pay_mem ht') ht (isF_ne hs') (isF_ne hs) ((isF_iff.mp hs').2.trans (isF_iff.mp hs).2.symm)
          obtain ⟨g1, hg1, hp1⟩ := List.mem_flatMap.mp ht'
          have hr1 := (L.rkd g1 hg1).p t' hp1
          have hhi : t ∈ allT (hiG gs (bgn gs (sizeOf s gs))) := by
            rw [← et]
            refine mem_allT.mpr ⟨g1, mem_hi.mpr ⟨hg1, ?_⟩, .inl hp1⟩
            rw [← hr1, et]
            rw [sz] at b2 ⊢
            exact b2
          have nlo : s ∉ (pairsW .file (allT (loG gs (bgn gs (sizeOf s gs))))).map (·.1) := fun hm => by
            have nd := ser_lohi (b := bgn gs (sizeOf s gs)) L
            rw [List.nodup_append] at nd
            exact nd.2.2 s ((pairsF_sub _).mem hm) s (mem_serials.mpr ⟨t, hhi, isF_ne hs, (isF_iff.mp hs).2⟩) rfl
          rw [← filter_ne_self nlo, ← List.filter_append, ← pairsW_append]
          exact (pairsW_perm (lohi gs _)).filter _
end K76
set_option maxRecDepth 100000
namespace K76
/-! ### the amortised bound -/
/-- a price list: at least nought, rising, and no dearer than in parts -/
structure Pr (f : Int → Int) (N : Int) : Prop where
  nn : ∀ x, 1 ≤ x → x ≤ N → 0 ≤ f x
  mono : ∀ x y, 1 ≤ x → x ≤ y → y ≤ N → f x ≤ f y
  sub : ∀ x y, 1 ≤ x → 1 ≤ y → x + y ≤ N → f (x + y) ≤ f x + f y
theorem rk_lo {z : Int} (h : 1 ≤ z) : (2 : Int) ^ (rk z).toNat ≤ z := by
  unfold rk
  rw [Int.toNat_natCast]
  have := Nat.log2_self_le (n := z.toNat) (by omega)
  have h2 : ((2 ^ Nat.log2 z.toNat : Nat) : Int) ≤ (z.toNat : Int) := by exact_mod_cast this
  rw [Int.natCast_pow] at h2
  have : (z.toNat : Int) = z := by omega
  rw [this] at h2
  exact h2
theorem rk_hi {z : Int} : z < (2 : Int) ^ ((rk z).toNat + 1) := by
  unfold rk
  rw [Int.toNat_natCast]
  have := Nat.lt_log2_self (n := z.toNat)
  have h2 : (z.toNat : Int) < ((2 ^ (Nat.log2 z.toNat + 1) : Nat) : Int) := by exact_mod_cast this
  rw [Int.natCast_pow] at h2
  have h3 : z ≤ (z.toNat : Int) := by omega
  exact Int.lt_of_le_of_lt h3 h2
theorem two_pow_le {a b : Nat} (h : a ≤ b) : (2 : Int) ^ a ≤ 2 ^ b := by
  have := Nat.pow_le_pow_right (n := 2) (by omega) h
  have h2 : ((2 ^ a : Nat) : Int) ≤ ((2 ^ b : Nat) : Int) := by exact_mod_cast this
  rw [Int.natCast_pow, Int.natCast_pow] at h2
  exact h2
theorem pr_ratio {f : Int → Int} {N u : Int} (F : Pr f N) (hu : 1 ≤ u) (huN : u ≤ N) : ∀ (k : Nat) (t : Int), t.toNat ≤ k → 1 ≤ t → t ≤ N → f t * u ≤ (t + u) * f u := by
  intro k
  induction k with
  | zero => intro t h1 h2; omega
  | succ k ih =>
    intro t h1 h2 h3
    have fu := F.nn u hu huN
    by_cases h : t ≤ u
    · have h4 := F.mono t u h2 h huN
      have h5 : f t * u ≤ f u * u := Int.mul_le_mul_of_nonneg_right h4 (by omega)
      have h6 : 0 ≤ t * f u := Int.mul_nonneg (by omega) fu
      rw [Int.add_mul, Int.mul_comm u (f u)]
      omega
    · have h4 := F.sub u (t - u) hu (by omega) (by omega)
      have h5 := ih (t - u) (by omega) (by omega) (by omega)
      rw [show u + (t - u) = t by omega] at h4
      rw [show t - u + u = t by omega] at h5
      have h6 : f t * u ≤ (f u + f (t - u)) * u := Int.mul_le_mul_of_nonneg_right h4 (by omega)
      rw [Int.add_mul] at h6
      rw [Int.add_mul, Int.mul_comm u (f u)]
      omega
theorem pr_two {f : Int → Int} {N u t : Int} (F : Pr f N) (hu : 1 ≤ u) (huN : u ≤ N) (ht : 1 ≤ t) (htN : t ≤ N) (hr : rk u ≤ rk t) : f t * u ≤ 2 * t * f u := by
  have fu := F.nn u hu huN
  have h2 : u ≤ 2 * t := by
    have h3 := rk_hi (z := u)
    have h4 := rk_lo ht
    have h5 : (2 : Int) ^ ((rk u).toNat + 1) ≤ 2 ^ ((rk t).toNat + 1) := two_pow_le (by omega)
    rw [Int.pow_succ _ (rk t).toNat] at h5
    omega
  by_cases h : u ≤ t
  · have h1 := pr_ratio F hu huN t.toNat t (Nat.le_refl _) ht htN
    have h3 : (t + u) * f u ≤ (2 * t) * f u := Int.mul_le_mul_of_nonneg_right (by omega) fu
    omega
  · have h4 := F.mono t u ht (by omega) huN
    have h5 : f t * u ≤ f u * u := Int.mul_le_mul_of_nonneg_right h4 (by omega)
    have h6 : u * f u ≤ (2 * t) * f u := Int.mul_le_mul_of_nonneg_right h2 fu
    rw [Int.mul_comm u (f u)] at h6
    omega
/-- what the things cost -/
def cst (f : Int → Int) (ts : List Th) : Int := (ts.map fun t => f t.z).sum
theorem cst_cons (f : Int → Int) (t : Th) (ts : List Th) : cst f (t :: ts) = f t.z + cst f ts := by unfold cst; simp
theorem cst_append (f : Int → Int) (xs ys : List Th) : cst f (xs ++ ys) = cst f xs + cst f ys := by unfold cst; simp
theorem cst_nn {f : Int → Int} {N : Int} (F : Pr f N) : ∀ {ts : List Th}, (∀ t ∈ ts, 1 ≤ t.z ∧ t.z ≤ N) → 0 ≤ cst f ts
  | [], _ => by simp [cst]
  | t :: ts, h => by
    rw [cst_cons]
    have := F.nn t.z (h t List.mem_cons_self).1 (h t List.mem_cons_self).2
    have := cst_nn F fun u hu => h u (List.mem_cons_of_mem _ hu)
    omega
theorem pay_ratio {f : Int → Int} {N u r : Int} (F : Pr f N) (hu : 1 ≤ u) (huN : u ≤ N) (hur : rk u ≤ r) : ∀ {ts : List Th}, (∀ t ∈ ts, 1 ≤ t.z ∧ t.z ≤ N) → (∀ t ∈ ts, rk t.z = r) → cst f ts * u ≤ 2 * cells ts * f u
  | [], _, _ => by simp [cst, cells]
  | t :: ts, h, hr => by
    have h1 := pr_two F hu huN (h t List.mem_cons_self).1 (h t List.mem_cons_self).2 (by rw [hr t List.mem_cons_self]; exact hur)
    have h2 := pay_ratio F hu huN hur (fun u hu => h u (List.mem_cons_of_mem _ hu)) (fun u hu => hr u (List.mem_cons_of_mem _ hu))
    rw [cst_cons, cells_cons, Int.add_mul, Int.mul_add, Int.add_mul]
    omega
theorem room_ratio {f : Int → Int} {N r P C : Int} (H : ∀ u, 1 ≤ u → u ≤ N → rk u ≤ r → P * u ≤ 2 * C * f u) : ∀ {ms : List Th}, (∀ t ∈ ms, 1 ≤ t.z ∧ t.z ≤ N) → (∀ t ∈ ms, rk t.z ≤ r) → P * cells ms ≤ 2 * C * cst f ms
  | [], _, _ => by simp [cst, cells]
  | t :: ts, h, hr => by
    have h1 := H t.z (h t List.mem_cons_self).1 (h t List.mem_cons_self).2 (hr t List.mem_cons_self)
    have h2 := room_ratio H (fun u hu => h u (List.mem_cons_of_mem _ hu)) (fun u hu => hr u (List.mem_cons_of_mem _ hu))
    rw [cst_cons, cells_cons, Int.mul_add, Int.mul_add]
    omega
/-- a region from whose payload x is charged, or its own room -/
theorem region_cost {f : Int → Int} {N q n x : Int} {L : Nat} {g : Rg} (F : Pr f N) (q1 : 0 < q) (hL : q ≤ 2 ^ L) (G : RgOk n g) (R : Ranked q g) (hN : ∀ t ∈ g.p ++ g.m, t.z ≤ N) (x1 : 1 ≤ x) (xN : x ≤ N) (hx : rk x ≤ g.r) (hf : free q g < x) :
    cst f g.p ≤ 4 * q * cst f g.m ∨ (cst f g.p ≤ 4 * q * f x ∧ g.r ≤ rk x + L + 1) := by
  have hp : ∀ t ∈ g.p, 1 ≤ t.z ∧ t.z ≤ N := fun t ht => ⟨(G.p t ht).2.2.2.1, hN t (List.mem_append_left _ ht)⟩
  have hm : ∀ t ∈ g.m, 1 ≤ t.z ∧ t.z ≤ N := fun t ht => ⟨(G.m t ht).2.2.2.1, hN t (List.mem_append_right _ ht)⟩
  have H : ∀ u, 1 ≤ u → u ≤ N → rk u ≤ g.r → cst f g.p * u ≤ 2 * cells g.p * f u := fun u h1 h2 h3 => pay_ratio F h1 h2 h3 hp R.p
  have cp0 : 0 ≤ cells g.p := cells_nonneg fun t ht => by have := (hp t ht).1; omega
  have cm0 : 0 ≤ cells g.m := cells_nonneg fun t ht => by have := (hm t ht).1; omega
  have hc : cells g.p < q * (x + cells g.m) := by
    unfold free at hf
    have h1 : cells g.p / q ≤ x + cells g.m - 1 := by omega
    have h2 := Int.lt_mul_ediv_self_add (x := cells g.p) q1
    have h3 : q * (cells g.p / q) ≤ q * (x + cells g.m - 1) := Int.mul_le_mul_of_nonneg_left h1 (by omega)
    rw [Int.mul_sub, Int.mul_one] at h3
    omega
  by_cases hu : x ≤ cells g.m
  · left
    have h1 := room_ratio H hm R.m
    have h2 : cells g.p ≤ 2 * q * cells g.m := by
      have : q * (x + cells g.m) ≤ q * (2 * cells g.m) := Int.mul_le_mul_of_nonneg_left (by omega) (by omega)
      rw [Int.mul_left_comm] at this
      rw [Int.mul_assoc]
      omega
    have fm := cst_nn F hm
    have h3 : 2 * cells g.p * cst f g.m ≤ 2 * (2 * q * cells g.m) * cst f g.m := Int.mul_le_mul_of_nonneg_right (by omega) fm
    have h4 : 2 * (2 * q * cells g.m) * cst f g.m = (4 * q * cst f g.m) * cells g.m := by
      rw [← Int.mul_assoc, ← Int.mul_assoc, show (2 : Int) * 2 = 4 from rfl, Int.mul_assoc (4 * q), Int.mul_comm (cells g.m), ← Int.mul_assoc]
    rw [h4] at h3
    exact Int.le_of_mul_le_mul_right (Int.le_trans h1 h3) (by omega)
  · right
    have h1 := H x x1 xN hx
    have h2 : cells g.p < 2 * q * x := by
      have : q * (x + cells g.m) ≤ q * (2 * x) := Int.mul_le_mul_of_nonneg_left (by omega) (by omega)
      rw [Int.mul_left_comm] at this
      rw [Int.mul_assoc]
      omega
    have fx := F.nn x x1 xN
    constructor
    · have h3 : 2 * cells g.p * f x ≤ 2 * (2 * q * x) * f x := Int.mul_le_mul_of_nonneg_right (by omega) fx
      have h4 : 2 * (2 * q * x) * f x = (4 * q * f x) * x := by
        rw [← Int.mul_assoc, ← Int.mul_assoc, show (2 : Int) * 2 = 4 from rfl, Int.mul_assoc (4 * q), Int.mul_comm x, ← Int.mul_assoc]
      rw [h4] at h3
      exact Int.le_of_mul_le_mul_right (Int.le_trans h1 h3) (by omega)
    · -- 2 ^ r ≤ cells p < 2 q x < 2 ^ (L + 2 + rk x)
      have h3 : (2 : Int) ^ g.r.toNat ≤ cells g.p := by
        cases e : g.p with
        | nil => exact absurd e G.p0
        | cons t ts =>
          have ht : t ∈ g.p := by rw [e]; exact List.mem_cons_self
          have h4 := rk_lo (hp t ht).1
          rw [R.p t ht] at h4
          have h5 : 0 ≤ cells ts := cells_nonneg fun u hu => by have := (hp u (by rw [e]; exact List.mem_cons_of_mem _ hu)).1; omega
          rw [cells_cons]
          omega
      have h4 := rk_hi (z := x)
      have h5 : 2 * q * x ≤ 2 * 2 ^ L * 2 ^ ((rk x).toNat + 1) := Int.mul_le_mul (by omega) (by omega) (by omega) (by have := Int.pow_nonneg (n := 2) (m := L) (by omega); omega)
      have h6 : (2 : Int) * 2 ^ L * 2 ^ ((rk x).toNat + 1) = 2 ^ (L + (rk x).toNat + 2) := by
        rw [Int.mul_comm 2 (2 ^ L), ← Int.pow_succ, ← Int.pow_add]
        congr 1; omega
      rw [h6] at h5
      have h7 : (2 : Int) ^ g.r.toNat < 2 ^ (L + (rk x).toNat + 2) := by omega
      have h8 : g.r.toNat < L + (rk x).toNat + 2 := by
        refine Nat.lt_of_not_le fun hle => ?_
        have := two_pow_le hle
        omega
      have := rk_nonneg x
      have := G.r0
      omega
/-- why the walk down came so low -/
theorem iter_why (gs : List Rg) (c : Int) : ∀ (n : Nat) (b : Int), iterB gs n b ≤ c → c < b → ∃ h ∈ gs, ∃ t ∈ h.m, c < h.r ∧ rk t.z ≤ c
  | 0, b, h1, h2 => by rw [iterB] at h1; omega
  | n + 1, b, h1, h2 => by
    rw [iterB] at h1
    by_cases h : c < stepB gs b
    · exact iter_why gs c n (stepB gs b) h1 h
    · by_cases hl : lesserT gs b = []
      · rw [stepB_nil hl] at h; omega
      · obtain ⟨⟨t, ht, e⟩, _⟩ := stepB_cons hl
        obtain ⟨g, hg, a1, a2, _⟩ := lesser_mem.mp ht
        exact ⟨g, hg, t, a2, by omega, by omega⟩
def Fm (f : Int → Int) (gs : List Rg) : Int := (gs.map fun g => cst f g.m).sum
def Fp (f : Int → Int) (gs : List Rg) : Int := (gs.map fun g => cst f g.p).sum
def roomT (gs : List Rg) : List Th := gs.flatMap Rg.m
theorem Fm_cons (f : Int → Int) (g : Rg) (gs : List Rg) : Fm f (g :: gs) = cst f g.m + Fm f gs := by unfold Fm; simp
theorem Fp_cons (f : Int → Int) (g : Rg) (gs : List Rg) : Fp f (g :: gs) = cst f g.p + Fp f gs := by unfold Fp; simp
theorem Fm_room (f : Int → Int) : ∀ gs : List Rg, Fm f gs = cst f (roomT gs)
  | [] => rfl
  | g :: gs => by rw [Fm_cons, Fm_room f gs]; unfold roomT; rw [List.flatMap_cons, cst_append]
/-- the x that serve rank r -/
def serv (L : Nat) (r x : Int) : Bool := decide (rk x ≤ r) && decide (r ≤ rk x + L + 1)
def servS (f : Int → Int) (L : Nat) (r : Int) (xs : List Int) : Int := ((xs.filter (serv L r)).map f).sum
theorem servS_cons (f : Int → Int) (L : Nat) (r x : Int) (xs : List Int) : servS f L r (x :: xs) = (if serv L r x then f x else 0) + servS f L r xs := by
  unfold servS
  rw [List.filter_cons]
  split <;> simp
theorem servS_nn {f : Int → Int} {N : Int} (F : Pr f N) (L : Nat) (r : Int) : ∀ {xs : List Int}, (∀ x ∈ xs, 1 ≤ x ∧ x ≤ N) → 0 ≤ servS f L r xs
  | [], _ => by simp [servS]
  | x :: xs, h => by
    rw [servS_cons]
    have := servS_nn F L r fun y hy => h y (List.mem_cons_of_mem _ hy)
    have := F.nn x (h x List.mem_cons_self).1 (h x List.mem_cons_self).2
    split <;> omega
theorem servS_mem {f : Int → Int} {N : Int} (F : Pr f N) (L : Nat) (r : Int) {x : Int} : ∀ {xs : List Int}, (∀ x ∈ xs, 1 ≤ x ∧ x ≤ N) → x ∈ xs → serv L r x = true → f x ≤ servS f L r xs
  | y :: xs, h, hx, hs => by
    rw [servS_cons]
    have h1 := servS_nn F L r fun y hy => h y (List.mem_cons_of_mem _ hy)
    have h2 := F.nn y (h y List.mem_cons_self).1 (h y List.mem_cons_self).2
    rcases List.mem_cons.mp hx with rfl | hx
    · rw [if_pos hs]; omega
    · have := servS_mem F L r (fun y hy => h y (List.mem_cons_of_mem _ hy)) hx hs
      split <;> omega
theorem serv_count (L : Nat) (x : Int) {rs : List Int} (h : rs.Pairwise (· < ·)) : ((rs.filter fun r => serv L r x).length : Int) ≤ L + 2 := by
  have := asc_len (rs.filter fun r => serv L r x) (rk x) (rk x + L + 1) (h.sublist List.filter_sublist) (fun r hr => by
    have := (List.mem_filter.mp hr).2
    unfold serv at this
    simpa using this) (by omega)
  omega
theorem sum_if (p : Int → Bool) (c : Int) : ∀ rs : List Int, (rs.map fun r => if p r then c else 0).sum = ((rs.filter p).length : Int) * c
  | [] => by simp
  | r :: rs => by
    rw [List.map_cons, List.sum_cons, sum_if p c rs, List.filter_cons]
    split
    · rw [List.length_cons]; push_cast; rw [Int.add_mul]; omega
    · omega
theorem sum_add (f g : Int → Int) : ∀ rs : List Int, (rs.map fun r => f r + g r).sum = (rs.map f).sum + (rs.map g).sum
  | [] => rfl
  | r :: rs => by
    simp only [List.map_cons, List.sum_cons]
    rw [sum_add f g rs]; omega
theorem serv_sum {f : Int → Int} {N : Int} (F : Pr f N) (L : Nat) {rs : List Int} (hr : rs.Pairwise (· < ·)) : ∀ {xs : List Int}, (∀ x ∈ xs, 1 ≤ x ∧ x ≤ N) → (rs.map fun r => servS f L r xs).sum ≤ (L + 2) * (xs.map f).sum
  | [], _ => by
    have : (rs.map fun r => servS f L r []) = rs.map fun _ => 0 := rfl
    rw [this]
    have : ∀ l : List Int, (l.map fun _ => (0 : Int)).sum = 0 := fun l => by induction l with
      | nil => rfl
      | cons a l ih => rw [List.map_cons, List.sum_cons, ih]; rfl
    rw [this]; simp
  | x :: xs, h => by
    have h1 := serv_sum F L hr fun y hy => h y (List.mem_cons_of_mem _ hy)
    have e : (rs.map fun r => servS f L r (x :: xs)) = rs.map fun r => (if serv L r x then f x else 0) + servS f L r xs := List.map_congr_left fun r _ => servS_cons f L r x xs
    rw [e, sum_add, sum_if (fun r => serv L r x) (f x), List.map_cons, List.sum_cons, Int.mul_add]
    have h2 := serv_count L x hr
    have h3 : ((rs.filter fun r => serv L r x).length : Int) * f x ≤ (L + 2) * f x := Int.mul_le_mul_of_nonneg_right h2 (F.nn x (h x List.mem_cons_self).1 (h x List.mem_cons_self).2)
    omega
theorem sum_regions {f : Int → Int} {q : Int} {L : Nat} {xs : List Int} : ∀ {hs : List Rg}, (∀ g ∈ hs, cst f g.p ≤ 4 * q * cst f g.m + 4 * q * servS f L g.r xs) → Fp f hs ≤ 4 * q * Fm f hs + 4 * q * ((hs.map Rg.r).map fun r => servS f L r xs).sum
  | [], _ => by simp [Fp, Fm]
  | g :: hs, h => by
    have h1 := sum_regions fun x hx => h x (List.mem_cons_of_mem _ hx)
    have h2 := h g List.mem_cons_self
    rw [Fp_cons, Fm_cons, List.map_cons, List.map_cons, List.sum_cons, Int.mul_add, Int.mul_add]
    omega
/-- the payloads that a tidying copies -/
theorem tidy_cost {f : Int → Int} {N q n z : Int} {L : Nat} {gs : List Rg} (F : Pr f N) (q1 : 0 < q) (hL : q ≤ 2 ^ L) (W : Lawful q n gs) (hN : ∀ t ∈ allT gs, t.z ≤ N) (z1 : 1 ≤ z) (zN : z ≤ N) (hz : spot q z gs = none) :
    Fp f (hiG gs (bgn gs z)) ≤ 4 * q * ((L + 3) * (Fm f (hiG gs (bgn gs z))) + (L + 2) * f z) := by
  have Z := spot_none hz
  have xs1 : ∀ x ∈ z :: (roomT (hiG gs (bgn gs z))).map Th.z, 1 ≤ x ∧ x ≤ N := fun x hx => by
    rcases List.mem_cons.mp hx with rfl | hx
    · exact ⟨z1, zN⟩
    · obtain ⟨t, ht, rfl⟩ := List.mem_map.mp hx
      obtain ⟨g, hg, ht⟩ := List.mem_flatMap.mp ht
      have hg' := (mem_hi.mp hg).1
      exact ⟨((W.rg g hg').m t ht).2.2.2.1, hN t (mem_allT.mpr ⟨g, hg', .inr ht⟩)⟩
  have step : ∀ g ∈ hiG gs (bgn gs z), cst f g.p ≤ 4 * q * cst f g.m + 4 * q * servS f L g.r (z :: (roomT (hiG gs (bgn gs z))).map Th.z) := fun g hg => by
    obtain ⟨hg1, hg2⟩ := mem_hi.mp hg
    have G := W.rg g hg1
    have R := W.rkd g hg1
    have gN : ∀ t ∈ g.p ++ g.m, t.z ≤ N := fun t ht => hN t (mem_allT.mpr ⟨g, hg1, List.mem_append.mp ht⟩)
    have fm : 0 ≤ cst f g.m := cst_nn F fun t ht => ⟨(G.m t ht).2.2.2.1, gN t (List.mem_append_right _ ht)⟩
    have sm := servS_nn F L g.r xs1
    have q4 : (0 : Int) ≤ 4 * q := by omega
    have p1 : 0 ≤ 4 * q * cst f g.m := Int.mul_nonneg q4 fm
    have p2 : 0 ≤ 4 * q * servS f L g.r (z :: (roomT (hiG gs (bgn gs z))).map Th.z) := Int.mul_nonneg q4 sm
    obtain ⟨x, hx, hxr, hxf⟩ : ∃ x ∈ z :: (roomT (hiG gs (bgn gs z))).map Th.z, rk x ≤ g.r ∧ free q g < x := by
      by_cases hr : rk z ≤ g.r
      · refine ⟨z, List.mem_cons_self, hr, ?_⟩
        have := Z g hg1
        unfold fits at this
        rw [decide_eq_true hr, Bool.true_and, decide_eq_false_iff_not] at this
        omega
      · obtain ⟨h, hh, t, ht, c1, c2⟩ := iter_why gs g.r 14 (rk z) hg2 (by omega)
        refine ⟨t.z, List.mem_cons_of_mem _ (List.mem_map.mpr ⟨t, List.mem_flatMap.mpr ⟨h, mem_hi.mpr ⟨hh, by omega⟩, ht⟩, rfl⟩), c2, ?_⟩
        have P := passed_pw.mp (passed_iff.mp W.passed)
        have A := W.asc
        rw [List.pairwise_iff_getElem] at P A
        obtain ⟨i, hi, ei⟩ := List.getElem_of_mem hg1
        obtain ⟨j, hj, ej⟩ := List.getElem_of_mem hh
        have hij : i < j := by
          rcases Nat.lt_trichotomy i j with h | h | h
          · exact h
          · subst h; rw [ei] at ej; subst ej; omega
          · have := A j i hj hi h
            rw [ei, ej] at this; omega
        have := P i j hi hj hij t (by rw [ej]; exact ht)
        rw [ei] at this
        have := fun k => this ⟨c2, k⟩
        omega
    obtain ⟨x1, xN⟩ := xs1 x hx
    rcases region_cost F q1 hL G R gN x1 xN hxr hxf with h | ⟨h, h2⟩
    · omega
    · have h3 : serv L g.r x = true := by unfold serv; rw [decide_eq_true hxr, decide_eq_true h2]; rfl
      have h4 := servS_mem F L g.r xs1 hx h3
      have h5 : 4 * q * f x ≤ 4 * q * servS f L g.r (z :: (roomT (hiG gs (bgn gs z))).map Th.z) := Int.mul_le_mul_of_nonneg_left h4 q4
      omega
  have h1 := sum_regions step
  have h2 := serv_sum F L (rs := (hiG gs (bgn gs z)).map Rg.r) (List.pairwise_map.mpr (W.asc.sublist List.filter_sublist)) xs1
  have h3 := Int.mul_le_mul_of_nonneg_left h2 (show (0 : Int) ≤ 4 * q by omega)
  have h4 : ((z :: (roomT (hiG gs (bgn gs z))).map Th.z).map f).sum = f z + Fm f (hiG gs (bgn gs z)) := by
    rw [List.map_cons, List.sum_cons, List.map_map, Fm_room]; rfl
  rw [h4] at h3
  refine Int.le_trans h1 (Int.le_trans (Int.add_le_add_left h3 _) (Int.le_of_eq ?_))
  rw [← Int.mul_add]
  congr 1
  rw [Int.mul_add]
  have e5 : ((L : Int) + 3) * Fm f (hiG gs (bgn gs z)) = (L + 2) * Fm f (hiG gs (bgn gs z)) + Fm f (hiG gs (bgn gs z)) := by
    rw [show ((L : Int) + 3) = (L + 2) + 1 by omega, Int.add_mul, Int.one_mul]
  omega
end K76
set_option maxRecDepth 100000
namespace K76
/-! ### what the law's machine writes -/
def copStep (news : Int → Int) (b : Int) (drop : Option Int) (a : Int × List Int) (x : Sp5) : Int × List Int :=
  if b ≤ x.r ∧ some x.s ≠ drop then if x.m then (a.1, a.2 ++ [x.z, x.z]) else (a.1 + x.z, a.2 ++ List.replicate (ledN x.at_ a.1 x.z) x.z ++ List.replicate (ledN a.1 (news x.s) x.z) x.z) else a
def copiedM (q : Int) (gs later : List Rg) (b : Int) (drop : Option Int) : List Int := ((spots q 0 gs).foldl (copStep (newsM q later) b drop) (under q gs b, [])).2
def wrM (q n : Int) (gs : List Rg) : Dd → List Int
  | .put z => if spot q z gs = none then [z, z] ++ copiedM q gs (doneM q n gs (.put z)) (bgn gs z) none else [z]
  | .drop s => if isHole s gs = true ∧ spot q (sizeOf s gs) gs = none then copiedM q gs (doneM q n gs (.drop s)) (bgn gs (sizeOf s gs)) (some s) else []
def sizeD (gs : List Rg) : Dd → Int
  | .put z => z
  | .drop s => sizeOf s gs
def wrAll (q : Int) : Int → List Rg → List Dd → List Int
  | _, _, [] => []
  | n, gs, d :: ds => wrM q n gs d ++ wrAll q (newN n d) (doneM q n gs d) ds
def szAll (q : Int) : Int → List Rg → List Dd → List Int
  | _, _, [] => []
  | n, gs, d :: ds => sizeD gs d :: szAll q (newN n d) (doneM q n gs d) ds
/-- the deeds may be done one after the other, sizes to N -/
def RunOk (q N : Int) : Int → List Rg → List Dd → Prop
  | _, _, [] => True
  | n, gs, d :: ds => DeedOk gs d ∧ sizeD gs d ≤ N ∧ RunOk q N (newN n d) (doneM q n gs d) ds
def sumf (f : Int → Int) (l : List Int) : Int := (l.map f).sum
theorem sumf_append (f : Int → Int) (xs ys : List Int) : sumf f (xs ++ ys) = sumf f xs + sumf f ys := by unfold sumf; simp
theorem sumf_rep (f : Int → Int) (k : Nat) (z : Int) : sumf f (List.replicate k z) = k * f z := by
  induction k with
  | zero => simp [sumf]
  | succ k ih =>
    have e : sumf f (List.replicate (k + 1) z) = f z + sumf f (List.replicate k z) := by unfold sumf; rw [List.replicate_succ, List.map_cons, List.sum_cons]
    rw [e, ih]; push_cast; rw [Int.add_mul]; omega
theorem ledN_le (a b z : Int) : ledN a b z ≤ 2 := by
  unfold ledN
  by_cases h : a = b
  · rw [if_pos h]; omega
  · rw [if_neg h]
    by_cases h2 : (if a - b < 0 then -(a - b) else a - b) < z
    · rw [if_pos h2]; exact Nat.le_refl _
    · rw [if_neg h2]; omega
def wS (f : Int → Int) (b : Int) (x : Sp5) : Int := if b ≤ x.r then (if x.m then 2 * f x.z else 4 * f x.z) else 0
theorem cop_le {f : Int → Int} {news : Int → Int} {b : Int} {drop : Option Int} : ∀ {xs : List Sp5} {a : Int × List Int}, (∀ x ∈ xs, 0 ≤ f x.z) → sumf f (xs.foldl (copStep news b drop) a).2 ≤ sumf f a.2 + (xs.map (wS f b)).sum
  | [], a, _ => by simp
  | x :: xs, a, h => by
    have h1 := cop_le (f := f) (news := news) (b := b) (drop := drop) (xs := xs) (a := copStep news b drop a x) fun y hy => h y (List.mem_cons_of_mem _ hy)
    have h0 := h x List.mem_cons_self
    rw [List.foldl_cons, List.map_cons, List.sum_cons]
    have h2 : sumf f (copStep news b drop a x).2 ≤ sumf f a.2 + wS f b x := by
      unfold copStep wS
      by_cases hb : b ≤ x.r ∧ some x.s ≠ drop
      · rw [if_pos hb, if_pos hb.1]
        cases x.m with
        | true =>
          show sumf f (a.2 ++ [x.z, x.z]) ≤ _ + 2 * f x.z
          rw [sumf_append]
          have : sumf f [x.z, x.z] = f x.z + f x.z := by simp [sumf]
          omega
        | false =>
          show sumf f (a.2 ++ List.replicate (ledN x.at_ a.1 x.z) x.z ++ List.replicate (ledN a.1 (news x.s) x.z) x.z) ≤ _ + 4 * f x.z
          rw [sumf_append, sumf_append, sumf_rep, sumf_rep]
          have l1 := ledN_le x.at_ a.1 x.z
          have l2 := ledN_le a.1 (news x.s) x.z
          have m1 : (ledN x.at_ a.1 x.z : Int) * f x.z ≤ 2 * f x.z := Int.mul_le_mul_of_nonneg_right (by omega) h0
          have m2 : (ledN a.1 (news x.s) x.z : Int) * f x.z ≤ 2 * f x.z := Int.mul_le_mul_of_nonneg_right (by omega) h0
          omega
      · rw [if_neg hb]
        split
        · split <;> omega
        · omega
    omega
theorem wS_T {f : Int → Int} {b r : Int} {m : Bool} : ∀ {ts : List Th} {a : Int}, (∀ t ∈ ts, 0 ≤ f t.z) → ((spotsT r m a ts).map (wS f b)).sum ≤ if b ≤ r then (if m then 2 * cst f ts else 4 * cst f ts) else 0
  | [], a, _ => by
    show (([] : List Sp5).map (wS f b)).sum ≤ _
    split
    · split <;> simp [cst]
    · simp
  | t :: ts, a, h => by
    have h1 := wS_T (f := f) (b := b) (r := r) (m := m) (ts := ts) (a := a + t.z) fun u hu => h u (List.mem_cons_of_mem _ hu)
    have h0 := h t List.mem_cons_self
    rw [spotsT, List.map_append, List.sum_append, cst_cons]
    have h2 : (((if t.w = .file then [⟨t.s, a, t.z, r, m⟩] else [] : List Sp5)).map (wS f b)).sum ≤ if b ≤ r then (if m then 2 * f t.z else 4 * f t.z) else 0 := by
      by_cases hw : t.w = .file
      · rw [if_pos hw]
        simp [wS]
      · rw [if_neg hw]
        show (([] : List Sp5).map (wS f b)).sum ≤ _
        split
        · split
          · show (0 : Int) ≤ _; omega
          · show (0 : Int) ≤ _; omega
        · exact Int.le_refl _
    by_cases hb : b ≤ r
    · rw [if_pos hb] at h1 h2 ⊢
      cases m with
      | true =>
        simp only [if_true] at h1 h2 ⊢
        omega
      | false =>
        simp only [Bool.false_eq_true, if_false] at h1 h2 ⊢
        omega
    · rw [if_neg hb] at h1 h2 ⊢
      omega
theorem wS_G {f : Int → Int} {b q : Int} : ∀ {gs : List Rg} {a : Int}, (∀ t ∈ allT gs, 0 ≤ f t.z) → ((spots q a gs).map (wS f b)).sum ≤ 4 * Fp f (hiG gs b) + 2 * Fm f (hiG gs b)
  | [], a, _ => by simp [spots, hiG, Fp, Fm]
  | g :: gs, a, h => by
    have h1 := wS_G (f := f) (b := b) (q := q) (gs := gs) (a := a + cells g.p + cells g.p / q) fun t ht => h t (by rw [allT_cons]; exact List.mem_append_right _ ht)
    have hp := wS_T (f := f) (b := b) (r := g.r) (m := false) (ts := g.p) (a := a) fun t ht => h t (by rw [allT_cons]; exact List.mem_append_left _ (List.mem_append_left _ ht))
    have hm := wS_T (f := f) (b := b) (r := g.r) (m := true) (ts := g.m) (a := a + cells g.p) fun t ht => h t (by rw [allT_cons]; exact List.mem_append_left _ (List.mem_append_right _ ht))
    rw [spots, List.map_append, List.map_append, List.sum_append, List.sum_append]
    have e : hiG (g :: gs) b = if b ≤ g.r then g :: hiG gs b else hiG gs b := by unfold hiG; rw [List.filter_cons]; simp
    rw [e]
    by_cases hb : b ≤ g.r
    · rw [if_pos hb] at hp hm ⊢
      rw [Fp_cons, Fm_cons]
      simp only [if_true, Bool.false_eq_true, if_false] at hp hm
      omega
    · rw [if_neg hb] at hp hm ⊢
      omega
theorem perm_sum {xs ys : List Int} (h : xs.Perm ys) : xs.sum = ys.sum := by
  induction h with
  | nil => rfl
  | cons x _ ih => rw [List.sum_cons, List.sum_cons, ih]
  | swap x y l => rw [List.sum_cons, List.sum_cons, List.sum_cons, List.sum_cons]; omega
  | trans _ _ h1 h2 => exact h1.trans h2
theorem Fm_perm {f : Int → Int} {xs ys : List Rg} (h : xs.Perm ys) : Fm f xs = Fm f ys := by
  unfold Fm
  exact perm_sum (h.map _)
theorem Fm_append (f : Int → Int) (xs ys : List Rg) : Fm f (xs ++ ys) = Fm f xs + Fm f ys := by unfold Fm; simp
theorem Fm_lohi (f : Int → Int) (gs : List Rg) (b : Int) : Fm f gs = Fm f (loG gs b) + Fm f (hiG gs b) := by
  rw [← Fm_append]
  refine Fm_perm (List.Perm.symm ?_)
  have : hiG gs b = gs.filter fun g => !decide (g.r < b) := by
    unfold hiG
    refine List.filter_congr fun g _ => ?_
    by_cases h : g.r < b
    · simp [h]
    · simp [h]; omega
  rw [this]
  exact List.filter_append_perm _ _
theorem Fm_anew (f : Int → Int) (gs : List Rg) (b : Int) (fs : List (Int × Int)) : Fm f (anewF gs b fs) = Fm f (loG gs b) := by
  unfold anewF
  rw [Fm_append]
  have : ∀ rs : List Int, Fm f (rs.map (newR fs)) = 0 := fun rs => by
    induction rs with
    | nil => rfl
    | cons r rs ih =>
      rw [List.map_cons, Fm_cons, ih]
      show cst f [] + 0 = 0
      simp [cst]
  rw [this]
  exact Int.add_zero _
theorem Fm_put {f : Int → Int} {q z : Int} {gs : List Rg} {i : Nat} (t : Th) (h : spot q z gs = some i) : Fm f (putAt i t gs) = Fm f gs + f t.z := by
  obtain ⟨A, g, B, rfl, _, _, _, hp⟩ := spot_split h
  rw [hp, Fm_append, Fm_cons, Fm_append, Fm_cons]
  show Fm f A + (cst f (g.m ++ [t]) + Fm f B) = _
  rw [cst_append, cst_cons]
  have : cst f [] = 0 := rfl
  omega
theorem cst_mark (f : Int → Int) (w : Wd) (s : Int) (ts : List Th) : cst f (mark w s ts) = cst f ts := by
  unfold cst mark
  rw [List.map_map]
  refine congrArg List.sum (List.map_congr_left fun t _ => ?_)
  show f (if isF s t then { t with w := w } else t).z = f t.z
  split <;> rfl
theorem Fm_mark (f : Int → Int) (s : Int) : ∀ gs : List Rg, Fm f (gs.map (markR s)) = Fm f gs
  | [] => rfl
  | g :: gs => by
    rw [List.map_cons, Fm_cons, Fm_cons, Fm_mark f s gs]
    show cst f (mark .gone s g.m) + _ = _
    rw [cst_mark]
theorem Fm_nn {f : Int → Int} {N : Int} (F : Pr f N) : ∀ {gs : List Rg}, (∀ t ∈ allT gs, 1 ≤ t.z ∧ t.z ≤ N) → 0 ≤ Fm f gs
  | [], _ => by simp [Fm]
  | g :: gs, h => by
    rw [Fm_cons]
    have h1 := cst_nn F (ts := g.m) fun t ht => h t (by rw [allT_cons]; exact List.mem_append_left _ (List.mem_append_right _ ht))
    have h2 := Fm_nn F (gs := gs) fun t ht => h t (by rw [allT_cons]; exact List.mem_append_right _ ht)
    omega
def kap (q : Int) (L : Nat) : Int := 3 + 16 * q * (3 + L)
/-- the copies of a tidying -/
theorem copied_cost {f : Int → Int} {N q n z : Int} {L : Nat} {gs later : List Rg} {drop : Option Int} (F : Pr f N) (q1 : 0 < q) (hL : q ≤ 2 ^ L) (W : Lawful q n gs) (hN : ∀ t ∈ allT gs, 1 ≤ t.z ∧ t.z ≤ N) (z1 : 1 ≤ z) (zN : z ≤ N) (hz : spot q z gs = none) :
    sumf f (copiedM q gs later (bgn gs z) drop) ≤ (kap q L - 1) * Fm f (hiG gs (bgn gs z)) + (kap q L - 3) * f z := by
  have nn : ∀ t ∈ allT gs, 0 ≤ f t.z := fun t ht => F.nn t.z (hN t ht).1 (hN t ht).2
  have sp : ∀ x ∈ spots q 0 gs, 0 ≤ f x.z := by
    have T : ∀ (r : Int) (m : Bool) (ts : List Th) (a : Int), (∀ t ∈ ts, 0 ≤ f t.z) → ∀ x ∈ spotsT r m a ts, 0 ≤ f x.z := by
      intro r m ts
      induction ts with
      | nil => intro a _ x hx; cases hx
      | cons t ts ih =>
        intro a h x hx
        rw [spotsT] at hx
        rcases List.mem_append.mp hx with hx | hx
        · split at hx
          · rw [List.mem_singleton.mp hx]; exact h t List.mem_cons_self
          · cases hx
        · exact ih _ (fun u hu => h u (List.mem_cons_of_mem _ hu)) x hx
    have G : ∀ (gs : List Rg) (a : Int), (∀ t ∈ allT gs, 0 ≤ f t.z) → ∀ x ∈ spots q a gs, 0 ≤ f x.z := by
      intro gs
      induction gs with
      | nil => intro a _ x hx; cases hx
      | cons g gs ih =>
        intro a h x hx
        rw [spots] at hx
        rw [allT_cons] at h
        rcases List.mem_append.mp hx with hx | hx
        · rcases List.mem_append.mp hx with hx | hx
          · exact T _ _ _ _ (fun t ht => h t (List.mem_append_left _ (List.mem_append_left _ ht))) x hx
          · exact T _ _ _ _ (fun t ht => h t (List.mem_append_left _ (List.mem_append_right _ ht))) x hx
        · exact ih _ (fun t ht => h t (List.mem_append_right _ ht)) x hx
    exact G gs 0 nn
  have h1 : sumf f (copiedM q gs later (bgn gs z) drop) ≤ sumf f [] + ((spots q 0 gs).map (wS f (bgn gs z))).sum := cop_le sp
  have h2 := wS_G (f := f) (b := bgn gs z) (q := q) (gs := gs) (a := 0) nn
  have h3 := tidy_cost F q1 hL W (fun t ht => (hN t ht).2) z1 zN hz
  have h0 : sumf f [] = 0 := rfl
  have fz := F.nn z z1 zN
  have fm : 0 ≤ Fm f (hiG gs (bgn gs z)) := Fm_nn F fun t ht => hN t ((allT_sub List.filter_sublist).mem ht)
  have e1 : kap q L - 1 = 2 + 16 * q * (3 + L) := by unfold kap; omega
  have e2 : kap q L - 3 = 16 * q * (3 + L) := by unfold kap; omega
  rw [e1, e2]
  have e3 : 4 * (4 * q * ((L + 3) * (Fm f (hiG gs (bgn gs z))) + (L + 2) * f z)) = 16 * q * (3 + L) * Fm f (hiG gs (bgn gs z)) + 16 * q * (2 + L) * f z := by
    rw [← Int.mul_assoc, ← Int.mul_assoc, show (4 : Int) * 4 = 16 from rfl, Int.mul_add, Int.mul_assoc (16 * q) (3 + (L : Int)), Int.mul_assoc (16 * q) (2 + (L : Int)), Int.add_comm 3 (L : Int), Int.add_comm 2 (L : Int)]
  have e4 : 16 * q * (2 + (L : Int)) * f z ≤ 16 * q * (3 + L) * f z := by
    refine Int.mul_le_mul_of_nonneg_right ?_ fz
    exact Int.mul_le_mul_of_nonneg_left (by omega) (by omega)
  rw [Int.add_mul]
  omega
theorem step_cost {f : Int → Int} {N q n : Int} {L : Nat} {gs : List Rg} {d : Dd} (F : Pr f N) (q1 : 0 < q) (hL : q ≤ 2 ^ L) (W : Lawful q n gs) (hN : ∀ t ∈ allT gs, 1 ≤ t.z ∧ t.z ≤ N) (D : DeedOk gs d) (dN : sizeD gs d ≤ N) :
    sumf f (wrM q n gs d) + (kap q L - 1) * Fm f (doneM q n gs d) ≤ kap q L * f (sizeD gs d) + (kap q L - 1) * Fm f gs := by
  have k3 : 3 ≤ kap q L := by
    unfold kap
    have : (0 : Int) ≤ 16 * q * (3 + L) := Int.mul_nonneg (by omega) (by omega)
    omega
  cases d with
  | put z =>
    obtain ⟨z1, z2⟩ : 1 ≤ z ∧ z ≤ 4096 := D
    have zN : z ≤ N := dN
    have fz := F.nn z z1 zN
    show sumf f (if spot q z gs = none then _ else _) + _ ≤ kap q L * f z + _
    cases h : spot q z gs with
    | some i =>
      rw [if_neg (fun z => nomatch z), done_put_some h, Fm_put _ h]
      show sumf f [z] + (kap q L - 1) * (Fm f gs + f z) ≤ _
      have : sumf f [z] = f z := by simp [sumf]
      rw [this, Int.mul_add, Int.sub_mul _ _ (f z), Int.one_mul]
      omega
    | none =>
      rw [if_pos rfl, sumf_append]
      have h1 := copied_cost (later := doneM q n gs (.put z)) (drop := none) F q1 hL W hN z1 zN h
      have h2 : Fm f (doneM q n gs (.put z)) = Fm f (loG gs (bgn gs z)) := by rw [done_put_none h, Fm_anew]
      rw [h2, Fm_lohi f gs (bgn gs z), Int.mul_add]
      have : sumf f [z, z] = f z + f z := by simp [sumf]
      rw [Int.sub_mul _ _ (f z)] at h1
      omega
  | drop s =>
    obtain ⟨t, ht, hs⟩ := file_at D
    have sz := size_one W.law0 ht hs
    obtain ⟨t1, tN⟩ := hN t ht
    have ft := F.nn t.z t1 tN
    show sumf f (if isHole s gs = true ∧ spot q (sizeOf s gs) gs = none then _ else _) + _ ≤ kap q L * f (sizeOf s gs) + _
    have kf : 0 ≤ kap q L * f (sizeOf s gs) := by rw [sz]; exact Int.mul_nonneg (by omega) ft
    have e0 : sumf f [] = 0 := rfl
    cases hh : isHole s gs with
    | false =>
      rw [if_neg (fun z => nomatch z.1), done_drop_room hh, Fm_mark]
      omega
    | true =>
      cases h : spot q (sizeOf s gs) gs with
      | some i =>
        rw [if_neg (fun z => nomatch z.2), done_drop_some hh h]
        rw [← spot_mark q (sizeOf s gs) s gs] at h
        rw [Fm_put _ h, Fm_mark]
        show _ + (kap q L - 1) * (Fm f gs + f (sizeOf s gs)) ≤ _
        rw [Int.mul_add, Int.sub_mul _ _ (f (sizeOf s gs))]
        rw [sz] at kf ⊢
        omega
      | none =>
        rw [if_pos ⟨rfl, rfl⟩]
        have h1 := copied_cost (later := doneM q n gs (.drop s)) (drop := some s) F q1 hL W hN (by rw [sz]; exact t1) (by rw [sz]; exact tN) h
        have h2 : Fm f (doneM q n gs (.drop s)) = Fm f (loG gs (bgn gs (sizeOf s gs))) := by rw [done_drop_none hh h, Fm_anew]
        rw [h2, Fm_lohi f gs (bgn gs (sizeOf s gs)), Int.mul_add]
        rw [Int.sub_mul _ _ (f (sizeOf s gs))] at h1
        rw [sz] at h1 ⊢
        omega
/-- sizes stay below N -/
theorem sizes_keep {N q n : Int} {gs : List Rg} {d : Dd} (W : Lawful q n gs) (hN : ∀ t ∈ allT gs, 1 ≤ t.z ∧ t.z ≤ N) (D : DeedOk gs d) (dN : sizeD gs d ≤ N) (W' : Lawful q (newN n d) (doneM q n gs d)) : ∀ t ∈ allT (doneM q n gs d), 1 ≤ t.z ∧ t.z ≤ N := by
  intro t ht
  refine ⟨?_, ?_⟩
  · obtain ⟨g, hg, h⟩ := mem_allT.mp ht
    rcases h with h | h
    · exact ((W'.rg g hg).p t h).2.2.2.1
    · exact ((W'.rg g hg).m t h).2.2.2.1
  have put : ∀ {i : Nat} {q z : Int} {gs : List Rg} {u t : Th}, spot q z gs = some i → (∀ t ∈ allT gs, t.z ≤ N) → u.z ≤ N → t ∈ allT (putAt i u gs) → t.z ≤ N := fun {i q z gs u t} h h1 h2 ht => by
    obtain ⟨A, g, B, rfl, _, _, _, hp⟩ := spot_split h
    rw [hp] at ht
    rcases List.mem_cons.mp ((allT_add A g B u).mem_iff.mp ht) with rfl | h
    · exact h2
    · exact h1 _ h
  have mk : ∀ {s : Int} {t : Th}, t ∈ allT (gs.map (markR s)) → t.z ≤ N := fun {s t} ht => by
    obtain ⟨g, hg, h⟩ := mem_allT.mp ht
    obtain ⟨g2, hg2, rfl⟩ := List.mem_map.mp hg
    rcases h with h | h
    · obtain ⟨u, hu, _, e, _⟩ := mem_mark h
      rw [e]; exact (hN u (mem_allT.mpr ⟨g2, hg2, .inl hu⟩)).2
    · obtain ⟨u, hu, _, e, _⟩ := mem_mark h
      rw [e]; exact (hN u (mem_allT.mpr ⟨g2, hg2, .inr hu⟩)).2
  have an : ∀ {b : Int} {fs : List (Int × Int)} {t : Th}, (∀ f ∈ fs, f.2 ≤ 4096) → (∀ f ∈ fs, f.2 ≤ N) → t ∈ allT (anewF gs b fs) → t.z ≤ N := fun {b fs t} h0 h ht => by
    rcases List.mem_append.mp ((anewF_perm h0).mem_iff.mp ht) with h1 | h1
    · exact (hN t ((allT_sub (lo_sub gs b)).mem h1)).2
    · obtain ⟨f, hf, rfl⟩ := List.mem_map.mp h1
      exact h f hf
  have fin : ∀ {b : Int} {dr : Option Int} {f : Int × Int}, f ∈ filesIn b dr gs → f.2 ≤ N ∧ f.2 ≤ 4096 := fun {b dr f} hf => by
    rw [filesIn_eq] at hf
    obtain ⟨t, ht, rfl⟩ := List.mem_map.mp hf
    have ht := (List.mem_filter.mp ht).1
    have ht : t ∈ allT gs := (allT_sub List.filter_sublist).mem (show t ∈ allT (gs.filter fun g => decide (b ≤ g.r)) from ht)
    refine ⟨(hN t ht).2, ?_⟩
    obtain ⟨g, hg, h⟩ := mem_allT.mp ht
    rcases h with h | h
    · exact ((W.rg g hg).p t h).2.2.2.2
    · exact ((W.rg g hg).m t h).2.2.2.2
  cases d with
  | put z =>
    obtain ⟨z1, z2⟩ : 1 ≤ z ∧ z ≤ 4096 := D
    cases h : spot q z gs with
    | some i =>
      rw [done_put_some h] at ht
      exact put h (fun t ht => (hN t ht).2) dN ht
    | none =>
      rw [done_put_none h] at ht
      refine an (fun f hf => ?_) (fun f hf => ?_) ht
      · rcases List.mem_cons.mp hf with rfl | hf
        · exact z2
        · exact (fin hf).2
      · rcases List.mem_cons.mp hf with rfl | hf
        · exact dN
        · exact (fin hf).1
  | drop s =>
    cases hh : isHole s gs with
    | false => rw [done_drop_room hh] at ht; exact mk ht
    | true =>
      cases h : spot q (sizeOf s gs) gs with
      | some i =>
        rw [done_drop_some hh h] at ht
        rw [← spot_mark q (sizeOf s gs) s gs] at h
        exact put h (fun t ht => mk ht) dN ht
      | none =>
        rw [done_drop_none hh h] at ht
        exact an (fun f hf => (fin hf).2) (fun f hf => (fin hf).1) ht
theorem newN_nn {n : Int} {d : Dd} (h : 0 ≤ n) : 0 ≤ newN n d := by cases d <;> simp only [newN] <;> omega
/-- all writes together -/
theorem all_cost {f : Int → Int} {N q : Int} {L : Nat} (F : Pr f N) (q1 : 0 < q) (hL : q ≤ 2 ^ L) : ∀ {ds : List Dd} {n : Int} {gs : List Rg}, Lawful q n gs → 0 ≤ n → (allT gs).length + ds.length ≤ 200 → (∀ t ∈ allT gs, 1 ≤ t.z ∧ t.z ≤ N) → RunOk q N n gs ds →
    sumf f (wrAll q n gs ds) ≤ kap q L * sumf f (szAll q n gs ds) + (kap q L - 1) * Fm f gs
  | [], n, gs, W, _, _, hN, _ => by
    have k3 : 3 ≤ kap q L := by
      unfold kap
      have : (0 : Int) ≤ 16 * q * (3 + L) := Int.mul_nonneg (by omega) (by omega)
      omega
    have := Int.mul_nonneg (show 0 ≤ kap q L - 1 by omega) (Fm_nn F hN)
    have e : sumf f [] = 0 := rfl
    rw [wrAll, szAll, e]
    omega
  | d :: ds, n, gs, W, n0, hl, hN, R => by
    obtain ⟨D, dN, R⟩ := R
    rw [List.length_cons] at hl
    obtain ⟨W', l', _⟩ := done_ok W q1 n0 (by omega) D
    have h1 := all_cost F q1 hL (ds := ds) W' (newN_nn n0) (by omega) (sizes_keep W hN D dN W') R
    have h2 := step_cost F q1 hL W hN D dN
    have e : sumf f (szAll q n gs (d :: ds)) = f (sizeD gs d) + sumf f (szAll q (newN n d) (doneM q n gs d) ds) := by rw [szAll]; unfold sumf; simp
    rw [wrAll, sumf_append, e, Int.mul_add]
    omega
end K76
set_option maxRecDepth 100000
namespace K76
/-! ### price lists -/
/-- what the least costs are: F by the numbers -/
structure LcOk (m : Nat) (num : Nat → Int) (F : Nat → Int) : Prop where
  z : F 0 = 0
  hit : ∀ s, 1 ≤ s → s ≤ m → ∃ p, 1 ≤ p ∧ p ≤ m ∧ F s = num p + F (s - p)
  le : ∀ s, 1 ≤ s → s ≤ m → ∀ p, 1 ≤ p → p ≤ m → F s ≤ num p + F (s - p)
theorem LcOk.nn {m : Nat} {num F : Nat → Int} (h : LcOk m num F) (hn : ∀ p, 1 ≤ p → p ≤ m → 0 ≤ num p) : ∀ k s, s ≤ k → s ≤ m → 0 ≤ F s
  | k, 0, _, _ => by rw [h.z]; exact Int.le_refl _
  | 0, s + 1, h1, _ => by omega
  | k + 1, s + 1, h1, h2 => by
    obtain ⟨p, p1, p2, e⟩ := h.hit (s + 1) (by omega) h2
    rw [e]
    have := h.nn hn k (s + 1 - p) (by omega) (by omega)
    have := hn p p1 p2
    omega
theorem LcOk.step {m : Nat} {num F : Nat → Int} (h : LcOk m num F) (hn : ∀ p, 1 ≤ p → p ≤ m → 0 ≤ num p) : ∀ k s, s ≤ k → s + 1 ≤ m → F s ≤ F (s + 1)
  | k, 0, _, h2 => by rw [h.z]; exact h.nn hn 1 1 (by omega) h2
  | 0, s + 1, h1, _ => by omega
  | k + 1, s + 1, h1, h2 => by
    obtain ⟨p, p1, p2, e⟩ := h.hit (s + 1 + 1) (by omega) h2
    have h3 := h.le (s + 1) (by omega) (by omega) p p1 p2
    by_cases hp : p ≤ s + 1
    · have := h.step hn k (s + 1 - p) (by omega) (by omega)
      rw [show s + 1 - p + 1 = s + 1 + 1 - p by omega] at this
      omega
    · rw [show s + 1 + 1 - p = 0 by omega] at e
      rw [show s + 1 - p = 0 by omega] at h3
      omega
theorem LcOk.mono {m : Nat} {num F : Nat → Int} (h : LcOk m num F) (hn : ∀ p, 1 ≤ p → p ≤ m → 0 ≤ num p) : ∀ k s, s + k ≤ m → F s ≤ F (s + k)
  | 0, s, _ => Int.le_refl _
  | k + 1, s, h1 => by
    have h2 := h.mono hn k s (by omega)
    have h3 := h.step hn (s + k) (s + k) (Nat.le_refl _) (by omega)
    rw [show s + (k + 1) = s + k + 1 by omega]
    omega
theorem LcOk.sub {m : Nat} {num F : Nat → Int} (h : LcOk m num F) (hn : ∀ p, 1 ≤ p → p ≤ m → 0 ≤ num p) (t : Nat) : ∀ k s, s ≤ k → 1 ≤ s → s + t ≤ m → F (s + t) ≤ F s + F t
  | 0, s, h1, h2, _ => by omega
  | k + 1, s, h1, h2, h3 => by
    obtain ⟨p, p1, p2, e⟩ := h.hit s h2 (by omega)
    have h4 := h.le (s + t) (by omega) h3 p p1 p2
    by_cases hp : p < s
    · have := h.sub hn t k (s - p) (by omega) (by omega) (by omega)
      rw [show s - p + t = s + t - p by omega] at this
      omega
    · rw [show s - p = 0 by omega, h.z] at e
      have := h.mono hn (t - (s + t - p)) (s + t - p) (by omega)
      rw [show s + t - p + (t - (s + t - p)) = t by omega] at this
      omega
def tabF (t : List Int) (x : Int) : Int := (t[(x - 1).toNat]?).getD 0
/-- a table that keeps the rules, all its numbers at least 0 -/
def TabOkP (t : List Int) : Prop := Pr (tabF t) t.length
theorem tabF_get {t : List Int} {i : Nat} (h : i < t.length) : tabF t ((i : Int) + 1) = t[i] := by
  unfold tabF
  rw [show ((i : Int) + 1 - 1).toNat = i by omega, List.getElem?_eq_getElem h]; rfl
theorem pr_of_tab {t : List Int} (h0 : ∀ (i : Nat) (h : i < t.length), 0 ≤ t[i]) (h1 : ∀ (i : Nat) (h : i + 1 < t.length), t[i] ≤ t[i + 1]) (h2 : ∀ (i j : Nat) (h : i + j + 1 < t.length), t[i + j + 1] ≤ t[i] + t[j]) : TabOkP t := by
  have at1 : ∀ x : Int, 1 ≤ x → x ≤ t.length → ∃ (i : Nat) (h : i < t.length), x = (i : Int) + 1 ∧ tabF t x = t[i] := fun x a b => ⟨(x - 1).toNat, by omega, by omega, by
    unfold tabF
    rw [List.getElem?_eq_getElem (by omega)]; rfl⟩
  have mono : ∀ (k i : Nat) (h : i + k < t.length), t[i] ≤ t[i + k] := fun k => by
    induction k with
    | zero => intro i h; exact Int.le_refl _
    | succ k ih =>
      intro i h
      have a := ih i (by omega)
      have b := h1 (i + k) (by omega)
      exact Int.le_trans a b
  refine ⟨fun x a b => ?_, fun x y a b c => ?_, fun x y a b c => ?_⟩
  · obtain ⟨i, hi, _, e⟩ := at1 x a b
    rw [e]; exact h0 i hi
  · obtain ⟨i, hi, e1, e⟩ := at1 x a (by omega)
    obtain ⟨j, hj, e2, e'⟩ := at1 y (by omega) c
    rw [e, e']
    have := mono (j - i) i (by omega)
    have e3 : i + (j - i) = j := by omega
    simp only [e3] at this
    exact this
  · obtain ⟨i, hi, e1, e⟩ := at1 x a (by omega)
    obtain ⟨j, hj, e2, e'⟩ := at1 y b (by omega)
    obtain ⟨k, hk, e3, e''⟩ := at1 (x + y) (by omega) c
    rw [e, e', e'']
    have := h2 i j (by omega)
    have e4 : i + j + 1 = k := by omega
    simp only [e4] at this
    exact this
theorem tab_mono {t : List Int} (P : TabOkP t) {i j : Nat} (h : i ≤ j) (hj : j < t.length) : t[i] ≤ t[j] := by
  have := P.mono ((i : Int) + 1) ((j : Int) + 1) (by omega) (by omega) (by omega)
  rwa [tabF_get (by omega), tabF_get hj] at this
theorem tab_sub {t : List Int} (P : TabOkP t) {i j : Nat} (h : i + j + 1 < t.length) : t[i + j + 1] ≤ t[i] + t[j] := by
  have := P.sub ((i : Int) + 1) ((j : Int) + 1) (by omega) (by omega) (by omega)
  rw [tabF_get (by omega), tabF_get (by omega), show (i : Int) + 1 + ((j : Int) + 1) = ((i + j + 1 : Nat) : Int) + 1 by omega, tabF_get h] at this
  exact this
/-! the ways to make a list -/
theorem tab_map {m : Nat} (g : Nat → Int) (h0 : ∀ i, i < m → 0 ≤ g i) (h1 : ∀ i, i + 1 < m → g i ≤ g (i + 1)) (h2 : ∀ i j, i + j + 1 < m → g (i + j + 1) ≤ g i + g j) : TabOkP ((List.range m).map g) := by
  refine pr_of_tab (fun i h => ?_) (fun i h => ?_) (fun i j h => ?_)
  · rw [List.length_map, List.length_range] at h
    simp only [List.getElem_map, List.getElem_range]; exact h0 i h
  · rw [List.length_map, List.length_range] at h
    simp only [List.getElem_map, List.getElem_range]; exact h1 i h
  · rw [List.length_map, List.length_range] at h
    simp only [List.getElem_map, List.getElem_range]; exact h2 i j h
theorem tab_lin {m : Nat} {fee rate : Int} (h1 : 0 ≤ fee) (h2 : 0 ≤ rate) : TabOkP ((List.range m).map fun i => fee + rate * ((i : Nat) + 1 : Int)) := by
  have e : ∀ i : Nat, rate * (((i + 1 : Nat) : Int) + 1) = rate * ((i : Int) + 1) + rate := fun i => by
    rw [show (((i + 1 : Nat) : Int) + 1) = ((i : Int) + 1) + 1 by omega, Int.mul_add, Int.mul_one]
  refine tab_map _ (fun i _ => ?_) (fun i _ => ?_) (fun i j _ => ?_)
  · have : 0 ≤ rate * ((i : Int) + 1) := Int.mul_nonneg h2 (by omega)
    omega
  · rw [e i]; omega
  · have : rate * (((i + j + 1 : Nat) : Int) + 1) = rate * ((i : Int) + 1) + rate * ((j : Int) + 1) := by
      rw [← Int.mul_add]; congr 1; omega
    rw [this]; omega
theorem tab_min {m : Nat} {g k : Nat → Int} (G : TabOkP ((List.range m).map g)) (K : TabOkP ((List.range m).map k)) (h : ∀ i j, i + j + 1 < m → min (g (i + j + 1)) (k (i + j + 1)) ≤ min (g i) (k i) + min (g j) (k j)) : TabOkP ((List.range m).map fun i => min (g i) (k i)) := by
  have lg : ((List.range m).map g).length = m := by rw [List.length_map, List.length_range]
  have lk : ((List.range m).map k).length = m := by rw [List.length_map, List.length_range]
  have ge : ∀ i (h : i < m), ((List.range m).map g)[i]'(by rw [lg]; exact h) = g i := fun i h => by simp
  have ke : ∀ i (h : i < m), ((List.range m).map k)[i]'(by rw [lk]; exact h) = k i := fun i h => by simp
  refine tab_map _ (fun i hi => ?_) (fun i hi => ?_) h
  · have a := G.nn ((i : Int) + 1) (by omega) (by rw [lg]; omega)
    have b := K.nn ((i : Int) + 1) (by omega) (by rw [lk]; omega)
    rw [tabF_get (by rw [lg]; exact hi), ge i hi] at a
    rw [tabF_get (by rw [lk]; exact hi), ke i hi] at b
    omega
  · have a := tab_mono G (i := i) (j := i + 1) (by omega) (by rw [lg]; exact hi)
    have b := tab_mono K (i := i) (j := i + 1) (by omega) (by rw [lk]; exact hi)
    rw [ge i (by omega), ge (i + 1) hi] at a
    rw [ke i (by omega), ke (i + 1) hi] at b
    omega
theorem tab_lin2 {m : Nat} {fee rate : Int} (h1 : 0 ≤ fee) (h2 : 0 ≤ rate) : TabOkP ((List.range m).map fun i => min ((rate + 3) * ((i : Nat) + 1 : Int)) (fee + rate * ((i : Nat) + 1 : Int))) := by
  have G := tab_lin (m := m) (fee := 0) (rate := rate + 3) (by omega) (by omega)
  have e0 : ((List.range m).map fun i => 0 + (rate + 3) * ((i : Nat) + 1 : Int)) = (List.range m).map fun i => (rate + 3) * ((i : Nat) + 1 : Int) := List.map_congr_left fun i _ => by omega
  rw [e0] at G
  refine tab_min G (tab_lin h1 h2) fun i j _ => ?_
  have e1 : (rate + 3) * (((i + j + 1 : Nat) : Int) + 1) = (rate + 3) * ((i : Int) + 1) + (rate + 3) * ((j : Int) + 1) := by
    rw [← Int.mul_add]; congr 1; omega
  have e2 : rate * (((i + j + 1 : Nat) : Int) + 1) = rate * ((i : Int) + 1) + rate * ((j : Int) + 1) := by
    rw [← Int.mul_add]; congr 1; omega
  have e3 : (rate + 3) * ((i : Int) + 1) = rate * ((i : Int) + 1) + 3 * ((i : Int) + 1) := Int.add_mul _ _ _
  have e4 : (rate + 3) * ((j : Int) + 1) = rate * ((j : Int) + 1) + 3 * ((j : Int) + 1) := Int.add_mul _ _ _
  have e5 : 0 ≤ rate * ((i : Int) + 1) := Int.mul_nonneg h2 (by omega)
  have e6 : 0 ≤ rate * ((j : Int) + 1) := Int.mul_nonneg h2 (by omega)
  rw [e1, e2, e3, e4]
  omega
theorem tab_one {m : Nat} : TabOkP ((List.range m).map fun _ => (1 : Int)) := tab_map _ (fun _ _ => by omega) (fun _ _ => by omega) (fun _ _ _ => by omega)
theorem tab_block {m : Nat} {b : Int} (hb : 1 ≤ b) : TabOkP ((List.range m).map fun i => ((i : Nat) + 1 + b - 1 : Int) / b) := by
  have b0 : (0 : Int) < b := by omega
  have nn : ∀ i : Nat, 0 ≤ ((i : Int) + 1 + b - 1) / b := fun i => Int.ediv_nonneg (by omega) (by omega)
  refine tab_map _ (fun i _ => nn i) (fun i _ => ?_) (fun i j _ => ?_)
  · refine Int.ediv_le_ediv b0 ?_; omega
  · -- ceilings
    have h1 := Int.lt_mul_ediv_self_add (x := (i : Int) + 1 + b - 1) b0
    have h2 := Int.lt_mul_ediv_self_add (x := (j : Int) + 1 + b - 1) b0
    have h3 := Int.mul_ediv_self_le (x := (((i + j + 1 : Nat) : Int) + 1 + b - 1)) (k := b) (by omega)
    have h4 : b * ((((i + j + 1 : Nat) : Int) + 1 + b - 1) / b) < b * (((i : Int) + 1 + b - 1) / b + ((j : Int) + 1 + b - 1) / b + 1) := by
      rw [Int.mul_add, Int.mul_add, Int.mul_one]
      omega
    have := Int.lt_of_mul_lt_mul_left h4 (by omega)
    omega
/-- the list that cannot be made less -/
def Stable (t : List Int) : Prop := (∀ (i : Nat) (h : i + 1 < t.length), t[i] ≤ t[i + 1]) ∧ ∀ (i p : Nat) (h : i < t.length) (hp : p < i), t[i] ≤ t[p] + t[i - p - 1]
theorem tab_stable {t : List Int} (h0 : ∀ (i : Nat) (h : i < t.length), 0 ≤ t[i]) (S : Stable t) : TabOkP t := by
  refine pr_of_tab h0 S.1 fun i j h => ?_
  have := S.2 (i + j + 1) i h (by omega)
  have e : i + j + 1 - i - 1 = j := by omega
  simp only [e] at this
  exact this
/-- the table of the least costs -/
theorem tab_lc {m : Nat} {num F : Nat → Int} (h : LcOk m num F) (hn : ∀ p, 1 ≤ p → p ≤ m → 0 ≤ num p) : TabOkP ((List.range m).map fun i => F (i + 1)) := by
  refine tab_map _ (fun i hi => h.nn hn (i + 1) (i + 1) (Nat.le_refl _) hi) (fun i hi => ?_) (fun i j hi => ?_)
  · exact h.step hn (i + 1) (i + 1) (Nat.le_refl _) hi
  · have := h.sub hn (j + 1) (i + 1) (i + 1) (Nat.le_refl _) (by omega) (by omega)
    rw [show i + 1 + (j + 1) = i + j + 1 + 1 by omega] at this
    exact this
theorem sumf_le {f g : Int → Int} : ∀ {xs : List Int}, (∀ x ∈ xs, f x ≤ g x) → sumf f xs ≤ sumf g xs
  | [], _ => Int.le_refl _
  | x :: xs, h => by
    have h1 := sumf_le (f := f) (g := g) fun y hy => h y (List.mem_cons_of_mem x hy)
    have h2 := h x List.mem_cons_self
    show ((x :: xs).map f).sum ≤ ((x :: xs).map g).sum
    rw [List.map_cons, List.map_cons, List.sum_cons, List.sum_cons]
    unfold sumf at h1
    omega
end K76
set_option maxRecDepth 100000
namespace K76
/-! ### spots, places, seats -/
def sp3 (x : Sp5) : C3 := (x.s, x.at_, x.z)
theorem spotsT_laid (r : Int) (m : Bool) : ∀ (ts : List Th) (a : Int), ((laidT r m a ts).filter fun x => decide (x.2.2.1.w = .file)).map (fun x => (x.2.2.1.s, x.2.2.2, x.2.2.1.z)) = (spotsT r m a ts).map sp3
  | [], a => rfl
  | t :: ts, a => by
    rw [laidT, spotsT, List.map_append, List.filter_cons]
    have ih := spotsT_laid r m ts (a + t.z)
    by_cases h : t.w = .file
    · rw [if_pos (decide_eq_true h), if_pos h, List.map_cons, ih]; rfl
    · rw [if_neg (by simpa using h), if_neg h, ih]; rfl
theorem spotsG_laid (q : Int) : ∀ (gs : List Rg) (a : Int), ((laidG q a gs).filter fun x => decide (x.2.2.1.w = .file)).map (fun x => (x.2.2.1.s, x.2.2.2, x.2.2.1.z)) = (spots q a gs).map sp3
  | [], a => rfl
  | g :: gs, a => by
    rw [laidG, laidR, spots, List.map_append, List.map_append, List.filter_append, List.filter_append, List.map_append, List.map_append, spotsT_laid, spotsT_laid]
    have ih := spotsG_laid q gs (a + endR q g)
    rw [ih]
    unfold endR
    rw [show a + (cells g.p + cells g.p / q) = a + cells g.p + cells g.p / q by omega]
theorem places_spots (q : Int) (gs : List Rg) : placesM q gs = (spots q 0 gs).map sp3 := spotsG_laid q gs 0
theorem spotsT_pairs (r : Int) (m : Bool) : ∀ (ts : List Th) (a : Int), (spotsT r m a ts).map (fun x => (x.s, x.z)) = pairsW .file ts
  | [], a => rfl
  | t :: ts, a => by
    rw [spotsT, List.map_append, pairsW_cons, spotsT_pairs r m ts]
    by_cases h : t.w = .file
    · rw [if_pos h, if_pos h]; rfl
    · rw [if_neg h, if_neg h]; rfl
theorem spots_pairs (q : Int) : ∀ (gs : List Rg) (a : Int), (spots q a gs).map (fun x => (x.s, x.z)) = pairsW .file (allT gs)
  | [], a => rfl
  | g :: gs, a => by
    rw [spots, allT_cons, List.map_append, List.map_append, pairsW_append, pairsW_append, spotsT_pairs, spotsT_pairs, spots_pairs q gs]
theorem spotsT_seat {r : Int} {m : Bool} : ∀ {ts : List Th} {a : Int} {x : Sp5}, x ∈ spotsT r m a ts → (x.r, x.m, (⟨.file, x.s, x.z⟩ : Th)) ∈ seatsT r m ts
  | [], a, x, h => nomatch h
  | t :: ts, a, x, h => by
    rw [spotsT] at h
    unfold seatsT
    rw [List.map_cons]
    rcases List.mem_append.mp h with h | h
    · by_cases hw : t.w = .file
      · rw [if_pos hw] at h
        rw [List.mem_singleton.mp h]
        have : t = ⟨.file, t.s, t.z⟩ := by cases t; cases hw; rfl
        rw [← this]
        exact List.mem_cons_self
      · rw [if_neg hw] at h; cases h
    · exact List.mem_cons_of_mem _ (spotsT_seat h)
theorem spots_seat {q : Int} : ∀ {gs : List Rg} {a : Int} {x : Sp5}, x ∈ spots q a gs → (x.r, x.m, (⟨.file, x.s, x.z⟩ : Th)) ∈ seatsG gs
  | [], a, x, h => nomatch h
  | g :: gs, a, x, h => by
    rw [spots] at h
    unfold seatsG
    rw [List.flatMap_cons]
    have e : seatsR g = seatsT g.r false g.p ++ seatsT g.r true g.m := by unfold seatsR; simp
    rcases List.mem_append.mp h with h | h
    · refine List.mem_append_left _ ?_
      rw [e]
      rcases List.mem_append.mp h with h | h
      · exact List.mem_append_left _ (spotsT_seat h)
      · exact List.mem_append_right _ (spotsT_seat h)
    · exact List.mem_append_right _ (spots_seat h)
theorem seats_things : ∀ gs : List Rg, (seatsG gs).map (·.2.2) = allT gs
  | [] => rfl
  | g :: gs => by
    have ih := seats_things gs
    unfold seatsG at ih ⊢
    rw [List.flatMap_cons, List.map_append, ih, allT_cons]
    have e : seatsR g = seatsT g.r false g.p ++ seatsT g.r true g.m := by unfold seatsR; simp
    rw [e, List.map_append]
    unfold seatsT
    rw [List.map_map, List.map_map]
    have : ∀ ts : List Th, ∀ (b : Bool), ts.map ((fun x : Int × Bool × Th => x.2.2) ∘ fun t => (g.r, b, t)) = ts := fun ts b => by
      conv => rhs; rw [← List.map_id ts]
      rfl
    rw [this, this]
theorem seat_one {gs : List Rg} (h : (serials (allT gs)).Nodup) {y : Int × Bool × Th} {s : Int} (hy : y ∈ seatsG gs) (hs : isF s y.2.2 = true) : seatM gs s = some y := by
  have ht : y.2.2 ∈ allT gs := by rw [← seats_things gs]; exact List.mem_map.mpr ⟨y, hy, rfl⟩
  have h1 := files_one h ht hs
  rw [← seats_things gs, List.filter_map] at h1
  have h2 : ((seatsG gs).filter (hitS s)).length = 1 := by
    have := congrArg List.length h1
    rw [List.length_map] at this
    exact this
  obtain ⟨z, hz⟩ := List.length_eq_one_iff.mp h2
  have hm : y ∈ (seatsG gs).filter (hitS s) := List.mem_filter.mpr ⟨hy, hs⟩
  rw [hz, List.mem_singleton] at hm
  unfold seatM
  rw [← List.head?_filter, hz, hm]; rfl
theorem spot_seat {q : Int} {gs : List Rg} (h : (serials (allT gs)).Nodup) {x : Sp5} (hx : x ∈ spots q 0 gs) : seatM gs x.s = some (x.r, x.m, ⟨.file, x.s, x.z⟩) :=
  seat_one h (spots_seat hx) (isF_iff.mpr ⟨rfl, rfl⟩)
/-- the seat of a file that is dropped -/
theorem drop_seat {q n s : Int} {gs : List Rg} (L : Lawful q n gs) (h : s ∈ (pairsW .file (allT gs)).map (·.1)) : ∃ r t, seatM gs s = some (r, !isHole s gs, t) ∧ t.z = sizeOf s gs ∧ 1 ≤ t.z ∧ t.z ≤ 4096 := by
  obtain ⟨t, ht, hs⟩ := file_at h
  obtain ⟨g, hg, hm⟩ := mem_allT.mp ht
  have sz := size_one L.law0 ht hs
  have inR : ∀ b, t ∈ (if b then g.m else g.p) → (g.r, b, t) ∈ seatsG gs := fun b hb => by
    unfold seatsG
    refine List.mem_flatMap.mpr ⟨g, hg, ?_⟩
    have e : seatsR g = seatsT g.r false g.p ++ seatsT g.r true g.m := by unfold seatsR; simp
    rw [e]
    cases b with
    | true => exact List.mem_append_right _ (List.mem_map.mpr ⟨t, hb, rfl⟩)
    | false => exact List.mem_append_left _ (List.mem_map.mpr ⟨t, hb, rfl⟩)
  rcases hm with h1 | h1
  · have e : isHole s gs = true := isHole_iff.mpr ⟨t, List.mem_flatMap.mpr ⟨g, hg, h1⟩, hs⟩
    rw [e]
    exact ⟨g.r, t, seat_one L.ser (inR false h1) hs, sz.symm, ((L.rg g hg).p t h1).2.2.2⟩
  · have e : isHole s gs = false := by
      cases hh : isHole s gs with
      | false => rfl
      | true =>
        -- the file would lie at two places
        obtain ⟨u, hu, hs'⟩ := isHole_iff.mp hh
        obtain ⟨g2, hg2, h2⟩ := List.mem_flatMap.mp hu
        have a1 := seat_one L.ser (inR true h1) hs
        have a2 : seatM gs s = some (g2.r, false, u) := seat_one L.ser (by
          unfold seatsG
          refine List.mem_flatMap.mpr ⟨g2, hg2, ?_⟩
          have e : seatsR g2 = seatsT g2.r false g2.p ++ seatsT g2.r true g2.m := by unfold seatsR; simp
          rw [e]
          exact List.mem_append_left _ (List.mem_map.mpr ⟨u, h2, rfl⟩)) hs'
        rw [a1] at a2
        simp at a2
    rw [e]
    exact ⟨g.r, t, seat_one L.ser (inR true h1) hs, sz.symm, ((L.rg g hg).m t h1).2.2.2⟩
/-! ### the copies cost the same -/
def cstep (b : Int) (dr : Option Int) (a : CpS) (x : Sp5) : CpS :=
  if b ≤ x.r ∧ some x.s ≠ dr then (if x.m then ⟨a.at_ + x.z, putI a.wt x.s a.at_, a.fd ++ [(x.s, x.at_, a.at_)], a.py⟩ else ⟨a.at_, a.wt, a.fd, a.py ++ [sp3 x]⟩) else a
theorem cp_spots {q : Int} {gs : List Rg} (h : (serials (allT gs)).Nodup) (b : Int) (dr : Option Int) (a : CpS) : (placesM q gs).foldl (cpStep gs b dr) a = (spots q 0 gs).foldl (cstep b dr) a := by
  rw [places_spots, List.foldl_map]
  have H : ∀ x ∈ spots q 0 gs, ∀ a, cpStep gs b dr a (sp3 x) = cstep b dr a x := fun x hx a => by
    unfold cpStep cstep
    rw [show (sp3 x).1 = x.s from rfl, spot_seat h hx]
    rfl
  generalize spots q 0 gs = xs at H
  induction xs generalizing a with
  | nil => rfl
  | cons x xs ih =>
    rw [List.foldl_cons, List.foldl_cons, H x List.mem_cons_self, ih _ fun y hy => H y (List.mem_cons_of_mem _ hy)]
def csum (g : Int → Int) (cs : List C3) : Int := (cs.map fun c => g c.1).sum
theorem csum_append (g : Int → Int) (xs ys : List C3) : csum g (xs ++ ys) = csum g xs + csum g ys := by unfold csum; simp
theorem csum_cons (g : Int → Int) (x : C3) (ys : List C3) : csum g (x :: ys) = g x.1 + csum g ys := by unfold csum; simp
def selR (b : Int) (dr : Option Int) (x : Sp5) : Bool := decide (b ≤ x.r ∧ some x.s ≠ dr) && x.m
def selP (b : Int) (dr : Option Int) (x : Sp5) : Bool := decide (b ≤ x.r ∧ some x.s ≠ dr) && !x.m
def ssum (g : Int → Int) (xs : List Sp5) : Int := (xs.map fun x => g x.s).sum
theorem ssum_cons (g : Int → Int) (x : Sp5) (xs : List Sp5) : ssum g (x :: xs) = g x.s + ssum g xs := by unfold ssum; simp
def ksum (g : Int → Int) (kvs : List (Int × Int)) : Int := (kvs.map fun p => g p.1).sum
theorem cstep_sum (g : Int → Int) (b : Int) (dr : Option Int) : ∀ (xs : List Sp5) (a : CpS), (a.wt.map (·.1) ++ xs.map (·.s)).Nodup →
    csum g (xs.foldl (cstep b dr) a).fd = csum g a.fd + ssum g (xs.filter (selR b dr)) ∧ ksum g (xs.foldl (cstep b dr) a).wt = ksum g a.wt + ssum g (xs.filter (selR b dr)) ∧ (xs.foldl (cstep b dr) a).py = a.py ++ (xs.filter (selP b dr)).map sp3 ∧
    (xs.foldl (cstep b dr) a).wt.map (·.1) = a.wt.map (·.1) ++ (xs.filter (selR b dr)).map (·.s)
  | [], a, _ => by simp [ssum]
  | x :: xs, a, h => by
    rw [List.foldl_cons, List.filter_cons, List.filter_cons]
    have hx : x.s ∉ a.wt.map (·.1) := fun hm => by
      rw [List.nodup_append] at h
      exact h.2.2 x.s hm x.s (by rw [List.map_cons]; exact List.mem_cons_self) rfl
    have h' : (a.wt.map (·.1) ++ xs.map (·.s)).Nodup := by
      rw [List.map_cons] at h
      exact (List.perm_middle.nodup_iff.mp h).tail
    by_cases hb : b ≤ x.r ∧ some x.s ≠ dr
    · by_cases hm : x.m = true
      · have e : cstep b dr a x = ⟨a.at_ + x.z, putI a.wt x.s a.at_, a.fd ++ [(x.s, x.at_, a.at_)], a.py⟩ := by unfold cstep; rw [if_pos hb, if_pos hm]
        have e1 : selR b dr x = true := by unfold selR; rw [decide_eq_true hb, hm]; rfl
        have e2 : selP b dr x = false := by unfold selP; rw [hm]; simp
        have ep : putI a.wt x.s a.at_ = a.wt ++ [(x.s, a.at_)] := by
          unfold putI
          rw [if_neg]
          intro hh
          obtain ⟨p, hp, e⟩ := List.any_eq_true.mp hh
          exact hx (List.mem_map.mpr ⟨p, hp, of_decide_eq_true e⟩)
        rw [e, e1, e2, ep]
        obtain ⟨i1, i2, i3, i4⟩ := cstep_sum g b dr xs ⟨a.at_ + x.z, a.wt ++ [(x.s, a.at_)], a.fd ++ [(x.s, x.at_, a.at_)], a.py⟩ (by
          show ((a.wt ++ [(x.s, a.at_)]).map (·.1) ++ xs.map (·.s)).Nodup
          rw [List.map_append, List.append_assoc]
          exact h)
        rw [i1, i2, i3, i4]
        simp only [if_true, Bool.false_eq_true, if_false, ssum_cons]
        refine ⟨?_, ?_, trivial, ?_⟩
        · show csum g (a.fd ++ [_]) + _ = _
          rw [csum_append, csum_cons]
          show csum g a.fd + (g x.s + csum g []) + _ = _
          have : csum g [] = 0 := rfl
          omega
        · show ksum g (a.wt ++ [(x.s, a.at_)]) + _ = _
          unfold ksum
          rw [List.map_append, List.sum_append]
          simp only [List.map_cons, List.map_nil, List.sum_cons, List.sum_nil]
          omega
        · show (a.wt ++ [(x.s, a.at_)]).map (·.1) ++ _ = _
          rw [List.map_append, List.append_assoc, List.map_cons]; rfl
      · have hm : x.m = false := by simpa using hm
        have e : cstep b dr a x = ⟨a.at_, a.wt, a.fd, a.py ++ [sp3 x]⟩ := by unfold cstep; rw [if_pos hb, hm]; rfl
        have e1 : selR b dr x = false := by unfold selR; rw [hm]; simp
        have e2 : selP b dr x = true := by unfold selP; rw [decide_eq_true hb, hm]; rfl
        rw [e, e1, e2]
        obtain ⟨i1, i2, i3, i4⟩ := cstep_sum g b dr xs ⟨a.at_, a.wt, a.fd, a.py ++ [sp3 x]⟩ h'
        rw [i1, i2, i3, i4]
        simp only [if_true, Bool.false_eq_true, if_false]
        refine ⟨trivial, trivial, ?_, trivial⟩
        show a.py ++ [sp3 x] ++ _ = _
        rw [List.append_assoc, List.map_cons]; rfl
    · have e : cstep b dr a x = a := by unfold cstep; rw [if_neg hb]
      have e1 : selR b dr x = false := by unfold selR; rw [decide_eq_false hb]; rfl
      have e2 : selP b dr x = false := by unfold selP; rw [decide_eq_false hb]; rfl
      rw [e, e1, e2]
      simp only [Bool.false_eq_true, if_false]
      exact cstep_sum g b dr xs a h'
theorem ledM_sum (g : Int → Int) (s one other z aside : Int) : csum g (ledM s one other z aside) = ledN one other z * g s := by
  unfold ledM ledN
  by_cases h : one = other
  · rw [if_pos h, if_pos h]; simp [csum]
  · rw [if_neg h, if_neg h]
    by_cases h2 : (if one - other < 0 then -(one - other) else one - other) < z
    · rw [if_pos h2, if_pos h2]
      rw [csum_cons, csum_cons]
      show g s + (g s + csum g []) = _
      have : csum g [] = 0 := rfl
      omega
    · rw [if_neg h2, if_neg h2]
      rw [csum_cons]
      show g s + csum g [] = _
      have : csum g [] = 0 := rfl
      omega
/-- what the payloads cost, from one spot on -/
def payA (g : Int → Int) : Int → List C3 → Int
  | _, [] => 0
  | sp, x :: xs => ledN x.2.1 sp x.2.2 * g x.1 + payA g (sp + x.2.2) xs
def payB (g : Int → Int) (news : Int → Int) : Int → List C3 → Int
  | _, [] => 0
  | sp, x :: xs => ledN sp (news x.1) x.2.2 * g x.1 + payB g news (sp + x.2.2) xs
def pksum (g news : Int → Int) (pk : List C3) : Int := (pk.map fun x => (ledN x.2.1 (news x.1) x.2.2 : Int) * g x.1).sum
theorem pksum_append (g news : Int → Int) (xs ys : List C3) : pksum g news (xs ++ ys) = pksum g news xs + pksum g news ys := by unfold pksum; simp
theorem ld_sum (g news : Int → Int) (at_ : Int) : ∀ (xs : List C3) (a : LdS), csum g (xs.foldl (ldStep at_) a).fd = csum g a.fd + payA g a.spot xs ∧ pksum g news (xs.foldl (ldStep at_) a).pk = pksum g news a.pk + payB g news a.spot xs
  | [], a => by simp [payA, payB]
  | x :: xs, a => by
    obtain ⟨h1, h2⟩ := ld_sum g news at_ xs (ldStep at_ a x)
    rw [List.foldl_cons, h1, h2, payA, payB]
    have e1 : csum g (ldStep at_ a x).fd = csum g a.fd + ledN x.2.1 a.spot x.2.2 * g x.1 := by
      show csum g (a.fd ++ ledM x.1 x.2.1 a.spot x.2.2 at_) = _
      rw [csum_append, ledM_sum]
    have e2 : pksum g news (ldStep at_ a x).pk = pksum g news a.pk + ledN a.spot (news x.1) x.2.2 * g x.1 := by
      show pksum g news (a.pk ++ [(x.1, a.spot, x.2.2)]) = _
      rw [pksum_append]
      unfold pksum
      simp
    have e3 : (ldStep at_ a x).spot = a.spot + x.2.2 := rfl
    rw [e1, e2, e3]
    omega
theorem f2_sum (g news : Int → Int) (at_ : Int) : ∀ (xs f : List C3), csum g (xs.foldl (f2M news at_) f) = csum g f + pksum g news xs
  | [], f => by simp [pksum]
  | x :: xs, f => by
    rw [List.foldl_cons, f2_sum g news at_ xs]
    have e : csum g (f2M news at_ f x) = csum g f + ledN x.2.1 (news x.1) x.2.2 * g x.1 := by
      show csum g (f ++ ledM x.1 x.2.1 (news x.1) x.2.2 at_) = _
      rw [csum_append, ledM_sum]
    have e2 : pksum g news (x :: xs) = ledN x.2.1 (news x.1) x.2.2 * g x.1 + pksum g news xs := by unfold pksum; simp
    rw [e, e2]; omega
theorem pksum_rev (g news : Int → Int) (xs : List C3) : pksum g news xs.reverse = pksum g news xs := by
  unfold pksum
  exact perm_sum ((List.reverse_perm xs).map _)
/-- the law's copies cost as much -/
theorem cop_sum {f g : Int → Int} (news : Int → Int) (b : Int) (dr : Option Int) : ∀ (xs : List Sp5) (a : Int × List Int), (∀ x ∈ xs, g x.s = f x.z) →
    sumf f (xs.foldl (copStep news b dr) a).2 = sumf f a.2 + 2 * ssum g (xs.filter (selR b dr)) + (payA g a.1 ((xs.filter (selP b dr)).map sp3) + payB g news a.1 ((xs.filter (selP b dr)).map sp3))
  | [], a, _ => by simp [ssum, payA, payB]
  | x :: xs, a, h => by
    have ih := cop_sum (f := f) (g := g) news b dr xs (copStep news b dr a x) fun y hy => h y (List.mem_cons_of_mem _ hy)
    have hz := h x List.mem_cons_self
    rw [List.foldl_cons, ih, List.filter_cons, List.filter_cons]
    by_cases hb : b ≤ x.r ∧ some x.s ≠ dr
    · by_cases hm : x.m = true
      · have e : copStep news b dr a x = (a.1, a.2 ++ [x.z, x.z]) := by unfold copStep; rw [if_pos hb, if_pos hm]
        have e1 : selR b dr x = true := by unfold selR; rw [decide_eq_true hb, hm]; rfl
        have e2 : selP b dr x = false := by unfold selP; rw [hm]; simp
        rw [e, e1, e2]
        simp only [if_true, Bool.false_eq_true, if_false, ssum_cons]
        rw [sumf_append]
        have : sumf f [x.z, x.z] = f x.z + f x.z := by simp [sumf]
        omega
      · have hm : x.m = false := by simpa using hm
        have e : copStep news b dr a x = (a.1 + x.z, a.2 ++ List.replicate (ledN x.at_ a.1 x.z) x.z ++ List.replicate (ledN a.1 (news x.s) x.z) x.z) := by unfold copStep; rw [if_pos hb, hm]; rfl
        have e1 : selR b dr x = false := by unfold selR; rw [hm]; simp
        have e2 : selP b dr x = true := by unfold selP; rw [decide_eq_true hb, hm]; rfl
        rw [e, e1, e2]
        simp only [if_true, Bool.false_eq_true, if_false, List.map_cons]
        rw [payA, payB, sumf_append, sumf_append, sumf_rep, sumf_rep]
        show _ + (ledN x.at_ a.1 x.z : Int) * f x.z + (ledN a.1 (news x.s) x.z : Int) * f x.z + _ + _ = _ + _ + ((ledN x.at_ a.1 x.z : Int) * g x.s + _ + ((ledN a.1 (news x.s) x.z : Int) * g x.s + _))
        rw [hz]
        show _ = _ + _ + (_ + payA g (a.1 + x.z) _ + (_ + payB g news (a.1 + x.z) _))
        omega
    · have e : copStep news b dr a x = a := by unfold copStep; rw [if_neg hb]
      have e1 : selR b dr x = false := by unfold selR; rw [decide_eq_false hb]; rfl
      have e2 : selP b dr x = false := by unfold selP; rw [decide_eq_false hb]; rfl
      rw [e, e1, e2]
      simp only [Bool.false_eq_true, if_false]
def putCost (g : Int → Int) (n : Int) : Dd → Int
  | .put _ => g n
  | .drop _ => 0
theorem spots_ser {q n : Int} {gs : List Rg} (L : Lawful q n gs) : ((spots q 0 gs).map (·.s)).Nodup := by
  have e : (spots q 0 gs).map (·.s) = (pairsW .file (allT gs)).map (·.1) := by rw [← spots_pairs q gs 0, List.map_map]; rfl
  rw [e]
  exact (pairsF_sub _).nodup L.ser
theorem spots_old {q n : Int} {gs : List Rg} (L : Lawful q n gs) : n ∉ (spots q 0 gs).map (·.s) := fun h => by
  have e : (spots q 0 gs).map (·.s) = (pairsW .file (allT gs)).map (·.1) := by rw [← spots_pairs q gs 0, List.map_map]; rfl
  rw [e] at h
  obtain ⟨p, hp, rfl⟩ := List.mem_map.mp h
  have := (file_ok L hp).2.1
  omega
theorem cp0_nodup {q n far : Int} {gs : List Rg} (L : Lawful q n gs) (d : Dd) : ((cp0 n far d).wt.map (·.1) ++ (spots q 0 gs).map (·.s)).Nodup := by
  cases d with
  | put z => exact List.nodup_cons.mpr ⟨spots_old L, spots_ser L⟩
  | drop s => exact spots_ser L
/-- the program's copies cost what the law's cost -/
theorem copies_sum {f g : Int → Int} {q n b far : Int} {gs later : List Rg} {d : Dd} (L : Lawful q n gs) (hg : ∀ p ∈ pairsW .file (allT gs), g p.1 = f p.2) :
    csum g (copiesM q n gs later b far d) = putCost g n d + sumf f (copiedM q gs later b (dropO d)) := by
  have hx : ∀ x ∈ spots q 0 gs, g x.s = f x.z := fun x hx => hg (x.s, x.z) (by rw [← spots_pairs q gs 0]; exact List.mem_map.mpr ⟨x, hx, rfl⟩)
  obtain ⟨h1, h2, h3, h4⟩ := cstep_sum g b (dropO d) (spots q 0 gs) (cp0 n far d) (cp0_nodup L d)
  have hc : sumf f (copiedM q gs later b (dropO d)) = sumf f [] + 2 * ssum g ((spots q 0 gs).filter (selR b (dropO d))) + (payA g (under q gs b) (((spots q 0 gs).filter (selP b (dropO d))).map sp3) + payB g (newsM q later) (under q gs b) (((spots q 0 gs).filter (selP b (dropO d))).map sp3)) := cop_sum (newsM q later) b (dropO d) (spots q 0 gs) (under q gs b, []) hx
  rw [hc]
  unfold copiesM
  rw [cp_spots L.ser]
  show csum g (List.foldl (f2M (newsM q later) ((spots q 0 gs).foldl (cstep b (dropO d)) (cp0 n far d)).at_) _ _ ++ _) = _
  rw [csum_append, f2_sum, pksum_rev]
  obtain ⟨l1, l2⟩ := ld_sum g (newsM q later) ((spots q 0 gs).foldl (cstep b (dropO d)) (cp0 n far d)).at_ ((spots q 0 gs).foldl (cstep b (dropO d)) (cp0 n far d)).py ⟨((spots q 0 gs).foldl (cstep b (dropO d)) (cp0 n far d)).fd, [], under q gs b⟩
  rw [l1, l2, h3]
  have e5 : csum g ((sortK (newsM q later) (((spots q 0 gs).foldl (cstep b (dropO d)) (cp0 n far d)).wt.map (·.1))).map fun s => (s, (valI ((spots q 0 gs).foldl (cstep b (dropO d)) (cp0 n far d)).wt s).getD 0, newsM q later s)) = ksum g ((spots q 0 gs).foldl (cstep b (dropO d)) (cp0 n far d)).wt := by
    unfold csum ksum
    rw [List.map_map]
    have : ((spots q 0 gs).foldl (cstep b (dropO d)) (cp0 n far d)).wt.map (fun p => g p.1) = (((spots q 0 gs).foldl (cstep b (dropO d)) (cp0 n far d)).wt.map (·.1)).map g := by rw [List.map_map]; rfl
    rw [this]
    exact perm_sum ((sortK_perm _ _).map g)
  rw [e5, h2]
  have e6 : (cp0 n far d).py = [] := by cases d <;> rfl
  have e7 : csum g (cp0 n far d).fd = 0 := by cases d <;> rfl
  have e8 : ksum g (cp0 n far d).wt = putCost g n d := by
    cases d with
    | put z => show (([(n, far)] : List (Int × Int)).map fun p => g p.1).sum = g n; simp
    | drop s => rfl
  have e9 : pksum g (newsM q later) [] = 0 := rfl
  have e0 : sumf f [] = 0 := rfl
  show csum g ((spots q 0 gs).foldl (cstep b (dropO d)) (cp0 n far d)).fd + _ + (pksum g (newsM q later) [] + _) + _ = _
  rw [h1, e6, e7, e8, e9, e0, List.nil_append]
  show 0 + _ + payA g (under q gs b) _ + (0 + payB g (newsM q later) (under q gs b) _) + _ = _
  omega
end K76
set_option maxRecDepth 100000
namespace K76
/-! ### what the tidying asks -/
theorem ranksOf_perm {fs fs' : List (Int × Int)} (h : fs.Perm fs') : ranksOf fs = ranksOf fs' := by
  unfold ranksOf
  refine List.filter_congr fun r _ => ?_
  rw [Bool.eq_iff_iff, List.any_eq_true, List.any_eq_true]
  exact ⟨fun ⟨f, h1, h2⟩ => ⟨f, h.mem_iff.mp h1, h2⟩, fun ⟨f, h1, h2⟩ => ⟨f, h.mem_iff.mpr h1, h2⟩⟩
theorem anewF_eq {gs : List Rg} {b : Int} {fs fs' : List (Int × Int)} (h : fs.Perm fs') : anewF gs b fs = anewF gs b fs' := by
  unfold anewF newR
  rw [ranksOf_perm h, sortP_eq h]
/-- this deed needs a tidying -/
def tidies (q : Int) (gs : List Rg) : Dd → Bool
  | .put z => (spot q z gs).isNone
  | .drop s => isHole s gs && (spot q (sizeOf s gs) gs).isNone
theorem done_tidy {q n : Int} {gs : List Rg} {d : Dd} (h : tidies q gs d = true) : doneM q n gs d = anewF gs (bgn gs (sizeD gs d)) (anewFs n gs (bgn gs (sizeD gs d)) (putO d) (dropO d)) := by
  cases d with
  | put z =>
    have hs : spot q z gs = none := Option.isNone_iff_eq_none.mp h
    rw [done_put_none hs]
    refine anewF_eq ?_
    show ((n, z) :: filesIn (bgn gs z) none gs).Perm (filesIn (bgn gs z) none gs ++ [(n, z)])
    exact (List.perm_append_comm (l₁ := [(n, z)]) (l₂ := filesIn (bgn gs z) none gs))
  | drop s =>
    obtain ⟨h1, h2⟩ := Bool.and_eq_true_iff.mp h
    rw [done_drop_none h1 (Option.isNone_iff_eq_none.mp h2)]
    refine anewF_eq (List.Perm.of_eq ?_)
    show filesIn (bgn gs (sizeOf s gs)) (some s) gs = filesIn (bgn gs (sizeOf s gs)) (some s) gs ++ []
    rw [List.append_nil]
theorem wr_tidy {q n : Int} {gs : List Rg} {d : Dd} (h : tidies q gs d = true) : wrM q n gs d = (match d with | .put z => [z, z] | .drop _ => []) ++ copiedM q gs (doneM q n gs d) (bgn gs (sizeD gs d)) (dropO d) := by
  cases d with
  | put z =>
    have hs : spot q z gs = none := Option.isNone_iff_eq_none.mp h
    show (if spot q z gs = none then _ else _) = _
    rw [if_pos hs]; rfl
  | drop s =>
    obtain ⟨h1, h2⟩ := Bool.and_eq_true_iff.mp h
    show (if isHole s gs = true ∧ spot q (sizeOf s gs) gs = none then _ else _) = _
    rw [if_pos ⟨h1, Option.isNone_iff_eq_none.mp h2⟩]; rfl
theorem wr_plain {q n : Int} {gs : List Rg} {d : Dd} (h : tidies q gs d = false) : wrM q n gs d = match d with | .put z => [z] | .drop _ => [] := by
  cases d with
  | put z =>
    show (if spot q z gs = none then _ else _) = _
    rw [if_neg fun e => by
      have : (spot q z gs).isNone = false := h
      rw [e] at this; cases this]
  | drop s =>
    show (if isHole s gs = true ∧ spot q (sizeOf s gs) gs = none then _ else _) = _
    rw [if_neg fun e => by
      have : (isHole s gs && (spot q (sizeOf s gs) gs).isNone) = false := h
      rw [e.1, e.2] at this; cases this]
theorem news_some {q : Int} {later : List Rg} {k : Int} (h : k ∈ (pairsW .file (allT later)).map (·.1)) : (valI (newsD q later) k).isSome = true := by
  refine valI_mem ?_
  refine ((dictI_keys (kf := fun x : C3 => x.1) (vf := fun x => x.2.1) (placesM q later) [] List.nodup_nil).2 k).mpr (.inr ?_)
  rw [← spots_pairs q later 0, List.map_map] at h
  obtain ⟨x, hx, rfl⟩ := List.mem_map.mp h
  exact ⟨sp3 x, by rw [places_spots]; exact List.mem_map.mpr ⟨x, hx, rfl⟩, rfl⟩
theorem newFiles_sel {n : Int} {fs : List (Int × Int)} {d : Dd} {s : Int} (h : s ∈ fs.map (·.1)) (hd : some s ≠ dropO d) : s ∈ (newFiles n fs d).map (·.1) := by
  cases d with
  | put z => exact List.mem_cons_of_mem _ h
  | drop k =>
    obtain ⟨p, hp, rfl⟩ := List.mem_map.mp h
    refine List.mem_map.mpr ⟨p, List.mem_filter.mpr ⟨hp, ?_⟩, rfl⟩
    have : p.1 ≠ k := fun e => hd (by rw [e]; rfl)
    simp [this]
theorem cp_ok {q n b far : Int} {gs later : List Rg} {d : Dd} (L : Lawful q n gs) (hl : (pairsW .file (allT later)).Perm (newFiles n (pairsW .file (allT gs)) d)) : CpOk q n gs later b far d := by
  have key : ∀ x ∈ spots q 0 gs, some x.s ≠ dropO d → (valI (newsD q later) x.s).isSome = true := fun x hx hd => by
    refine news_some ((hl.map (·.1)).mem_iff.mpr (newFiles_sel ?_ hd))
    rw [← spots_pairs q gs 0, List.map_map]
    exact List.mem_map.mpr ⟨x, hx, rfl⟩
  obtain ⟨_, _, h3, h4⟩ := cstep_sum (fun _ => 0) b (dropO d) (spots q 0 gs) (cp0 n far d) (cp0_nodup L d)
  refine ⟨fun x hx => ?_, fun p hp => ?_, fun x hx => ?_⟩
  · rw [places_spots] at hx
    obtain ⟨y, hy, rfl⟩ := List.mem_map.mp hx
    exact ⟨_, spot_seat L.ser hy⟩
  · rw [cp_spots L.ser] at hp
    have hk : p.1 ∈ ((spots q 0 gs).foldl (cstep b (dropO d)) (cp0 n far d)).wt.map (·.1) := List.mem_map.mpr ⟨p, hp, rfl⟩
    rw [h4] at hk
    rcases List.mem_append.mp hk with hk | hk
    · cases d with
      | put z =>
        have : p.1 = n := List.mem_singleton.mp hk
        rw [this]
        refine news_some ((hl.map (·.1)).mem_iff.mpr ?_)
        exact List.mem_cons_self
      | drop s => cases hk
    · obtain ⟨y, hy, e⟩ := List.mem_map.mp hk
      obtain ⟨hy1, hy2⟩ := List.mem_filter.mp hy
      rw [← e]
      refine key y hy1 ?_
      unfold selR at hy2
      rw [Bool.and_eq_true, decide_eq_true_eq] at hy2
      exact hy2.1.2
  · rw [cp_spots L.ser, h3] at hx
    have e6 : (cp0 n far d).py = [] := by cases d <;> rfl
    rw [e6, List.nil_append] at hx
    obtain ⟨y, hy, rfl⟩ := List.mem_map.mp hx
    obtain ⟨hy1, hy2⟩ := List.mem_filter.mp hy
    refine key y hy1 ?_
    unfold selP at hy2
    rw [Bool.and_eq_true, decide_eq_true_eq] at hy2
    exact hy2.1.2
theorem copies_len {q n b far : Int} {gs later : List Rg} {d : Dd} (h : (placesM q gs).length ≤ 200) : (copiesM q n gs later b far d).length ≤ 10000 := by
  have cl := cp_len gs b (dropO d) (placesM q gs) (cp0 n far d)
  have cl0 := cp0_len n far d
  have ll := ld_len ((placesM q gs).foldl (cpStep gs b (dropO d)) (cp0 n far d)).at_ ((placesM q gs).foldl (cpStep gs b (dropO d)) (cp0 n far d)).py ⟨((placesM q gs).foldl (cpStep gs b (dropO d)) (cp0 n far d)).fd, [], under q gs b⟩
  have fl := f2_len (newsM q later) ((placesM q gs).foldl (cpStep gs b (dropO d)) (cp0 n far d)).at_ (((placesM q gs).foldl (cpStep gs b (dropO d)) (cp0 n far d)).py.foldl (ldStep ((placesM q gs).foldl (cpStep gs b (dropO d)) (cp0 n far d)).at_) ⟨((placesM q gs).foldl (cpStep gs b (dropO d)) (cp0 n far d)).fd, [], under q gs b⟩).pk.reverse (((placesM q gs).foldl (cpStep gs b (dropO d)) (cp0 n far d)).py.foldl (ldStep ((placesM q gs).foldl (cpStep gs b (dropO d)) (cp0 n far d)).at_) ⟨((placesM q gs).foldl (cpStep gs b (dropO d)) (cp0 n far d)).fd, [], under q gs b⟩).fd
  have e2 := congrArg List.length ll.2
  rw [List.length_map, List.length_append, List.length_map, List.length_map] at e2
  rw [List.length_reverse] at fl
  have l1 : (((placesM q gs).foldl (cpStep gs b (dropO d)) (cp0 n far d)).py.foldl (ldStep ((placesM q gs).foldl (cpStep gs b (dropO d)) (cp0 n far d)).at_) ⟨((placesM q gs).foldl (cpStep gs b (dropO d)) (cp0 n far d)).fd, [], under q gs b⟩).fd.length ≤ ((placesM q gs).foldl (cpStep gs b (dropO d)) (cp0 n far d)).fd.length + 2 * ((placesM q gs).foldl (cpStep gs b (dropO d)) (cp0 n far d)).py.length := ll.1
  have l2 : (((placesM q gs).foldl (cpStep gs b (dropO d)) (cp0 n far d)).py.foldl (ldStep ((placesM q gs).foldl (cpStep gs b (dropO d)) (cp0 n far d)).at_) ⟨((placesM q gs).foldl (cpStep gs b (dropO d)) (cp0 n far d)).fd, [], under q gs b⟩).pk.length = 0 + ((placesM q gs).foldl (cpStep gs b (dropO d)) (cp0 n far d)).py.length := e2
  unfold copiesM
  show (List.foldl (f2M (newsM q later) ((placesM q gs).foldl (cpStep gs b (dropO d)) (cp0 n far d)).at_) _ _ ++ _).length ≤ _
  rw [List.length_append, List.length_map, (sortK_perm _ _).length_eq, List.length_map]
  omega
theorem file_sure {q n s : Int} {gs : List Rg} (L : Lawful q n gs) (h : s ∈ (pairsW .file (allT gs)).map (·.1)) : FileAt gs s (sizeOf s gs) :=
  ⟨file_at h, fun _ ht hs => (size_one L.law0 ht hs).symm⟩
theorem hole_any {q n s : Int} {gs : List Rg} (L : Lawful q n gs) (h : s ∈ (pairsW .file (allT gs)).map (·.1)) : ((allT (gs.map (markR s))).any fun t => decide (t = ⟨.hole, s, sizeOf s gs⟩)) = isHole s gs := by
  rw [Bool.eq_iff_iff, List.any_eq_true]
  constructor
  · rintro ⟨t, ht, e⟩
    have e := of_decide_eq_true e
    obtain ⟨g, hg, hm⟩ := mem_allT.mp ht
    obtain ⟨g0, hg0, rfl⟩ := List.mem_map.mp hg
    obtain ⟨u, hu, hus⟩ := file_at h
    rcases hm with hm | hm
    · obtain ⟨v, hv, a1, a2, a3⟩ := mem_mark hm
      rcases a3 with rfl | ⟨a3, _⟩
      · exfalso
        have tm : t ∈ allT gs := mem_allT.mpr ⟨g0, hg0, .inl hv⟩
        have := one_file L.ser tm hu (by rw [e]; exact fun z => nomatch z) (isF_ne hus) (by rw [e]; exact (isF_iff.mp hus).2.symm)
        rw [← this, isF_iff, e] at hus
        exact nomatch hus.1
      · exact isHole_iff.mpr ⟨v, List.mem_flatMap.mpr ⟨g0, hg0, hv⟩, a3⟩
    · obtain ⟨v, hv, a1, a2, a3⟩ := mem_mark hm
      exfalso
      rcases a3 with rfl | ⟨_, a3⟩
      · have := ((L.rg g0 hg0).m t hv).1
        rw [e] at this
        simp at this
      · rw [e] at a3; cases a3
  · intro hh
    obtain ⟨t, ht, hs⟩ := isHole_iff.mp hh
    obtain ⟨g, hg, hp⟩ := List.mem_flatMap.mp ht
    have sz := size_one L.law0 (pay_mem ht) hs
    refine ⟨{ t with w := .hole }, mem_allT.mpr ⟨markR s g, List.mem_map.mpr ⟨g, hg, rfl⟩, .inl ?_⟩, decide_eq_true ?_⟩
    · show _ ∈ mark .hole s g.p
      unfold mark
      exact List.mem_map.mpr ⟨t, hp, by rw [if_pos hs]⟩
    · rw [sz, ← (isF_iff.mp hs).2]
theorem dropped_done {q n s : Int} {gs : List Rg} (h : tidies q gs (.drop s) = false) : droppedM q s (sizeOf s gs) gs = some (doneM q n gs (.drop s)) := by
  unfold droppedM
  cases hh : isHole s gs with
  | false => rw [if_neg (fun z => nomatch z), done_drop_room hh]
  | true =>
    rw [if_pos rfl]
    cases hs : spot q (sizeOf s gs) gs with
    | some i => rw [done_drop_some hh hs]; rfl
    | none =>
      have : (isHole s gs && (spot q (sizeOf s gs) gs).isNone) = false := h
      rw [hh, hs] at this; cases this
theorem size_ok {q n : Int} {gs : List Rg} {d : Dd} (L : Lawful q n gs) (D : DeedOk gs d) : 1 ≤ sizeD gs d ∧ sizeD gs d ≤ 4096 := by
  cases d with
  | put z => exact D
  | drop s =>
    obtain ⟨r, t, _, e, h1, h2⟩ := drop_seat L D
    show 1 ≤ sizeOf s gs ∧ sizeOf s gs ≤ 4096
    rw [← e]
    exact ⟨h1, h2⟩
theorem anewFs_len {n b : Int} {gs : List Rg} {d : Dd} : (anewFs n gs b (putO d) (dropO d)).length ≤ (allT gs).length + 1 := by
  unfold anewFs
  have := filesIn_len b (dropO d) gs
  rw [List.length_append]
  cases d with
  | put z => show _ + 1 ≤ _; omega
  | drop s => show _ + 0 ≤ _; omega
theorem anewFs_size {q n b : Int} {gs : List Rg} {d : Dd} (L : Lawful q n gs) (D : DeedOk gs d) : ∀ f ∈ anewFs n gs b (putO d) (dropO d), 1 ≤ f.2 ∧ f.2 ≤ 4096 := by
  intro f hf
  unfold anewFs at hf
  rcases List.mem_append.mp hf with hf | hf
  · rw [filesIn_eq] at hf
    obtain ⟨t, ht, rfl⟩ := List.mem_map.mp hf
    have ht := (List.mem_filter.mp ht).1
    have ht : t ∈ allT gs := (allT_sub List.filter_sublist).mem (show t ∈ allT (gs.filter fun g => decide (b ≤ g.r)) from ht)
    obtain ⟨g, hg, h⟩ := mem_allT.mp ht
    rcases h with h | h
    · exact ((L.rg g hg).p t h).2.2.2
    · exact ((L.rg g hg).m t h).2.2.2
  · cases d with
    | put z =>
      have : f = (n, z) := List.mem_singleton.mp hf
      rw [this]; exact D
    | drop s => cases hf
/-! ### a history -/
/-- the states ahead of each deed -/
def states (q : Int) : Int → List Rg → List Dd → List (Int × List Rg)
  | _, _, [] => []
  | n, gs, d :: ds => (n, gs) :: states q (newN n d) (doneM q n gs d) ds
end K76
set_option maxRecDepth 100000
set_option maxHeartbeats 4000000
namespace K76
open PySem PySem.Spec PyProof.Rows L2
def farM (q : Int) (gs later : List Rg) : Int := if endG q later > endG q gs then endG q later else endG q gs
/-- the tidying of a deed -/
def tidM (q n : Int) (gs : List Rg) (d : Dd) : List C3 := copiesM q n gs (doneM q n gs d) (bgn gs (sizeD gs d)) (farM q gs (doneM q n gs d)) d
@[reducible] def dTold (q n : Int) (gs : List Rg) (d : Dd) : D := dTid (bgn gs (sizeD gs d)) (dLay q (newN n d) (doneM q n gs d)) (farM q gs (doneM q n gs d)) (tidM q n gs d)
theorem deedOk_of {q n : Int} {gs : List Rg} {d : Dd} (L : Lawful q n gs) (D : DeedOk gs d) : deedOk d := by
  cases d with
  | put z => exact D
  | drop s =>
    obtain ⟨p, hp, rfl⟩ := List.mem_map.mp D
    exact (file_ok L hp).1
theorem spot_tidy {q : Int} {gs : List Rg} {d : Dd} (h : tidies q gs d = true) : spot q (sizeD gs d) gs = none := by
  cases d with
  | put z => exact Option.isNone_iff_eq_none.mp h
  | drop s => exact Option.isNone_iff_eq_none.mp (Bool.and_eq_true_iff.mp h).2
section
variable {P : Program} {w : World} {K : PySem.W.Frag} {mg : Str → Option Value} {base : Heap}
theorem sc_tidying : FnScope ["layout", "deed", "seat", "size", "rank", "later", "far", "put", "drop"] ["layout", "deed"] (defScope (top 74)) := ⟨rfl, rfl, rfl, by decide +kernel, rfl, by decide +kernel, by decide +kernel⟩
def R_tidying : List D → D → Prop := fun ds d => ∃ q n gs dd, ds = [dLay q n gs, dDd dd] ∧ 2 ≤ q ∧ q ≤ 64 ∧ 0 ≤ n ∧ Lawful q n gs ∧ DeedOk gs dd ∧ (allT gs).length < 63 ∧ tidies q gs dd = true ∧ d = dTold q n gs dd
theorem ok_tidying (T : Tx mg) (F : FnT K mg 74 "tidying") (K1 : Kn P w K mg base "need_layout" 1 R_needlay) (K2 : Kn P w K mg base "is_deed" 3 R_isdeed) (K3 : Kn P w K mg base "seat_of" 1 R_seat) (K4 : Kn P w K mg base "room_for" 5 R_roomfor) (K5 : Kn P w K mg base "rank_drawn" 8 R_drawn) (K6 : Kn P w K mg base "laid_anew" 9 R_anew) (K7 : Kn P w K mg base "length" 4 R_length) (K8 : Kn P w K mg base "copies_of" 6 R_copies) (K9 : KnI P w K mg base "Tidying" 8 R_tid) : Kn P w K mg base "tidying" 10 R_tidying := by
  obtain ⟨f, fd, F, g⟩ := F
  refine kn_of F g sc_tidying (fun ds d h => by obtain ⟨_, _, _, _, rfl, _⟩ := h; rfl) (fun _ _ _ _ _ _ us hl => match us, hl with | [_, _], _ => rfl) ?_
  rintro cdv A outer s H E hr ds d ⟨q, n, gs, dd, rfl, q1, q2, n0, L, D, hl, ht, rfl⟩
  have nd := sc_tidying.nd
  obtain ⟨z1, z2⟩ := size_ok L D
  have hsp := spot_tidy ht
  obtain ⟨L', l', hfs⟩ := done_ok L (by omega) n0 (by omega) D
  have len := L.len
  refine ss_cons (s_expr (d_call K1 hr (a_cons (d_var 0) a_nil) ⟨_, rfl, rfl⟩) ?_)
  refine ss_cons (s_ifF0 (DT.eq (t_not (t_val (d_call K2 hr (a_cons (d_var 1) a_nil) ⟨dd, rfl, deedOk_of L D, rfl⟩))) rfl) ?_)
  refine ss_cons (s_asg (p := .tp [.nm 7, .nm 8]) (d := .tup [dO (putO dd), dO (dropO dd)]) ?_ (g_tp (gs_cons (g_nm 7 nd) (gs_cons (g_nm 8 nd) gs_nil))) rfl ?_)
  · cases dd with
    | put z => exact d_ifT (DT.eq (t_eqS (d_ix (d_var 1) (.tup _)) d_str) (by decide)) (d_tup (a_cons (d_ix (d_var 1) (.tup _)) (a_cons d_non a_nil)))
    | drop z => exact d_ifF (DT.eq (t_eqS (d_ix (d_var 1) (.tup _)) d_str) (by decide)) (d_tup (a_cons d_non (a_cons (d_ix (d_var 1) (.tup _)) a_nil)))
  suffices hrest : ∀ e2 : Option Sl, DSs (Cxf P w K mg base ["layout", "deed", "seat", "size", "rank", "later", "far", "put", "drop"] "tidying" (defScope (top 74)) f cdv A outer s H E) ((defBody (top 74)).drop 7)
      [some (.val (dLay q n gs)), some (.val (dDd dd)), e2, some (.val (.int (sizeD gs dd))), none, none, none, some (.val (dO (putO dd))), some (.val (dO (dropO dd)))] (retK (dTold q n gs dd)) by
    cases dd with
    | put z =>
      refine ss_cons (s_set 2 nd (d_ifT (DT.eq (t_isN (d_var 8)) rfl) d_non) ?_)
      refine ss_cons (s_ifF0 (DT.eq (DW.t (w_and (q := false) (t_notN (d_var 8)) fun h => by exact absurd h Bool.false_ne_true)) rfl) ?_)
      refine ss_cons (s_set 3 nd (d_ifT (DT.eq (t_isN (d_var 2)) rfl) (d := .int z) (d_var 7)) ?_)
      refine ss_cons (s_ifF0 (DT.eq (DW.t (w_or (DW.t (w_and (q := false) (t_notN (d_var 2)) fun h => by exact absurd h Bool.false_ne_true)) fun _ => (w_or1 (t_notN (d_call K4 hr (a_cons (d_var 0) (a_cons (d_var 3) a_nil)) ⟨q, n, gs, z, rfl, q1, q2, z1, z2, L, rfl⟩))))) (by rw [show spot q z gs = none from hsp]; rfl)) ?_)
      exact hrest _
    | drop z =>
      obtain ⟨r, t, e1, e2, e3, e4⟩ := drop_seat L D
      have hh : isHole z gs = true := (Bool.and_eq_true_iff.mp ht).1
      rw [hh] at e1
      refine ss_cons (s_set 2 nd (d_ifF (DT.eq (t_isN (d_var 8)) rfl) (d := dSeat (some (r, false, t))) (DE.eq (d_call K3 hr (a_cons (d_var 0) (a_cons (d_var 8) a_nil)) ⟨q, n, gs, z, rfl, L, rfl⟩) (by rw [e1]; rfl))) ?_)
      refine ss_cons (s_ifF0 (DT.eq (DW.t (w_and (t_notN (d_var 8)) fun _ => (w_and1 (t_isN (d_var 2))))) rfl) ?_)
      refine ss_cons (s_set 3 nd (d_ifF (DT.eq (t_isN (d_var 2)) rfl) (d := .int (sizeOf z gs)) (DE.eq (d_ix (d_var 2) (.tup _)) (by rw [← e2]))) ?_)
      refine ss_cons (s_ifF0 (DT.eq (DW.t (w_or (DW.t (w_and (t_notN (d_var 2)) fun _ => (w_and1 (t_val (d_ix (d_var 2) (.tup _)))))) fun _ => (w_or1 (t_notN (d_call K4 hr (a_cons (d_var 0) (a_cons (d_var 3) a_nil)) ⟨q, n, gs, sizeOf z gs, rfl, q1, q2, z1, z2, L, rfl⟩))))) (by rw [show spot q (sizeOf z gs) gs = none from hsp]; rfl)) ?_)
      exact hrest _
  intro e2
  have en : newN n dd = n + if (putO dd).isSome then 1 else 0 := by cases dd <;> simp [newN, putO]
  refine ss_cons (s_set 4 nd (d_call K5 hr (a_cons (d_var 0) (a_cons (d_var 3) a_nil)) ⟨q, n, gs, _, rfl, z1, z2, L, rfl⟩) ?_)
  refine ss_cons (s_set 5 nd (d := dLay q (newN n dd) (doneM q n gs dd)) (DE.eq (d_call K6 hr (a_cons (d_var 0) (a_cons (d_var 4) (a_cons (d_var 7) (a_cons (d_var 8) a_nil)))) ⟨q, n, gs, bgn gs (sizeD gs dd), putO dd, dropO dd, rfl, q1, q2, n0, L, Nat.lt_of_le_of_lt anewFs_len (by omega), anewFs_size L D, ?_, rfl⟩) ?_) ?_)
  · rw [← en, ← done_tidy ht]; exact L'
  · rw [← en, ← done_tidy ht]
  refine ss_cons (s_set 6 nd (d_max2 T.max (d_call K7 hr (a_cons (d_var 0) a_nil) ⟨q, n, gs, rfl, q1, q2, L, rfl⟩) (d_call K7 hr (a_cons (d_var 5) a_nil) ⟨q, newN n dd, doneM q n gs dd, rfl, q1, q2, L', rfl⟩)) ?_)
  refine ss_cons (s_ret (d_make K9 hr (a_cons (d_var 4) (a_cons (d_var 5) (a_cons (d_var 6) (a_cons (d_call K8 hr (a_cons (d_var 0) (a_cons (d_var 5) (a_cons (d_var 4) (a_cons (d_var 6) (a_cons (d_var 1) a_nil))))) ⟨q, n, gs, newN n dd, doneM q n gs dd, bgn gs (sizeD gs dd), farM q gs (doneM q n gs dd), dd, rfl, q1, q2, L, L', cp_ok L hfs, rfl⟩) a_nil)))) ⟨_, q, newN n dd, doneM q n gs dd, farM q gs (doneM q n gs dd), tidM q n gs dd, rfl, copies_len (places_len L), rfl⟩) rfl)
end
end K76
set_option maxRecDepth 100000
set_option maxHeartbeats 4000000
namespace K76
open PySem PySem.Spec PyProof.Rows L2
def hStep (a : Int × List (Int × D)) : Dd → Int × List (Int × D)
  | .put _ => (a.1 + 1, putI a.2 a.1 (.bl true))
  | .drop s => (a.1, dropI a.2 s)
/-- what is dropped was put, and not dropped before -/
def HistOk (dds : List Dd) : Prop := ∀ i s, dds[i]? = some (.drop s) → (valI ((dds.take i).foldl hStep (0, [])).2 s).isSome = true
theorem dropI_len {α : Type} (kvs : List (Int × α)) (k : Int) : (dropI kvs k).length ≤ kvs.length := List.length_filter_le _ _
theorem hist_len : ∀ (ds : List Dd) (a : Int × List (Int × D)), (ds.foldl hStep a).2.length ≤ a.2.length + ds.length
  | [], a => Nat.le_refl _
  | d :: ds, a => by
    have h1 := hist_len ds (hStep a d)
    have h2 : (hStep a d).2.length ≤ a.2.length + 1 := by
      cases d with
      | put z => exact putI_len a.2 a.1 _
      | drop s => exact Nat.le_succ_of_le (dropI_len a.2 s)
    rw [List.foldl_cons, List.length_cons]
    omega
section
variable {P : Program} {w : World} {K : PySem.W.Frag} {mg : Str → Option Value} {base : Heap}
theorem sc_History_init : FnScope ["self", "q", "deeds", "puts", "files", "word", "number", "deed"] ["self", "q", "deeds"] (defScope (inClass (top 77) 0)) := ⟨rfl, rfl, rfl, by decide +kernel, rfl, by decide +kernel, by decide +kernel⟩
def R_history : List D → List (Str × D) → Prop := fun ds fs => ∃ (q : Int) (dds : List Dd), ds = [.int q, .lst (dds.map dDd)] ∧ 2 ≤ q ∧ q ≤ 64 ∧ dds.length ≤ 200 ∧ (∀ d ∈ dds, deedOk d) ∧ HistOk dds ∧ fs = fHis q dds
theorem ok_History (T : Tx mg) (Cn : Cs K mg) (F : IniT K mg 77 0 "History" "History.__init__") (C : ClsF K mg "History" ["q", "deeds"]) (K1 : Kn P w K mg base "need_q" 4 R_q) (K2 : Kn P w K mg base "is_deed" 3 R_isdeed) (K4 : Kn P w K mg base "fixed" 5 (R_fixed 4)) : KnI P w K mg base "History" 6 R_history := by
  obtain ⟨Ca, f, fd, F, g, M⟩ := F
  refine knI_of F g M sc_History_init (fun ds d h => by obtain ⟨_, _, rfl, _⟩ := h; rfl) (fun _ _ _ _ _ _ us hl => match us, hl with | [_, _, _], _ => rfl) ?_
  rintro cdv A outer s H E hr l ds fs ⟨q, dds, rfl, q1, q2, hl, hd, ho, rfl⟩
  have nd := sc_History_init.nd
  refine ss_cons (s_expr (d_call K1 hr (a_cons (d_var 1) a_nil) ⟨q, rfl, q1, q2, rfl⟩) ?_)
  refine ss_cons (s_ifF0 (DT.eq (DW.t (w_or (t_not (p := true) (t_val (d_isTT (T := "list") (T1 := "list") (T2 := "tuple") (r1 := true) (r2 := false) T.isinstance (d_var 2) T.list (by decide +kernel) T.tuple (by decide +kernel) rfl (by decide +kernel) (by decide +kernel)))) fun _ => w_or1 (t_not (t_val (d_all (xs := dds) (f := fun _ => true) T.all (DF.de (f_lc (p := .nm 7) (xs := dds) (enc := dDd) (f := fun _ => .bl true) [("deed", 7)] nd (i_lst (d_var 2)) (blkOk_by (by kernel_rfl)) (fun _ _ _ _ _ => g_nm 7 nd) (by decide) (by omega) (fun x hx => ⟨_, rfl, fun _ _ _ _ _ => (d_call K2 hr (a_cons (d_var 7) a_nil) ⟨x, rfl, hd x hx, rfl⟩)⟩)))))))) (by simp)) ?_)
  refine ss_cons (s_par2 3 4 nd (ls_cons (l_val d_int) (ls_cons l_dct ls_nil)) ?_)
  refine ss_cons (s_for (xs := dds) (enc := dDd) (p := .tp [.nm 5, .nm 6]) (i_lst (d_var 2)) (g_tp (gs_cons (g_nm 5 nd) (gs_cons (g_nm 6 nd) gs_nil)))
    (fun i ρ => ∃ (e5 e6 : Option Sl) (a : Int × List (Int × D)) (kvs : List (Int × D)) (n : Int), ρ = [some (.ins l "History" []), some (.val (.int q)), some (.val (.lst (dds.map dDd))), some (.val (.int n)), some (.md kvs), e5, e6, none] ∧ n = a.1 ∧ kvs = a.2 ∧ a = (dds.take i).foldl hStep (0, [])) ?_ ?_ ?_)
  · exact ⟨_, _, (0, []), _, _, rfl, rfl, rfl, rfl⟩
  · rintro i x ρ hx ⟨e5, e6, a, kvs, n, rfl, rfl, rfl, ha⟩
    have hstep : (dds.take (i + 1)).foldl hStep (0, []) = hStep a x := by
      rw [List.take_add_one, hx, List.foldl_append, ← ha]; rfl
    have kl := hist_len (dds.take i) (0, [])
    rw [← ha, List.length_take] at kl
    have kl2 : a.2.length ≤ 200 := by
      have : a.2.length ≤ ([] : List (Int × D)).length + min i dds.length := kl
      rw [List.length_nil] at this; omega
    cases x with
    | put z =>
      refine ⟨_, rfl, ?_⟩
      refine ss_cons (s_ifT (DT.eq (t_eqS (d_var 5) d_str) (by decide)) ?_)
      refine ss_cons (s_dputO 4 hr d_bl (d_var 3) ?_ (Nat.lt_of_le_of_lt kl2 (by decide)))
      refine ss_cons (s_set 3 nd (d_add (d_var 3) d_int) (ss_nil ?_))
      exact ss_nil ⟨_, _, hStep a (.put z), _, _, rfl, rfl, rfl, hstep.symm⟩
    | drop sr =>
      have hs := ho i sr hx
      rw [← ha] at hs
      refine ⟨_, rfl, ?_⟩
      refine ss_cons (s_ifF (DT.eq (t_eqS (d_var 5) d_str) (by decide)) ?_)
      refine ss_cons (s_ifF (DT.eq (t_notInO 4 hr (d_var 6)) (by rw [hs]; rfl)) ?_)
      refine ss_cons (s_ddelO 4 (d_var 6) ?_ hs)
      exact ss_nil (ss_nil (ss_nil ⟨_, _, hStep a (.drop sr), _, _, rfl, rfl, rfl, hstep.symm⟩))
  · rintro ρ ⟨e5, e6, a, kvs, n, rfl, rfl, rfl, ha⟩
    refine ss_cons (s_ifF0 (DT.eq (t_gt (d_len T.len (d_var 2) (.lst _)) (d_glob Cn.md)) (by rw [List.length_map]; exact decide_eq_false (by omega))) ?_)
    refine ss_cons (s_fldI 0 (d_var 1) C.at ?_)
    refine ss_cons (s_fldI 0 (DE.eq (y := .tup (dds.map dDd)) (d_call K4 hr (a_cons (d_var 2) a_nil) ⟨_, rfl, ?_, ?_, rfl⟩) ?_) C.at ?_)
    · show fixOk 4 (.lst (dds.map dDd)) = true
      rw [fixOk, fixOks_all, List.all_eq_true]
      intro d hd
      obtain ⟨x, _, rfl⟩ := List.mem_map.mp hd
      cases x <;> rfl
    · show smallD 4 (.lst (dds.map dDd)) = true
      rw [smallD, Bool.and_eq_true, decide_eq_true_eq, List.all_eq_true]
      refine ⟨by rw [List.length_map]; omega, ?_⟩
      rintro ⟨d, hd⟩ _
      obtain ⟨x, _, rfl⟩ := List.mem_map.mp hd
      cases x <;> rfl
    · show D.tup (fixDs (dds.map dDd)) = _
      rw [fixDs_map, List.map_map]
      congr 1
      refine List.map_congr_left fun x _ => ?_
      cases x <;> rfl
    · exact ss_nil rfl
theorem sc_need_history : FnScope ["value", "part"] ["value", "part"] (defScope (top 78)) := ⟨rfl, rfl, rfl, by decide +kernel, rfl, by decide +kernel, by decide +kernel⟩
def R_needhis : List D → D → Prop := fun ds d => ∃ fs, ds = [.obj "History" fs] ∧ d = .non
theorem ok_need_history (T : Tx mg) (F : FnTD K mg 78 "need_history" (.str "history")) (I : ∀ X : Cx, X.K = K → X.mg = mg → IsC X "History") : Kn P w K mg base "need_history" 1 R_needhis := by
  obtain ⟨f, fd, F, g⟩ := F
  refine kn_ofD 1 F g sc_need_history rfl (fun ds d h => by obtain ⟨_, rfl, _⟩ := h; rfl) (fun H => .str _) (fun T kV doc pm an cdv ct us its hl hi => ?_) ?_
  · match us, hl, its, hi with
    | [u], _, [i], _ => exact ⟨_, rfl, rfl⟩
  · rintro cdv A outer s H E hr ds d ⟨fs, rfl, rfl⟩
    exact ss_cons (s_ifF0 (t_not (p := true) (t_val (d_isC T.isinstance (d_var 0) (I _ rfl rfl)))) (ss_nil rfl))
/-- what done tells of a tidying -/
@[reducible] def dTo (q n : Int) (gs : List Rg) (d : Dd) : D := if tidies q gs d then dTold q n gs d else .non
/-- what is known of a layout ahead of a deed -/
structure StOk (q n : Int) (gs : List Rg) (d : Dd) : Prop where
  n0 : 0 ≤ n
  L : Lawful q n gs
  D : DeedOk gs d
  len : (allT gs).length < 63
theorem sc_done : FnScope ["layout", "deed", "told", "_", "is_room", "size"] ["layout", "deed"] (defScope (top 79)) := ⟨rfl, rfl, rfl, by decide +kernel, rfl, by decide +kernel, by decide +kernel⟩
def R_done : List D → D → Prop := fun ds d => ∃ q n gs dd, ds = [dLay q n gs, dDd dd] ∧ 2 ≤ q ∧ q ≤ 64 ∧ StOk q n gs dd ∧ d = .tup [dLay q (newN n dd) (doneM q n gs dd), dTo q n gs dd]
theorem ok_done (T : Tx mg) (F : FnT K mg 79 "done") (CL : ClsF K mg "Tidying" ["word", "parts", "rank", "layout", "far", "copies"]) (K1 : Kn P w K mg base "room_for" 5 R_roomfor) (K2 : Kn P w K mg base "put_in" 9 R_putin) (K3 : Kn P w K mg base "seat_of" 1 R_seat) (K4 : Kn P w K mg base "dropped" 9 R_dropped) (K5 : Kn P w K mg base "tidying" 10 R_tidying) : Kn P w K mg base "done" 11 R_done := by
  obtain ⟨f, fd, F, g⟩ := F
  refine kn_of F g sc_done (fun ds d h => by obtain ⟨_, _, _, _, rfl, _⟩ := h; rfl) (fun _ _ _ _ _ _ us hl => match us, hl with | [_, _], _ => rfl) ?_
  rintro cdv A outer s H E hr ds d ⟨q, n, gs, dd, rfl, q1, q2, S, rfl⟩
  have nd := sc_done.nd
  have L := S.L
  have D := S.D
  obtain ⟨z1, z2⟩ := size_ok L D
  obtain ⟨L', l', hfs⟩ := done_ok L (by omega) S.n0 (by have := S.len; omega) D
  suffices hrest : tidies q gs dd = true → ∀ e3 e4 e5 : Option Sl, DSs (Cxf P w K mg base ["layout", "deed", "told", "_", "is_room", "size"] "done" (defScope (top 79)) f cdv A outer s H E) ((defBody (top 79)).drop 2)
      [some (.val (dLay q n gs)), some (.val (dDd dd)), none, e3, e4, e5] (retK (.tup [dLay q (newN n dd) (doneM q n gs dd), dTo q n gs dd])) by
    cases dd with
    | put z =>
      cases hs : spot q z gs with
      | some i =>
        have ht : tidies q gs (.put z) = false := by show (spot q z gs).isNone = false; rw [hs]; rfl
        refine ss_cons (s_ifT (DT.eq (DW.t (w_and (DT.eq (q := true) (t_eqS (d_ix (d_var 1) (.tup _)) d_str) (by decide)) fun _ => (w_and1 (t_notN (d_call K1 hr (a_cons (d_var 0) (a_cons (d_ix (d_var 1) (.tup _)) a_nil)) ⟨q, n, gs, z, rfl, q1, q2, z1, z2, L, rfl⟩))))) (by rw [hs]; rfl)) ?_)
        have e : dTo q n gs (.put z) = .non := if_neg (by rw [ht]; exact Bool.false_ne_true)
        rw [e, done_put_some hs]
        rw [done_put_some hs] at L'
        exact ss_cons (s_ret (d_tup (a_cons (d_call K2 hr (a_cons (d_var 0) (a_cons (d_ix (d_var 1) (.tup _)) a_nil)) ⟨q, n, gs, z, i, rfl, q1, q2, S.n0, z1, z2, L, hs, L', rfl⟩) (a_cons d_non a_nil))) rfl)
      | none =>
        have ht : tidies q gs (.put z) = true := by show (spot q z gs).isNone = true; rw [hs]; rfl
        refine ss_cons (s_ifF0 (DT.eq (DW.t (w_and (DT.eq (q := true) (t_eqS (d_ix (d_var 1) (.tup _)) d_str) (by decide)) fun _ => (w_and1 (t_notN (d_call K1 hr (a_cons (d_var 0) (a_cons (d_ix (d_var 1) (.tup _)) a_nil)) ⟨q, n, gs, z, rfl, q1, q2, z1, z2, L, rfl⟩))))) (by rw [hs]; rfl)) ?_)
        refine ss_cons (s_ifF0 (DT.eq (t_eqS (d_ix (d_var 1) (.tup _)) d_str) (by decide)) ?_)
        exact hrest ht _ _ _
    | drop z =>
      obtain ⟨r, t, e1, e2, e3, e4⟩ := drop_seat L D
      refine ss_cons (s_ifF0 (DT.eq (DW.t (w_and (q := false) (DT.eq (q := false) (t_eqS (d_ix (d_var 1) (.tup _)) d_str) (by decide)) fun h => by exact absurd h Bool.false_ne_true)) rfl) ?_)
      refine ss_cons (s_ifT (DT.eq (t_eqS (d_ix (d_var 1) (.tup _)) d_str) (by decide)) ?_)
      refine ss_cons (s_asg (p := .tp [.nm 3, .nm 4, .nm 5]) (d := .tup [.int r, .bl (!isHole z gs), .int (sizeOf z gs)]) (DE.eq (d_call K3 hr (a_cons (d_var 0) (a_cons (d_ix (d_var 1) (.tup _)) a_nil)) ⟨q, n, gs, z, rfl, L, rfl⟩) (by rw [e1, ← e2])) (g_tp (gs_cons (g_nm 3 nd) (gs_cons (g_nm 4 nd) (gs_cons (g_nm 5 nd) gs_nil)))) rfl ?_)
      refine ss_cons (s_if (b := !tidies q gs (.drop z)) (DT.eq (DW.t (w_or (t_val (d_var 4)) fun _ => (w_or1 (t_notN (d_call K1 hr (a_cons (d_var 0) (a_cons (d_var 5) a_nil)) ⟨q, n, gs, sizeOf z gs, rfl, q1, q2, z1, z2, L, rfl⟩))))) ?_) (fun hb => ?_) (fun hb => ?_))
      · show (!isHole z gs || !isNon (rankAt gs (spot q (sizeOf z gs) gs))) = !(isHole z gs && (spot q (sizeOf z gs) gs).isNone)
        cases isHole z gs <;> cases spot q (sizeOf z gs) gs <;> rfl
      · have ht : tidies q gs (.drop z) = false := by simpa using hb
        have e : dTo q n gs (.drop z) = .non := if_neg (by rw [ht]; exact Bool.false_ne_true)
        rw [e]
        exact ss_cons (s_ret (d_tup (a_cons (d_call K4 hr (a_cons (d_var 0) (a_cons (d_ix (d_var 1) (.tup _)) a_nil)) ⟨q, n, gs, z, sizeOf z gs, doneM q n gs (.drop z), rfl, q1, q2, S.n0, z1, L, file_sure L D, hole_any L D, dropped_done ht, L', rfl⟩) (a_cons d_non a_nil))) rfl)
      · have ht : tidies q gs (.drop z) = true := by simpa using hb
        exact ss_nil (ss_nil (hrest ht _ _ _))
  intro ht e3 e4 e5
  have e : dTo q n gs dd = dTold q n gs dd := if_pos ht
  rw [e]
  refine ss_cons (s_set 2 nd (d_call K5 hr (a_cons (d_var 0) (a_cons (d_var 1) a_nil)) ⟨q, n, gs, dd, rfl, q1, q2, S.n0, L, D, S.len, ht, rfl⟩) ?_)
  exact ss_cons (s_ret (d_tup (a_cons (d_fld (d_var 2) CL.at) (a_cons (d_var 2) a_nil))) rfl)
end
end K76
set_option maxRecDepth 100000
set_option maxHeartbeats 4000000
namespace K76
open PySem PySem.Spec PyProof.Rows L2
abbrev St3 := Int × List Rg × Dd
/-- the states with the deeds -/
def course (q : Int) : Int → List Rg → List Dd → List St3
  | _, _, [] => []
  | n, gs, d :: ds => (n, gs, d) :: course q (newN n d) (doneM q n gs d) ds
@[reducible] def dSt (q : Int) (y : St3) : D := .tup [dLay q y.1 y.2.1, dLay q (newN y.1 y.2.2) (doneM q y.1 y.2.1 y.2.2), dTo q y.1 y.2.1 y.2.2]
def stepS (q : Int) (a : Int × List Rg) (d : Dd) : Int × List Rg := (newN a.1 d, doneM q a.1 a.2 d)
theorem course_len (q : Int) : ∀ (ds : List Dd) (n : Int) (gs : List Rg), (course q n gs ds).length = ds.length
  | [], n, gs => rfl
  | d :: ds, n, gs => by rw [course, List.length_cons, List.length_cons, course_len q ds]
theorem course_get (q : Int) : ∀ (ds : List Dd) (n : Int) (gs : List Rg) (i : Nat) (d : Dd), ds[i]? = some d → (course q n gs ds)[i]? = some (((ds.take i).foldl (stepS q) (n, gs)).1, ((ds.take i).foldl (stepS q) (n, gs)).2, d)
  | [], n, gs, i, d, h => by simp at h
  | e :: ds, n, gs, 0, d, h => by
    rw [List.getElem?_cons_zero] at h
    cases h
    rfl
  | e :: ds, n, gs, i + 1, d, h => by
    rw [List.getElem?_cons_succ] at h
    rw [course, List.getElem?_cons_succ, course_get q ds _ _ i d h]
    rfl
def putsM (ds : List Dd) : List Int := ds.filterMap fun d => match d with
  | .put z => some z
  | .drop _ => none
theorem putsM_eq (ds : List Dd) : putsM ds = (ds.filter fun d => match d with | .put _ => true | .drop _ => false).map fun d => match d with | .put z => z | .drop s => s := by
  induction ds with
  | nil => rfl
  | cons d ds ih =>
    unfold putsM at ih ⊢
    cases d with
    | put z => rw [List.filterMap_cons, ih]; rfl
    | drop s => rw [List.filterMap_cons, ih]; rfl
def szOf (ds : List Dd) (s : Int) : Int := ((putsM ds)[s.toNat]?).getD 0
def putRow (n : Int) : Dd → List (Int × Int)
  | .put z => [(n, z)]
  | .drop _ => []
/-- what one deed writes -/
def wrRow (q : Int) (ds : List Dd) (y : St3) : List (Int × Int) := putRow y.1 y.2.2 ++ if tidies q y.2.1 y.2.2 then (tidM q y.1 y.2.1 y.2.2).map fun c => (c.1, szOf ds c.1) else []
/-- what is known along a history -/
structure CoOk (q : Int) (dds : List Dd) : Prop where
  q1 : 2 ≤ q
  q2 : q ≤ 64
  len : dds.length ≤ 62
  st : ∀ y ∈ course q 0 [] dds, StOk q y.1 y.2.1 y.2.2
  cp : ∀ y ∈ course q 0 [] dds, tidies q y.2.1 y.2.2 = true → ∀ c ∈ tidM q y.1 y.2.1 y.2.2, 0 ≤ c.1 ∧ c.1.toNat < (putsM dds).length
/-- the body of the loop at row i -/
def forBody (b : List Stmt) (i : Nat) : List Stmt := match b[i]? with
  | some (.For _ _ b _ _) => b
  | some (.While _ b _ _) => b
  | _ => []
section
variable {P : Program} {w : World} {K : PySem.W.Frag} {mg : Str → Option Value} {base : Heap}
theorem sc_course_of : FnScope ["history", "deed", "layout", "found", "later", "told"] ["history"] (defScope (top 80)) := ⟨rfl, rfl, rfl, by decide +kernel, rfl, by decide +kernel, by decide +kernel⟩
def R_course : List D → D → Prop := fun ds d => ∃ q dds, ds = [dHis q dds] ∧ CoOk q dds ∧ d = .lst ((course q 0 [] dds).map (dSt q))
theorem ok_course_of (F : FnT K mg 80 "course_of") (CL : ClsF K mg "History" ["q", "deeds"]) (K1 : Kn P w K mg base "empty" 9 R_empty) (K2 : Kn P w K mg base "done" 11 R_done) : Kn P w K mg base "course_of" 12 R_course := by
  obtain ⟨f, fd, F, g⟩ := F
  refine kn_of F g sc_course_of (fun ds d h => by obtain ⟨_, _, rfl, _⟩ := h; rfl) (fun _ _ _ _ _ _ us hl => match us, hl with | [_], _ => rfl) ?_
  rintro cdv A outer s H E hr ds d ⟨q, dds, rfl, C, rfl⟩
  have nd := sc_course_of.nd
  have len := C.len
  refine ss_cons (s_par2 2 3 nd (ls_cons (l_val (d_call K1 hr (a_cons (d_fld (d_var 0) CL.at) a_nil) ⟨q, rfl, C.q1, C.q2, rfl⟩)) (ls_cons (l_own (f_lst a_nil)) ls_nil)) ?_)
  refine ss_cons (s_for (xs := dds) (enc := dDd) (p := .nm 1) (i_tup (d_fld (d_var 0) CL.at)) (g_nm 1 nd)
    (fun i ρ => ∃ (e1 e4 e5 : Option Sl) (a : Int × List Rg) (fs : List D), ρ = [some (.val (dHis q dds)), e1, some (.val (dLay q a.1 a.2)), some (.ml fs), e4, e5] ∧ a = (dds.take i).foldl (stepS q) (0, []) ∧ fs = ((course q 0 [] dds).take i).map (dSt q)) ?_ ?_ ?_)
  · exact ⟨_, _, _, (0, []), _, rfl, rfl, rfl⟩
  · rintro i x ρ hx ⟨e1, e4, e5, a, fs, rfl, ha, hf⟩
    have hc := course_get q dds 0 [] i x hx
    rw [← ha] at hc
    have hS := C.st _ (List.mem_of_getElem? hc)
    have hil := (List.getElem?_eq_some_iff.mp hx).1
    refine ⟨_, rfl, ?_⟩
    refine ss_cons (s_asg (p := .tp [.nm 4, .nm 5]) (d_call K2 hr (a_cons (d_var 2) (a_cons (d_var 1) a_nil)) ⟨q, a.1, a.2, x, rfl, C.q1, C.q2, hS, rfl⟩) (g_tp (gs_cons (g_nm 4 nd) (gs_cons (g_nm 5 nd) gs_nil))) rfl ?_)
    refine ss_cons (s_append 3 (d_tup (a_cons (d_var 2) (a_cons (d_var 4) (a_cons (d_var 5) a_nil)))) ?_ ?_)
    · refine ss_cons (s_set 2 nd (d_var 4) (ss_nil ⟨_, _, _, stepS q a x, _, rfl, ?_, ?_⟩))
      · rw [List.take_add_one, hx, List.foldl_append, ← ha]; rfl
      · rw [List.take_add_one, hc, List.map_append, hf]; rfl
    · rw [hf, List.length_map, List.length_take]
      exact Nat.lt_of_le_of_lt (show _ ≤ 100 by omega) (by decide)
  · rintro ρ ⟨e1, e4, e5, a, fs, rfl, ha, hf⟩
    rw [← course_len q dds 0 [], List.take_length] at hf
    subst hf
    exact ss_frz 3 (ss_cons (s_ret (d_var 3) rfl))
theorem sc_sizes_of : FnScope ["history", "word", "number"] ["history"] (defScope (top 81)) := ⟨rfl, rfl, rfl, by decide +kernel, rfl, by decide +kernel, by decide +kernel⟩
def R_sizes : List D → D → Prop := fun ds d => ∃ q dds, ds = [dHis q dds] ∧ dds.length ≤ 200 ∧ d = .lst ((putsM dds).map D.int)
theorem ok_sizes_of (F : FnT K mg 81 "sizes_of") (CL : ClsF K mg "History" ["q", "deeds"]) : Kn P w K mg base "sizes_of" 1 R_sizes := by
  obtain ⟨f, fd, F, g⟩ := F
  refine kn_of F g sc_sizes_of (fun ds d h => by obtain ⟨_, _, rfl, _⟩ := h; rfl) (fun _ _ _ _ _ _ us hl => match us, hl with | [_], _ => rfl) ?_
  rintro cdv A outer s H E hr ds d ⟨q, dds, rfl, hl, rfl⟩
  have nd := sc_sizes_of.nd
  refine ss_cons (s_ret (DE.eq (DF.de (f_lcIf (p := .tp [.nm 1, .nm 2]) (xs := dds) (enc := dDd) (t := fun d => match d with | .put _ => true | .drop _ => false) (f := fun d => .int (match d with | .put z => z | .drop s => s)) [("word", 1), ("number", 2)] nd (i_tup (d_fld (d_var 0) CL.at)) (blkOk_by (by kernel_rfl)) (fun _ _ _ _ _ => g_tp (gs_cons (g_nm 1 nd) (gs_cons (g_nm 2 nd) gs_nil))) (by decide) (by omega) (fun x hx => ?_))) (by rw [putsM_eq, List.map_map]; rfl)) rfl)
  cases x with
  | put z => exact ⟨_, rfl, fun _ _ _ _ _ => DT.eq (t_eqS (d_var 1) d_str) (show _ = true by decide), fun ht _ _ _ _ _ => (d_var 2)⟩
  | drop z => exact ⟨_, rfl, fun _ _ _ _ _ => DT.eq (t_eqS (d_var 1) d_str) (show _ = false by decide), fun ht _ _ _ _ _ => (d_var 2)⟩
theorem sc_writes : FnScope ["history", "files", "found", "puts", "deed", "mine", "_", "told", "serial"] ["history"] (defScope (top 82)) := ⟨rfl, rfl, rfl, by decide +kernel, rfl, by decide +kernel, by decide +kernel⟩
def R_writes : List D → D → Prop := fun ds d => ∃ q dds, ds = [dHis q dds] ∧ CoOk q dds ∧ d = .tup ((course q 0 [] dds).map fun y => .tup ((wrRow q dds y).map dPr))
theorem ok_writes (T : Tx mg) (F : FnT K mg 82 "writes") (CL : ClsF K mg "History" ["q", "deeds"]) (CT : ClsF K mg "Tidying" ["word", "parts", "rank", "layout", "far", "copies"]) (K1 : Kn P w K mg base "need_history" 1 R_needhis) (K2 : Kn P w K mg base "sizes_of" 1 R_sizes) (K3 : Kn P w K mg base "course_of" 12 R_course) : Kn P w K mg base "writes" 13 R_writes := by
  obtain ⟨f, fd, F, g⟩ := F
  refine kn_of F g sc_writes (fun ds d h => by obtain ⟨_, _, rfl, _⟩ := h; rfl) (fun _ _ _ _ _ _ us hl => match us, hl with | [_], _ => rfl) ?_
  rintro cdv A outer s H E hr ds d ⟨q, dds, rfl, C, rfl⟩
  have nd := sc_writes.nd
  have len := C.len
  refine ss_cons (s_expr (d_call K1 hr (a_cons (d_var 0) a_nil) ⟨_, rfl, rfl⟩) ?_)
  refine ss_cons (s_parN [1, 2, 3] (ls_cons (l_val (d_call K2 hr (a_cons (d_var 0) a_nil) ⟨q, dds, rfl, by omega, rfl⟩)) (ls_cons (l_own (f_lst a_nil)) (ls_cons (l_val d_int) ls_nil))) (g_tp (gs_cons (g_nm 1 nd) (gs_cons (g_nm 2 nd) (gs_cons (g_nm 3 nd) gs_nil)))) ?_)
  refine ss_cons (s_for (xs := dds.zip (course q 0 [] dds)) (enc := dZp dDd (dSt q)) (p := .tp [.nm 4, .tp [.nm 6, .nm 6, .nm 7]]) (i_zipTL T.zip (d_fld (d_var 0) CL.at) (d_call K3 hr (a_cons (d_var 0) a_nil) ⟨q, dds, rfl, C, rfl⟩)) (g_tp (gs_cons (g_nm 4 nd) (gs_cons (g_tp (gs_cons (g_nm 6 nd) (gs_cons (g_nm 6 nd) (gs_cons (g_nm 7 nd) gs_nil)))) gs_nil)))
    (fun i ρ => ∃ (e4 e5 e6 e7 e8 : Option Sl) (a : Int × List Rg) (fs : List D), ρ = [some (.val (dHis q dds)), some (.val (.lst ((putsM dds).map D.int))), some (.ml fs), some (.val (.int a.1)), e4, e5, e6, e7, e8] ∧ a = (dds.take i).foldl (stepS q) (0, []) ∧ fs = ((course q 0 [] dds).take i).map fun y => .tup ((wrRow q dds y).map dPr)) ?_ ?_ ?_)
  · exact ⟨_, _, _, _, _, (0, []), _, rfl, rfl, rfl⟩
  · rintro i ⟨x, y⟩ ρ hxy ⟨e4, e5, e6, e7, e8, a, fs, rfl, ha, hf⟩
    obtain ⟨hx, hy⟩ : dds[i]? = some x ∧ (course q 0 [] dds)[i]? = some y := by
      rw [List.getElem?_zip_eq_some] at hxy; exact hxy
    have hc := course_get q dds 0 [] i x hx
    rw [← ha] at hc
    rw [hy] at hc
    obtain rfl : y = (a.1, a.2, x) := Option.some.inj hc
    have hS := C.st _ (List.mem_of_getElem? hy)
    have hil := (List.getElem?_eq_some_iff.mp hx).1
    have hfl : fs.length < sizeLine := by
      rw [hf, List.length_map, List.length_take]
      exact Nat.lt_of_le_of_lt (show _ ≤ 100 by omega) (by decide)
    refine ⟨_, rfl, ?_⟩
    refine ss_cons (s_own 5 nd (f_lst a_nil) ?_)
    generalize hKK : loopK _ _ = KK
    have tl : ∀ (ts : List D) (e6 e8 : Option Sl), ts = (wrRow q dds (a.1, a.2, x)).map dPr → DSs (Cxf P w K mg base ["history", "files", "found", "puts", "deed", "mine", "_", "told", "serial"] "writes" (defScope (top 82)) f cdv A outer s H E) ((forBody (defBody (top 82)) 2).drop 3)
        [some (.val (dHis q dds)), some (.val (.lst ((putsM dds).map D.int))), some (.ml fs), some (.val (.int (newN a.1 x))), some (.val (dDd x)), some (.ml ts), e6, some (.val (dTo q a.1 a.2 x)), e8] KK := fun ts e6 e8 hts => by
      subst hKK
      refine ss_frz 5 (ss_cons (s_append 2 (d_tupleL T.tuple (d_var 5)) (ss_nil ⟨_, _, _, _, _, stepS q a x, _, rfl, ?_, ?_⟩) hfl))
      · rw [List.take_add_one, hx, List.foldl_append, ← ha]; rfl
      · rw [List.take_add_one, hy, List.map_append, hf, hts]; rfl
    have hrest : ∀ ms : List (Int × Int), ms = putRow a.1 x → DSs (Cxf P w K mg base ["history", "files", "found", "puts", "deed", "mine", "_", "told", "serial"] "writes" (defScope (top 82)) f cdv A outer s H E) ((forBody (defBody (top 82)) 2).drop 2)
        [some (.val (dHis q dds)), some (.val (.lst ((putsM dds).map D.int))), some (.ml fs), some (.val (.int (newN a.1 x))), some (.val (dDd x)), some (.ml (ms.map dPr)), some (.val (dLay q (newN a.1 x) (doneM q a.1 a.2 x))), some (.val (dTo q a.1 a.2 x)), e8] KK := fun ms hms => by
      by_cases ht : tidies q a.2 x = true
      · have e : dTo q a.1 a.2 x = dTold q a.1 a.2 x := if_pos ht
        rw [e] at tl ⊢
        have hcp := C.cp _ (List.mem_of_getElem? hy) ht
        have hcl := copies_len (q := q) (n := a.1) (b := bgn a.2 (sizeD a.2 x)) (far := farM q a.2 (doneM q a.1 a.2 x)) (later := doneM q a.1 a.2 x) (d := x) (places_len hS.L)
        refine ss_cons (s_ifT (DT.eq (t_notN (d_var 7)) rfl) ?_)
        refine ss_cons (s_extend 5 (DF.de (f_lc (p := .tp [.nm 8, .nm 6, .nm 6]) (xs := tidM q a.1 a.2 x) (enc := dCp) (f := fun c => dPr (c.1, szOf dds c.1)) [("serial", 8), ("_", 6)] nd (i_tup (d_fld (d_var 7) CT.at)) (blkOk_by (by kernel_rfl)) (fun _ _ _ _ _ => g_tp (gs_cons (g_nm 8 nd) (gs_cons (g_nm 6 nd) (gs_cons (g_nm 6 nd) gs_nil)))) (by decide) (Nat.le_trans (show (tidM q a.1 a.2 x).length ≤ 10000 from hcl) (by decide)) (fun c hc => ⟨_, rfl, fun _ _ _ _ _ => (d_tup (a_cons (d_var 8) (a_cons (d_ixA (d_var 1) (.lst _) (d_var 8) (atI_of (hcp c hc).1 ?_)) a_nil)))⟩))) ?_ ?_)
        · rw [List.getElem?_map]
          unfold szOf
          rw [List.getElem?_eq_getElem (hcp c hc).2]; rfl
        · refine ss_nil (tl _ _ _ ?_)
          unfold wrRow
          rw [if_pos ht, List.map_append, List.map_map, hms]; rfl
        · rw [List.length_map, List.length_map]
          have : ms.length ≤ 1 := by rw [hms]; cases x <;> exact Nat.le_of_ble_eq_true rfl
          exact Nat.le_trans (Nat.add_le_add this (show (tidM q a.1 a.2 x).length ≤ 10000 from hcl)) (by decide)
      · have e : dTo q a.1 a.2 x = .non := if_neg ht
        rw [e] at tl ⊢
        refine ss_cons (s_ifF0 (DT.eq (t_notN (d_var 7)) rfl) ?_)
        refine tl _ _ _ ?_
        unfold wrRow
        rw [if_neg ht, List.append_nil, hms]
    cases x with
    | put z =>
      refine ss_cons (s_ifT (DT.eq (t_eqS (d_ix (d_var 4) (.tup _)) d_str) (by decide)) ?_)
      refine ss_cons (s_append (ds := []) 5 (d_tup (a_cons (d_var 3) (a_cons (d_ix (d_var 4) (.tup _)) a_nil))) ?_ (by decide))
      exact ss_cons (s_set 3 nd (d_add (d_var 3) d_int) (ss_nil (hrest _ rfl)))
    | drop z =>
      refine ss_cons (s_ifF0 (DT.eq (t_eqS (d_ix (d_var 4) (.tup _)) d_str) (by decide)) ?_)
      exact hrest _ rfl
  · rintro ρ ⟨e4, e5, e6, e7, e8, a, fs, rfl, ha, hf⟩
    have zl : (dds.zip (course q 0 [] dds)).length = (course q 0 [] dds).length := by rw [List.length_zip, course_len, Nat.min_self]
    rw [zl, List.take_length] at hf
    subst hf
    exact ss_frz 2 (ss_cons (s_ret (d_tupleL T.tuple (d_var 2)) rfl))
end
end K76
set_option maxRecDepth 100000
set_option maxHeartbeats 4000000
namespace K76
open PySem PySem.Spec PyProof.Rows L2
theorem ltP {a b : Int × Int} : PySem.W.DatumOrd.lt a b = (if a.1 = b.1 then decide (a.2 < b.2) else decide (a.1 < b.1)) := rfl
theorem minP_spec : ∀ (ps : List (Int × Int)) (p : Int × Int), minP p ps ∈ p :: ps ∧ ∀ y ∈ p :: ps, (minP p ps).1 ≤ y.1
  | [], p => ⟨List.mem_cons_self, fun y hy => by rw [List.mem_singleton.mp hy]; exact Int.le_refl _⟩
  | a :: ps, p => by
    have e : minP p (a :: ps) = minP (if PySem.W.DatumOrd.lt a p = true then a else p) ps := rfl
    rw [e, ltP]
    obtain ⟨h1, h2⟩ := minP_spec ps (if (if a.1 = p.1 then decide (a.2 < p.2) else decide (a.1 < p.1)) = true then a else p)
    have hc : (if (if a.1 = p.1 then decide (a.2 < p.2) else decide (a.1 < p.1)) = true then a else p).1 ≤ a.1 ∧ (if (if a.1 = p.1 then decide (a.2 < p.2) else decide (a.1 < p.1)) = true then a else p).1 ≤ p.1 := by
      by_cases h3 : a.1 = p.1
      · rw [if_pos h3]
        split <;> omega
      · rw [if_neg h3]
        by_cases h4 : a.1 < p.1
        · rw [if_pos (decide_eq_true h4)]; omega
        · rw [if_neg (by simpa using h4)]; omega
    have hm := h2 _ List.mem_cons_self
    refine ⟨?_, fun y hy => ?_⟩
    · rcases List.mem_cons.mp h1 with h | h
      · rw [h]
        by_cases hh : (if a.1 = p.1 then decide (a.2 < p.2) else decide (a.1 < p.1)) = true
        · rw [if_pos hh]; exact List.mem_cons_of_mem _ List.mem_cons_self
        · rw [if_neg hh]; exact List.mem_cons_self
      · exact List.mem_cons_of_mem _ (List.mem_cons_of_mem _ h)
    · rcases List.mem_cons.mp hy with rfl | hy
      · omega
      · rcases List.mem_cons.mp hy with rfl | hy
        · omega
        · exact h2 y (List.mem_cons_of_mem _ hy)
def minL : List (Int × Int) → Int × Int
  | [] => (0, 0)
  | p :: ps => minP p ps
def candL (ns : List Int) (f : List (Int × Int)) (s : Nat) : List (Int × Int) := (List.range ns.length).map fun p => ((ns[p]?).getD 0 + ((f[s - (p + 1)]?).getD (0, 0)).1, ((p + 1 : Nat) : Int))
/-- the least costs up to size k -/
def lcL (ns : List Int) : Nat → List (Int × Int)
  | 0 => [(0, 0)]
  | k + 1 => lcL ns k ++ [minL (candL ns (lcL ns k) (k + 1))]
theorem lcL_len (ns : List Int) : ∀ k, (lcL ns k).length = k + 1
  | 0 => rfl
  | k + 1 => by rw [lcL, List.length_append, lcL_len ns k]; rfl
theorem lcL_get (ns : List Int) : ∀ k s, s ≤ k → (lcL ns k)[s]? = (lcL ns s)[s]?
  | 0, s, h => by
    have : s = 0 := by omega
    subst this; rfl
  | k + 1, s, h => by
    by_cases e : s = k + 1
    · subst e; rfl
    · rw [lcL, List.getElem?_append_left (by rw [lcL_len]; omega)]
      exact lcL_get ns k s (by omega)
def lcF (ns : List Int) (s : Nat) : Int := (((lcL ns s)[s]?).getD (0, 0)).1
theorem lc_ok (ns : List Int) : LcOk ns.length (fun p => (ns[p - 1]?).getD 0) (lcF ns) := by
  have key : ∀ s, 1 ≤ s → lcF ns s = (minL (candL ns (lcL ns (s - 1)) s)).1 := fun s h => by
    obtain ⟨k, rfl⟩ : ∃ k, s = k + 1 := ⟨s - 1, by omega⟩
    unfold lcF
    rw [lcL, List.getElem?_append_right (by rw [lcL_len]; exact Nat.le_refl _), lcL_len, Nat.sub_self]
    rfl
  have cand : ∀ s p, 1 ≤ s → ((lcL ns (s - 1))[s - (p + 1)]?).getD (0, 0) = ((lcL ns (s - (p + 1)))[s - (p + 1)]?).getD (0, 0) := fun s p h => by rw [lcL_get ns (s - 1) (s - (p + 1)) (by omega)]
  refine ⟨rfl, fun s h1 h2 => ?_, fun s h1 h2 p p1 p2 => ?_⟩
  · rw [key s h1]
    cases e : candL ns (lcL ns (s - 1)) s with
    | nil =>
      have := congrArg List.length e
      unfold candL at this
      rw [List.length_map, List.length_range, List.length_nil] at this
      omega
    | cons x xs =>
      have hm := (minP_spec xs x).1
      rw [← e] at hm
      unfold candL at hm
      obtain ⟨p, hp, e2⟩ := List.mem_map.mp hm
      rw [List.mem_range] at hp
      refine ⟨p + 1, by omega, by omega, ?_⟩
      show (minP x xs).1 = _
      rw [← e2]
      show _ + (((lcL ns (s - 1))[s - (p + 1)]?).getD (0, 0)).1 = _
      rw [cand s p h1]
      rfl
  · rw [key s h1]
    cases e : candL ns (lcL ns (s - 1)) s with
    | nil =>
      have := congrArg List.length e
      unfold candL at this
      rw [List.length_map, List.length_range, List.length_nil] at this
      omega
    | cons x xs =>
      have hm := (minP_spec xs x).2
      have hin : ((ns[p - 1]?).getD 0 + (((lcL ns (s - 1))[s - (p - 1 + 1)]?).getD (0, 0)).1, ((p - 1 + 1 : Nat) : Int)) ∈ candL ns (lcL ns (s - 1)) s := List.mem_map.mpr ⟨p - 1, List.mem_range.mpr (by omega), rfl⟩
      rw [e] at hin
      have := hm _ hin
      rw [cand s (p - 1) h1, show p - 1 + 1 = p by omega] at this
      exact this
/-- the table below the numbers -/
def belowM (ns : List Int) : List Int := (List.range ns.length).map fun i => lcF ns (i + 1)
theorem below_eq (ns : List Int) : ((lcL ns ns.length).map (·.1)).drop 1 = belowM ns := by
  refine List.ext_getElem? fun i => ?_
  unfold belowM
  rw [List.getElem?_drop, List.getElem?_map, List.getElem?_map]
  by_cases h : i < ns.length
  · rw [List.getElem?_range h, lcL_get ns ns.length (1 + i) (by omega)]
    show _ = some (((lcL ns (i + 1))[i + 1]?).getD (0, 0)).1
    rw [show 1 + i = i + 1 by omega]
    rw [List.getElem?_eq_getElem (by rw [lcL_len]; omega)]
    rfl
  · rw [List.getElem?_eq_none (by rw [lcL_len]; omega), List.getElem?_eq_none (by rw [List.length_range]; omega)]
    rfl
theorem below_ok {ns : List Int} (h : ∀ n ∈ ns, 0 ≤ n) : TabOkP (belowM ns) := by
  refine tab_lc (lc_ok ns) fun p p1 p2 => ?_
  show 0 ≤ (ns[p - 1]?).getD 0
  rw [List.getElem?_eq_getElem (by omega)]
  exact h _ (List.getElem_mem _)
theorem below_len (ns : List Int) : (belowM ns).length = ns.length := by unfold belowM; rw [List.length_map, List.length_range]
theorem below_le {ns : List Int} {x : Int} (h1 : 1 ≤ x) (h2 : x ≤ ns.length) : tabF (belowM ns) x ≤ tabF ns x := by
  obtain ⟨i, rfl⟩ : ∃ i : Nat, x = (i : Int) + 1 := ⟨(x - 1).toNat, by omega⟩
  rw [tabF_get (by rw [below_len]; omega), tabF_get (by omega)]
  have e : (belowM ns)[i]'(by rw [below_len]; omega) = lcF ns (i + 1) := by unfold belowM; simp
  rw [e]
  have := (lc_ok ns).le (i + 1) (by omega) (by omega) (i + 1) (by omega) (by omega)
  rw [Nat.sub_self] at this
  have z : lcF ns 0 = 0 := rfl
  rw [z] at this
  have e2 : ((ns[i + 1 - 1]?).getD 0) = ns[i]'(by omega) := by rw [Nat.add_sub_cancel, List.getElem?_eq_getElem (by omega)]; rfl
  have this : lcF ns (i + 1) ≤ (ns[i + 1 - 1]?).getD 0 + 0 := this
  rw [e2] at this
  omega
section
variable {P : Program} {w : World} {K : PySem.W.Frag} {mg : Str → Option Value} {base : Heap}
theorem sc_are_numbers : FnScope ["value", "least", "number"] ["value", "least"] (defScope (top 87)) := ⟨rfl, rfl, rfl, by decide +kernel, rfl, by decide +kernel, by decide +kernel⟩
/-- a list of numbers as the prices ask -/
def NumOk (ns : List Int) : Prop := 1 ≤ ns.length ∧ ns.length ≤ 400 ∧ ∀ n ∈ ns, 0 ≤ n
def R_arenum : List D → D → Prop := fun ds d => ∃ ns, ds = [.lst (ns.map D.int), .int 0] ∧ NumOk ns ∧ d = .bl true
theorem ok_are_numbers (T : Tx mg) (C : Cs K mg) (F : FnT K mg 87 "are_numbers") (K1 : Kn P w K mg base "is_integer" 1 (fun ds d => ∃ i, ds = [.int i] ∧ d = .bl true)) : Kn P w K mg base "are_numbers" 2 R_arenum := by
  obtain ⟨f, fd, F, g⟩ := F
  refine kn_of F g sc_are_numbers (fun ds d h => by obtain ⟨_, rfl, _⟩ := h; rfl) (fun _ _ _ _ _ _ us hl => match us, hl with | [_, _], _ => rfl) ?_
  rintro cdv A outer s H E hr ds d ⟨ns, rfl, ⟨h1, h2, h3⟩, rfl⟩
  have nd := sc_are_numbers.nd
  refine ss_cons (s_ifF0 (DT.eq (DW.t (w_or (t_not (p := true) (t_val (d_isTT (T := "list") (T1 := "list") (T2 := "tuple") (r1 := true) (r2 := false) T.isinstance (d_var 0) T.list (by decide +kernel) T.tuple (by decide +kernel) rfl (by decide +kernel) (by decide +kernel)))) fun _ => (w_or1 (t_not (t_chainLe d_int (d_len T.len (d_var 0) (.lst _)) (d_glob C.mn)))))) (by rw [List.length_map, decide_eq_true (show (1 : Int) ≤ ns.length by omega), decide_eq_true (show (ns.length : Int) ≤ 400 by omega)]; rfl)) ?_)
  refine ss_cons (s_ret (DE.eq (d_all (xs := ns) (f := fun _ => true) T.all (DF.de (f_lc (p := .nm 2) (xs := ns) (enc := D.int) (f := fun _ => .bl true) [("number", 2)] nd (i_lst (d_var 0)) (blkOk_by (by kernel_rfl)) (fun _ _ _ _ _ => g_nm 2 nd) (by decide) (by omega) (fun x hx => ⟨_, rfl, fun _ _ _ _ _ => (DE.eq (d_and (p := true) (q := true) (d_call K1 hr (a_cons (d_var 2) a_nil) ⟨x, rfl, rfl⟩) fun _ => (d_one (DE.eq (d_ge (d_var 2) (d_var 1)) (by rw [decide_eq_true (h3 x hx)])))) rfl)⟩)))) (by simp)) rfl)
theorem sc_need_numbers : FnScope ["value", "part", "least"] ["value", "part", "least"] (defScope (top 88)) := ⟨rfl, rfl, rfl, by decide +kernel, rfl, by decide +kernel, by decide +kernel⟩
def R_neednum : List D → D → Prop := fun ds d => ∃ ns x, ds = [.lst (ns.map D.int), .str x] ∧ NumOk ns ∧ d = .non
theorem ok_need_numbers (F : FnTD K mg 88 "need_numbers" (.int 0)) (K1 : Kn P w K mg base "are_numbers" 2 R_arenum) : Kn P w K mg base "need_numbers" 3 R_neednum := by
  obtain ⟨f, fd, F, g⟩ := F
  refine kn_ofD 2 F g sc_need_numbers rfl (fun ds d h => by obtain ⟨_, _, rfl, _⟩ := h; rfl) (fun H => .int _) (fun T kV doc pm an cdv ct us its hl hi => ?_) ?_
  · match us, hl, its, hi with
    | [u, u2], _, [i], _ => exact ⟨_, rfl, rfl⟩
  · rintro cdv A outer s H E hr ds d ⟨ns, x, rfl, h, rfl⟩
    exact ss_cons (s_ifF0 (t_not (p := true) (t_val (d_call K1 hr (a_cons (d_var 0) (a_cons (d_var 2) a_nil)) ⟨ns, rfl, h, rfl⟩))) (ss_nil rfl))
theorem sc_fault_in : FnScope ["table", "many", "size", "total", "one"] ["table"] (defScope (top 89)) := ⟨rfl, rfl, rfl, by decide +kernel, rfl, by decide +kernel, by decide +kernel⟩
def R_fault : List D → D → Prop := fun ds d => ∃ ns, ds = [.lst (ns.map D.int)] ∧ ns.length ≤ 400 ∧ TabOkP ns ∧ d = .non
theorem at_int {ns : List Int} {i : Int} (j : Nat) (h : i = j) (hj : j < ns.length) : L2.atI (ns.map D.int) i = some (.int ns[j]) := by
  subst h
  refine atI_of (by omega) ?_
  rw [Int.toNat_natCast, List.getElem?_map, List.getElem?_eq_getElem hj]; rfl
theorem ok_fault_in (T : Tx mg) (F : FnT K mg 89 "fault_in") : Kn P w K mg base "fault_in" 1 R_fault := by
  obtain ⟨f, fd, F, g⟩ := F
  refine kn_of F g sc_fault_in (fun ds d h => by obtain ⟨_, rfl, _⟩ := h; rfl) (fun _ _ _ _ _ _ us hl => match us, hl with | [_], _ => rfl) ?_
  rintro cdv A outer s H E hr ds d ⟨ns, rfl, hl, ok, rfl⟩
  have nd := sc_fault_in.nd
  refine ss_cons (s_set 1 nd (DE.eq (y := .int ns.length) (d_len T.len (d_var 0) (.lst _)) (by rw [List.length_map])) ?_)
  refine ss_cons (s_for (xs := List.range ((ns.length : Int) + 1 - 2).toNat) (enc := fun i => .int (2 + (i : Nat))) (p := .nm 2) (i_range2 T.range d_int (d_add (d_var 1) d_int) (by omega)) (g_nm 2 nd)
    (fun i ρ => ∃ (e2 : Option Sl), ρ = [some (.val (.lst (ns.map D.int))), some (.val (.int ns.length)), e2, none, none]) ⟨_, rfl⟩ ?_ ?_)
  · rintro i x ρ hx ⟨e2, rfl⟩
    refine ⟨_, rfl, ?_⟩
    obtain ⟨hi, e⟩ := List.getElem?_eq_some_iff.mp hx
    rw [List.length_range] at hi
    rw [List.getElem_range] at e
    subst e
    refine ss_cons (s_ifF0 (DT.eq (t_lt (d_ixA (d_var 0) (.lst _) (d_sub (d_var 2) d_int) (at_int (i + 1) (by omega) (by omega))) (d_ixA (d_var 0) (.lst _) (d_sub (d_var 2) d_int) (at_int i (by omega) (by omega)))) (decide_eq_false ?_)) (ss_nil ⟨_, rfl⟩))
    have := tab_mono ok (i := i) (j := i + 1) (by omega) (by omega)
    omega
  · rintro ρ ⟨e2, rfl⟩
    refine ss_cons (s_for (xs := List.range ((ns.length : Int) + 1 - 2).toNat) (enc := fun i => .int (2 + (i : Nat))) (p := .nm 3) (i_range2 T.range d_int (d_add (d_var 1) d_int) (by omega)) (g_nm 3 nd)
      (fun i ρ => ∃ (e3 e4 : Option Sl), ρ = [some (.val (.lst (ns.map D.int))), some (.val (.int ns.length)), e2, e3, e4]) ⟨_, _, rfl⟩ ?_ ?_)
    · rintro i x ρ hx ⟨e3, e4, rfl⟩
      refine ⟨_, rfl, ?_⟩
      obtain ⟨hi, e⟩ := List.getElem?_eq_some_iff.mp hx
      rw [List.length_range] at hi
      rw [List.getElem_range] at e
      subst e
      refine ss_cons (s_for (xs := List.range ((2 + (i : Int)) / 2 + 1 - 1).toNat) (enc := fun i => .int (1 + (i : Nat))) (p := .nm 4) (i_range2 T.range d_int (d_add (d_fdiv (d_var 3) d_int ⟨by omega, by omega⟩) d_int) (by omega)) (g_nm 4 nd)
        (fun j ρ => ∃ (e4 : Option Sl), ρ = [some (.val (.lst (ns.map D.int))), some (.val (.int ns.length)), e2, some (.val (.int (2 + (i : Int)))), e4]) ⟨_, rfl⟩ ?_ ?_)
      · rintro j y ρ hy ⟨e4, rfl⟩
        refine ⟨_, rfl, ?_⟩
        obtain ⟨hj, e⟩ := List.getElem?_eq_some_iff.mp hy
        rw [List.length_range] at hj
        rw [List.getElem_range] at e
        subst e
        have hij : j ≤ i := by omega
        refine ss_cons (s_ifF0 (DT.eq (t_gt (d_ixA (d_var 0) (.lst _) (d_sub (d_var 3) d_int) (at_int (i + 1) (by omega) (by omega))) (d_add (d_ixA (d_var 0) (.lst _) (d_sub (d_var 4) d_int) (at_int j (by omega) (by omega))) (d_ixA (d_var 0) (.lst _) (d_sub (d_sub (d_var 3) (d_var 4)) d_int) (at_int (i - j) (by omega) (by omega))))) (decide_eq_false ?_)) (ss_nil ⟨_, rfl⟩))
        have := tab_sub ok (i := j) (j := i - j) (by omega)
        have e : j + (i - j) + 1 = i + 1 := by omega
        simp only [e] at this
        omega
      · rintro ρ ⟨e4, rfl⟩
        exact ss_nil ⟨_, _, rfl⟩
    · rintro ρ ⟨e3, e4, rfl⟩
      exact ss_cons (s_ret d_non rfl)
theorem sc_least_costs : FnScope ["numbers", "size", "many", "found", "part"] ["numbers"] (defScope (top 90)) := ⟨rfl, rfl, rfl, by decide +kernel, rfl, by decide +kernel, by decide +kernel⟩
def R_least : List D → D → Prop := fun ds d => ∃ ns, ds = [.lst (ns.map D.int)] ∧ NumOk ns ∧ d = .lst ((lcL ns ns.length).map dPr)
theorem ok_least_costs (T : Tx mg) (F : FnT K mg 90 "least_costs") : Kn P w K mg base "least_costs" 4 R_least := by
  obtain ⟨f, fd, F, g⟩ := F
  refine kn_of F g sc_least_costs (fun ds d h => by obtain ⟨_, rfl, _⟩ := h; rfl) (fun _ _ _ _ _ _ us hl => match us, hl with | [_], _ => rfl) ?_
  rintro cdv A outer s H E hr ds d ⟨ns, rfl, ⟨h1, h2, h3⟩, rfl⟩
  have nd := sc_least_costs.nd
  refine ss_cons (s_parN [2, 3] (ls_cons (l_val (DE.eq (y := .int ns.length) (d_len T.len (d_var 0) (.lst _)) (by rw [List.length_map]))) (ls_cons (l_own (f_lst (a_cons (d_tup (a_cons d_int (a_cons d_int a_nil))) a_nil))) ls_nil)) (g_tp (gs_cons (g_nm 2 nd) (gs_cons (g_nm 3 nd) gs_nil))) ?_)
  refine ss_cons (s_for (xs := List.range ((ns.length : Int) + 1 - 1).toNat) (enc := fun i => .int (1 + (i : Nat))) (p := .nm 1) (i_range2 T.range d_int (d_add (d_var 2) d_int) (by omega)) (g_nm 1 nd)
    (fun i ρ => ∃ (e1 e4 : Option Sl) (fs : List D), ρ = [some (.val (.lst (ns.map D.int))), e1, some (.val (.int ns.length)), some (.ml fs), e4] ∧ fs = (lcL ns i).map dPr) ⟨_, _, _, rfl, rfl⟩ ?_ ?_)
  · rintro i x ρ hx ⟨e1, e4, fs, rfl, hf⟩
    refine ⟨_, rfl, ?_⟩
    obtain ⟨hi, e⟩ := List.getElem?_eq_some_iff.mp hx
    rw [List.length_range] at hi
    rw [List.getElem_range] at e
    subst e
    obtain ⟨p, ps, hps⟩ : ∃ p ps, candL ns (lcL ns i) (i + 1) = p :: ps := by
      cases e : candL ns (lcL ns i) (i + 1) with
      | nil =>
        have := congrArg List.length e
        unfold candL at this
        rw [List.length_map, List.length_range, List.length_nil] at this
        omega
      | cons p ps => exact ⟨p, ps, rfl⟩
    refine ss_cons (s_append 3 (d_minP (p := p) (ps := ps) T.min hr (DE.eq (DF.de (f_lc (p := .nm 4) (xs := List.range ((ns.length : Int) + 1 - 1).toNat) (enc := fun i => .int (1 + (i : Nat))) (f := fun p => dPr ((ns[p]?).getD 0 + (((lcL ns i)[i + 1 - (p + 1)]?).getD (0, 0)).1, ((p + 1 : Nat) : Int))) [("part", 4)] nd (i_range2 T.range d_int (d_add (d_var 2) d_int) (by omega)) (blkOk_by (by kernel_rfl)) (fun _ _ _ _ _ => g_nm 4 nd) (by decide) (by rw [List.length_range]; omega) (fun x hx => ?_))) ?_)) (ss_nil ⟨_, _, _, rfl, ?_⟩) ?_)
    · rw [List.mem_range] at hx
      refine ⟨_, rfl, fun _ _ _ _ _ => (d_tup (a_cons (d_add (d_ixA (z := .int ((ns[x]?).getD 0)) (d_var 0) (.lst _) (d_sub (d_var 4) d_int) ?_) (d_ix (d_ixO 3 (z := dPr (((lcL ns i)[i + 1 - (x + 1)]?).getD (0, 0))) (d_max2 T.max d_int (d_sub (d_var 1) (d_var 4))) ?_) (.tup _))) (a_cons (DE.eq (d_var 4) ?_) a_nil)))⟩
      · rw [at_int x (by omega) (by omega), List.getElem?_eq_getElem (by omega)]; rfl
      · rw [hf]
        refine atI_of (by split <;> omega) ?_
        rw [List.getElem?_map]
        have e2 : (if (1 + (i : Int) - (1 + (x : Int))) > 0 then 1 + (i : Int) - (1 + (x : Int)) else 0).toNat = i + 1 - (x + 1) := by split <;> omega
        rw [e2, List.getElem?_eq_getElem (by rw [lcL_len]; omega)]; rfl
      · congr 1; omega
    · rw [← hps]
      unfold candL
      rw [List.map_map]
      have e3 : ((ns.length : Int) + 1 - 1).toNat = ns.length := by omega
      rw [e3]; rfl
    · rw [hf, lcL, List.map_append, hps]; rfl
    · rw [hf, List.length_map, lcL_len]
      exact Nat.lt_of_le_of_lt (show _ ≤ 1000 by omega) (by decide)
  · rintro ρ ⟨e1, e4, fs, rfl, hf⟩
    have e3 : (List.range ((ns.length : Int) + 1 - 1).toNat).length = ns.length := by rw [List.length_range]; omega
    rw [e3] at hf
    subst hf
    exact ss_frz 3 (ss_cons (s_ret (d_var 3) rfl))
theorem sc_log_of : FnScope ["q"] ["q"] (defScope (top 91)) := ⟨rfl, rfl, rfl, by decide +kernel, rfl, by decide +kernel, by decide +kernel⟩
def logQ (q : Int) : Nat := Builtin.Int.intBits (q - 1)
theorem log_le {q : Int} (h1 : 2 ≤ q) (h2 : q ≤ 64) : logQ q ≤ 6 := by
  unfold logQ Builtin.Int.intBits
  rw [if_neg (by simp; omega)]
  have : Nat.log2 (q - 1).natAbs < 6 := (Nat.log2_lt (by omega)).mpr (by omega)
  omega
theorem log_ok {q : Int} (h : 2 ≤ q) : q ≤ 2 ^ logQ q := by
  unfold logQ Builtin.Int.intBits
  rw [if_neg (by simp; omega)]
  have := Nat.lt_log2_self (n := (q - 1).natAbs)
  have h2 : ((q - 1).natAbs : Int) < ((2 ^ (Nat.log2 (q - 1).natAbs + 1) : Nat) : Int) := by exact_mod_cast this
  rw [Int.natCast_pow] at h2
  have h3 : ((q - 1).natAbs : Int) = q - 1 := by omega
  rw [h3] at h2
  have h4 : ((2 : Nat) : Int) = 2 := rfl
  rw [h4] at h2
  omega
def R_log : List D → D → Prop := fun ds d => ∃ q : Int, ds = [.int q] ∧ d = .int (logQ q : Nat)
theorem ok_log_of (F : FnT K mg 91 "log_of") : Kn P w K mg base "log_of" 1 R_log := by
  obtain ⟨f, fd, F, g⟩ := F
  refine kn_of F g sc_log_of (fun ds d h => by obtain ⟨_, rfl, _⟩ := h; rfl) (fun _ _ _ _ _ _ us hl => match us, hl with | [_], _ => rfl) ?_
  rintro cdv A outer s H E hr ds d ⟨q, rfl, rfl⟩
  exact ss_cons (s_ret (d_bits (d_sub (d_var 0) d_int)) rfl)
theorem sc_most : FnScope ["q"] ["q"] (defScope (top 95)) := ⟨rfl, rfl, rfl, by decide +kernel, rfl, by decide +kernel, by decide +kernel⟩
def R_most : List D → D → Prop := fun ds d => ∃ q : Int, ds = [.int q] ∧ 2 ≤ q ∧ q ≤ 64 ∧ d = .int (kap q (logQ q))
theorem ok_most (F : FnT K mg 95 "most") (K1 : Kn P w K mg base "need_q" 4 R_q) (K2 : Kn P w K mg base "log_of" 1 R_log) : Kn P w K mg base "most" 5 R_most := by
  obtain ⟨f, fd, F, g⟩ := F
  refine kn_of F g sc_most (fun ds d h => by obtain ⟨_, rfl, _⟩ := h; rfl) (fun _ _ _ _ _ _ us hl => match us, hl with | [_], _ => rfl) ?_
  rintro cdv A outer s H E hr ds d ⟨q, rfl, q1, q2, rfl⟩
  refine ss_cons (s_expr (d_call K1 hr (a_cons (d_var 0) a_nil) ⟨q, rfl, q1, q2, rfl⟩) ?_)
  have hL := log_le q1 q2
  have m1 : CMul 16 q := .inl (by omega)
  have m2 : CMul (16 * q) (3 + (logQ q : Int)) := .inl (by omega)
  exact ss_cons (s_ret (DE.eq (d_add d_int (d_mul (d_mul d_int (d_var 0) m1) (d_add d_int (d_call K2 hr (a_cons (d_var 0) a_nil) ⟨q, rfl, rfl⟩)) m2)) rfl) rfl)
theorem sc_Prices_init : FnScope ["self", "table", "fault"] ["self", "table"] (defScope (inClass (top 92) 0)) := ⟨rfl, rfl, rfl, by decide +kernel, rfl, by decide +kernel, by decide +kernel⟩
def R_prices : List D → List (Str × D) → Prop := fun ds fs => ∃ ns, ds = [.lst (ns.map D.int)] ∧ NumOk ns ∧ TabOkP ns ∧ fs = fPri ns
theorem ok_Prices (T : Tx mg) (F : IniT K mg 92 0 "Prices" "Prices.__init__") (C : ClsF K mg "Prices" ["table"]) (K1 : Kn P w K mg base "need_numbers" 3 R_neednum) (K2 : Kn P w K mg base "fault_in" 1 R_fault) : KnI P w K mg base "Prices" 4 R_prices := by
  obtain ⟨Ca, f, fd, F, g, M⟩ := F
  refine knI_of F g M sc_Prices_init (fun ds d h => by obtain ⟨_, rfl, _⟩ := h; rfl) (fun _ _ _ _ _ _ us hl => match us, hl with | [_, _], _ => rfl) ?_
  rintro cdv A outer s H E hr l ds fs ⟨ns, rfl, h, ok, rfl⟩
  have nd := sc_Prices_init.nd
  refine ss_cons (s_expr (d_call K1 hr (a_cons (d_var 1) (a_cons d_str a_nil)) ⟨ns, _, rfl, h, rfl⟩) ?_)
  refine ss_cons (s_set 2 nd (d_call K2 hr (a_cons (d_var 1) a_nil) ⟨ns, rfl, h.2.1, ok, rfl⟩) ?_)
  refine ss_cons (s_ifF0 (DT.eq (t_notN (d_var 2)) rfl) ?_)
  refine ss_cons (s_fldI 0 (d_tupleL T.tuple (d_var 1)) C.at ?_)
  exact ss_nil rfl
theorem sc_below : FnScope ["numbers", "number", "_"] ["numbers"] (defScope (top 93)) := ⟨rfl, rfl, rfl, by decide +kernel, rfl, by decide +kernel, by decide +kernel⟩
def R_below : List D → D → Prop := fun ds d => ∃ ns, ds = [.lst (ns.map D.int)] ∧ NumOk ns ∧ d = dPri (belowM ns)
theorem below_num {ns : List Int} (h : NumOk ns) : NumOk (belowM ns) := ⟨by rw [below_len]; exact h.1, by rw [below_len]; exact h.2.1, fun x hx => by
  obtain ⟨i, hi, e⟩ := List.getElem_of_mem hx
  have := (below_ok h.2.2).nn ((i : Int) + 1) (by omega) (by omega)
  rw [tabF_get hi, e] at this
  exact this⟩
theorem ok_below (F : FnT K mg 93 "below") (K1 : Kn P w K mg base "need_numbers" 3 R_neednum) (K2 : Kn P w K mg base "least_costs" 4 R_least) (K3 : KnI P w K mg base "Prices" 4 R_prices) : Kn P w K mg base "below" 6 R_below := by
  obtain ⟨f, fd, F, g⟩ := F
  refine kn_of F g sc_below (fun ds d h => by obtain ⟨_, rfl, _⟩ := h; rfl) (fun _ _ _ _ _ _ us hl => match us, hl with | [_], _ => rfl) ?_
  rintro cdv A outer s H E hr ds d ⟨ns, rfl, h, rfl⟩
  have nd := sc_below.nd
  refine ss_cons (s_expr (d_call K1 hr (a_cons (d_var 0) (a_cons d_str a_nil)) ⟨ns, _, rfl, h, rfl⟩) ?_)
  refine ss_cons (s_ret (d_make K3 hr (a_cons (DE.eq (y := .lst ((belowM ns).map D.int)) (DF.de (f_sliceL (l := some 1) (u := none) (DF.de (f_lc (p := .tp [.nm 1, .nm 2]) (xs := lcL ns ns.length) (enc := dPr) (f := fun p => .int p.1) [("number", 1), ("_", 2)] nd (i_lst (d_call K2 hr (a_cons (d_var 0) a_nil) ⟨ns, rfl, h, rfl⟩)) (blkOk_by (by kernel_rfl)) (fun _ _ _ _ _ => g_tp (gs_cons (g_nm 1 nd) (gs_cons (g_nm 2 nd) gs_nil))) (by decide) (by rw [lcL_len]; have := h.2.1; omega) (fun x hx => ⟨_, rfl, fun _ _ _ _ _ => (d_var 1)⟩))) (o_some d_int) o_none)) ?_) a_nil) ⟨belowM ns, rfl, below_num h, below_ok h.2.2, rfl⟩) rfl)
  rw [← below_eq]
  have : (some (1 : Int)) = some ((1 : Nat) : Int) := rfl
  rw [this, cut_drop, ← List.map_drop, ← List.map_drop, List.map_map]; rfl
end
end K76
set_option maxRecDepth 100000
set_option maxHeartbeats 4000000
namespace K76
open PySem PySem.Spec PyProof.Rows L2
theorem max_ex : ∀ (xs : List Int) (x : Int), ∃ m ∈ x :: xs, ∀ y ∈ x :: xs, y ≤ m
  | [], x => ⟨x, List.mem_cons_self, fun y hy => by rw [List.mem_singleton.mp hy]; exact Int.le_refl _⟩
  | a :: xs, x => by
    obtain ⟨m, h1, h2⟩ := max_ex xs a
    by_cases h : x ≤ m
    · exact ⟨m, List.mem_cons_of_mem _ h1, fun y hy => by
        rcases List.mem_cons.mp hy with rfl | hy
        · exact h
        · exact h2 y hy⟩
    · exact ⟨x, List.mem_cons_self, fun y hy => by
        rcases List.mem_cons.mp hy with rfl | hy
        · exact Int.le_refl _
        · have := h2 y hy; omega⟩
/-- the size of what a deed is about -/
def sizeI (dds : List Dd) : Dd → Int
  | .put z => z
  | .drop s => szOf dds s
def toldM (t : List Int) (q : Int) (dds : List Dd) : Int := (((course q 0 [] dds).flatMap (wrRow q dds)).map fun p => tabF t p.2).sum
def mineM (t : List Int) (dds : List Dd) : Int := (dds.map fun d => tabF t (sizeI dds d)).sum
structure CostOk (t : List Int) (q : Int) (dds : List Dd) : Prop where
  nu : NumOk t
  c : CoOk q dds
  z : ∀ z ∈ putsM dds, 1 ≤ z ∧ z ≤ t.length
  d : ∀ s, Dd.drop s ∈ dds → 0 ≤ s ∧ s.toNat < (putsM dds).length
theorem szOf_mem {dds : List Dd} {s : Int} (h : s.toNat < (putsM dds).length) : szOf dds s ∈ putsM dds := by
  unfold szOf
  rw [List.getElem?_eq_getElem h]
  exact List.getElem_mem _
theorem course_dd (q : Int) : ∀ (ds : List Dd) (n : Int) (gs : List Rg), ∀ y ∈ course q n gs ds, y.2.2 ∈ ds
  | [], n, gs, y, h => by cases h
  | d :: ds, n, gs, y, h => by
    rw [course] at h
    rcases List.mem_cons.mp h with rfl | h
    · exact List.mem_cons_self
    · exact List.mem_cons_of_mem _ (course_dd q ds _ _ y h)
theorem put_mem {dds : List Dd} {z : Int} (h : Dd.put z ∈ dds) : z ∈ putsM dds := List.mem_filterMap.mpr ⟨_, h, rfl⟩
theorem row_ok {t : List Int} {q : Int} {dds : List Dd} (C : CostOk t q dds) : ∀ y ∈ course q 0 [] dds, ∀ p ∈ wrRow q dds y, 1 ≤ p.2 ∧ p.2 ≤ t.length := by
  intro y hy p hp
  unfold wrRow at hp
  rcases List.mem_append.mp hp with hp | hp
  · have hd := course_dd q dds 0 [] y hy
    cases e : y.2.2 with
    | put z =>
      rw [e] at hp hd
      rw [show p = (y.1, z) from List.mem_singleton.mp hp]
      exact C.z z (put_mem hd)
    | drop s => rw [e] at hp; cases hp
  · by_cases h : tidies q y.2.1 y.2.2 = true
    · rw [if_pos h] at hp
      obtain ⟨c, hc, rfl⟩ := List.mem_map.mp hp
      exact C.z _ (szOf_mem (C.c.cp y hy h c hc).2)
    · rw [if_neg h] at hp; cases hp
theorem row_len {q : Int} {dds : List Dd} (C : CoOk q dds) : ∀ y ∈ course q 0 [] dds, (wrRow q dds y).length ≤ 10001 := by
  intro y hy
  have L := (C.st y hy).L
  have hcl := copies_len (q := q) (n := y.1) (b := bgn y.2.1 (sizeD y.2.1 y.2.2)) (far := farM q y.2.1 (doneM q y.1 y.2.1 y.2.2)) (later := doneM q y.1 y.2.1 y.2.2) (d := y.2.2) (places_len L)
  unfold wrRow
  rw [List.length_append]
  have h1 : (putRow y.1 y.2.2).length ≤ 1 := by cases y.2.2 <;> exact Nat.le_of_ble_eq_true rfl
  have h2 : (if tidies q y.2.1 y.2.2 = true then (tidM q y.1 y.2.1 y.2.2).map fun c => (c.1, szOf dds c.1) else []).length ≤ 10000 := by
    split
    · rw [List.length_map]; exact hcl
    · exact Nat.zero_le _
  omega
theorem flat_len {α β : Type} (f : α → List β) (k : Nat) : ∀ xs : List α, (∀ x ∈ xs, (f x).length ≤ k) → (xs.flatMap f).length ≤ xs.length * k
  | [], _ => Nat.zero_le _
  | x :: xs, h => by
    rw [List.flatMap_cons, List.length_append, List.length_cons, Nat.add_mul, Nat.one_mul]
    have := flat_len f k xs fun y hy => h y (List.mem_cons_of_mem _ hy)
    have := h x List.mem_cons_self
    omega
theorem at_tab {t : List Int} {z i : Int} (h : i = z - 1) (h1 : 1 ≤ z) (h2 : z ≤ t.length) : L2.atI (t.map D.int) i = some (.int (tabF t z)) := by
  rw [at_int (z - 1).toNat (by omega) (by omega)]
  unfold tabF
  rw [List.getElem?_eq_getElem (by omega)]; rfl
section
variable {P : Program} {w : World} {K : PySem.W.Frag} {mg : Str → Option Value} {base : Heap}
theorem sc_cost : FnScope ["table", "history", "files", "told", "mine", "deed", "_", "size", "word", "number"] ["table", "history"] (defScope (top 94)) := ⟨rfl, rfl, rfl, by decide +kernel, rfl, by decide +kernel, by decide +kernel⟩
def R_cost : List D → D → Prop := fun ds d => ∃ t q dds, ds = [.lst (t.map D.int), dHis q dds] ∧ CostOk t q dds ∧ d = .tup [.int (toldM t q dds), .int (mineM t dds)]
theorem ok_cost (T : Tx mg) (F : FnT K mg 94 "cost") (CL : ClsF K mg "History" ["q", "deeds"]) (K1 : Kn P w K mg base "need_numbers" 3 R_neednum) (K2 : Kn P w K mg base "need_history" 1 R_needhis) (K3 : Kn P w K mg base "sizes_of" 1 R_sizes) (K4 : Kn P w K mg base "writes" 13 R_writes) : Kn P w K mg base "cost" 14 R_cost := by
  obtain ⟨f, fd, F, g⟩ := F
  refine kn_of F g sc_cost (fun ds d h => by obtain ⟨_, _, _, rfl, _⟩ := h; rfl) (fun _ _ _ _ _ _ us hl => match us, hl with | [_, _], _ => rfl) ?_
  rintro cdv A outer s H E hr ds d ⟨t, q, dds, rfl, C, rfl⟩
  have nd := sc_cost.nd
  have len := C.c.len
  have pl : (putsM dds).length ≤ dds.length := List.length_filterMap_le _ _
  refine ss_cons (s_expr (d_call K1 hr (a_cons (d_var 0) (a_cons d_str a_nil)) ⟨t, _, rfl, C.nu, rfl⟩) ?_)
  refine ss_cons (s_expr (d_call K2 hr (a_cons (d_var 1) a_nil) ⟨_, rfl, rfl⟩) ?_)
  refine ss_cons (s_set 2 nd (d_call K3 hr (a_cons (d_var 1) a_nil) ⟨q, dds, rfl, by omega, rfl⟩) ?_)
  obtain ⟨m, hm1, hm2⟩ := max_ex (putsM dds) 0
  refine ss_cons (s_ifF0 (DT.eq (t_gt (d_maxL (xs := 0 :: putsM dds) (f := fun x => x) (m := m) T.max (DE.eq (DF.de (f_lst (a_cons d_int (a_star (d_var 2) (.lst _) a_nil)) (hl := Nat.le_trans (show _ ≤ 1000 by simp only [List.length_cons, List.length_append, List.length_map, List.length_nil]; omega) (by decide)))) (by rw [List.append_nil]; rfl)) (by rw [List.map_id']; exact hm1) (by rw [List.map_id']; exact hm2)) (d_len T.len (d_var 0) (.lst _))) (by
    rw [List.length_map]
    refine decide_eq_false ?_
    rcases List.mem_cons.mp hm1 with rfl | h
    · omega
    · have := (C.z m h).2; omega)) ?_)
  have wl : ((course q 0 [] dds).flatMap (wrRow q dds)).length ≤ 1000000 := by
    refine Nat.le_trans (flat_len _ 10001 _ (row_len C.c)) ?_
    rw [course_len]
    exact Nat.le_trans (Nat.mul_le_mul_right _ len) (by decide)
  refine ss_cons (s_setLc2 3 nd (LJ2.eq (j_lc2 (p := .nm 5) (p1 := .tp [.nm 6, .nm 7]) (xs := course q 0 [] dds) (enc := fun y => .tup ((wrRow q dds y).map dPr)) (t := fun _ => true) (ys := wrRow q dds) (enc1 := dPr) (t1 := fun _ _ => true) (f := fun _ p => .int (tabF t p.2)) [("deed", 5), ("_", 6), ("size", 7)] nd (i_tup (d_call K4 hr (a_cons (d_var 1) a_nil) ⟨q, dds, rfl, C.c, rfl⟩)) (blkOk_by (by kernel_rfl)) (fun _ _ _ _ _ => g_nm 5 nd) (fun _ _ _ _ _ => g_tp (gs_cons (g_nm 6 nd) (gs_cons (g_nm 7 nd) gs_nil))) (by decide) (by decide)
    (fun y hy => ⟨_, rfl, fun _ _ _ _ _ => ts_nil, fun _ => ⟨fun _ _ _ _ _ => (i_tup (d_var 5)), fun p hp => ⟨_, rfl, fun _ _ _ _ _ => ts_nil, fun ht _ _ _ _ _ => (d_ixA (d_var 0) (.lst _) (d_sub (d_var 7) d_int) (at_tab rfl (row_ok C y hy p hp).1 (row_ok C y hy p hp).2))⟩⟩⟩) (by rw [List.filter_eq_self.mpr fun _ _ => rfl]; exact wl))
    (show _ = ((course q 0 [] dds).flatMap (wrRow q dds)).map (fun p => .int (tabF t p.2)) by
      rw [List.filter_eq_self.mpr fun _ _ => rfl, List.map_flatMap]
      congr 1
      funext y
      rw [List.filter_eq_self.mpr fun _ _ => rfl])) ?_)
  refine ss_cons (s_setLc 4 nd (j_lc (p := .tp [.nm 8, .nm 9]) (xs := dds) (enc := dDd) (f := fun d => .int (sizeI dds d)) [("word", 8), ("number", 9)] nd (i_tup (d_fld (d_var 1) CL.at)) (blkOk_by (by kernel_rfl)) (fun _ _ _ _ _ => g_tp (gs_cons (g_nm 8 nd) (gs_cons (g_nm 9 nd) gs_nil))) (by decide) (by omega) (fun x hx => ?_)) ?_)
  · cases x with
    | put z => exact ⟨_, rfl, fun _ _ _ _ _ => d_ifT (DT.eq (t_eqS (d_var 8) d_str) (by decide)) (d_var 9)⟩
    | drop s =>
      obtain ⟨h1, h2⟩ := C.d s hx
      refine ⟨_, rfl, fun _ _ _ _ _ => d_ifF (DT.eq (t_eqS (d_var 8) d_str) (by decide)) (d_ixA (d_var 2) (.lst _) (d_var 9) (atI_of h1 ?_))⟩
      rw [List.getElem?_map]
      show _ = some (D.int (szOf dds s))
      unfold szOf
      rw [List.getElem?_eq_getElem h2]; rfl
  refine ss_cons (s_ret (d_tup (a_cons (d_sum (xs := (course q 0 [] dds).flatMap (wrRow q dds)) (f := fun p => tabF t p.2) T.sum (d_var 3)) (a_cons (d_sum (xs := dds) (f := fun d => tabF t (sizeI dds d)) T.sum (DF.de (DF.eq (f_lc (p := .nm 7) (xs := dds.map (sizeI dds)) (enc := D.int) (f := fun z => .int (tabF t z)) [("size", 7)] nd (i_lst (DE.eq (d_var 4) (by rw [List.map_map]; rfl))) (blkOk_by (by kernel_rfl)) (fun _ _ _ _ _ => g_nm 7 nd) (by decide) (by rw [List.length_map]; omega) (fun z hz => ⟨_, rfl, fun _ _ _ _ _ => (d_ixA (d_var 0) (.lst _) (d_sub (d_var 7) d_int) (?_))⟩)) ?_))) a_nil))) rfl)
  · obtain ⟨d, hd, rfl⟩ := List.mem_map.mp hz
    have : 1 ≤ sizeI dds d ∧ sizeI dds d ≤ t.length := by
      cases d with
      | put z => exact C.z z (put_mem hd)
      | drop s => exact C.z _ (szOf_mem (C.d s hd).2)
    exact at_tab rfl this.1 this.2
  · rw [List.map_map]; rfl
end
end K76
set_option maxRecDepth 100000
set_option maxHeartbeats 4000000
namespace K76
open PySem PySem.Spec PyProof.Rows L2
theorem rk_of {z : Int} {r : Nat} (h1 : (2 : Int) ^ r ≤ z) (h2 : z < 2 ^ (r + 1)) : rk z = r := by
  have z0 : 1 ≤ z := Int.le_trans (by have := Int.pow_pos (n := 2) (m := r) (by omega); omega) h1
  have e1 : ((2 ^ r : Nat) : Int) = 2 ^ r := by rw [Int.natCast_pow]; rfl
  have e2 : ((2 ^ (r + 1) : Nat) : Int) = 2 ^ (r + 1) := by rw [Int.natCast_pow]; rfl
  unfold rk
  congr 1
  refine (Nat.log2_eq_iff (by omega)).mpr ⟨?_, ?_⟩
  · have : ((2 ^ r : Nat) : Int) ≤ (z.toNat : Int) := by rw [e1]; omega
    exact_mod_cast this
  · have : (z.toNat : Int) < ((2 ^ (r + 1) : Nat) : Int) := by rw [e2]; omega
    exact_mod_cast this
/-- a layout's regions as the law's machine may be asked -/
structure GsOk (gs : List Rg) : Prop where
  len : gs.length ≤ 13
  sm : ∀ g ∈ gs, smR g
  z : ∀ t ∈ allT gs, 1 ≤ t.z ∧ t.z ≤ 4096
  l2 : (allT gs).length ≤ 200
theorem Lawful.gs {q n : Int} {gs : List Rg} (L : Lawful q n gs) : GsOk gs := ⟨L.len, fun g hg => (L.rg g hg).sm, fun t ht => by
  obtain ⟨g, hg, h⟩ := mem_allT.mp ht
  rcases h with h | h
  · exact ((L.rg g hg).p t h).2.2.2
  · exact ((L.rg g hg).m t h).2.2.2, L.len2⟩
theorem GsOk.mark {gs : List Rg} (G : GsOk gs) (s : Int) : GsOk (gs.map (markR s)) := ⟨by rw [List.length_map]; exact G.len, fun x hx => by
  obtain ⟨g, hg, rfl⟩ := List.mem_map.mp hx
  have := G.sm g hg
  exact ⟨by rw [show (markR s g).p = K76.mark .hole s g.p from rfl, mark_len]; exact this.1, by rw [show (markR s g).m = K76.mark .gone s g.m from rfl, mark_len]; exact this.2⟩, fun t ht => by
  obtain ⟨x, hx, h⟩ := mem_allT.mp ht
  obtain ⟨g, hg, rfl⟩ := List.mem_map.mp hx
  rcases h with h | h
  · obtain ⟨u, hu, _, e, _⟩ := mem_mark h
    rw [e]; exact G.z u (mem_allT.mpr ⟨g, hg, .inl hu⟩)
  · obtain ⟨u, hu, _, e, _⟩ := mem_mark h
    rw [e]; exact G.z u (mem_allT.mpr ⟨g, hg, .inr hu⟩), by rw [allT_mark_len]; exact G.l2⟩
def dGo : Option (List Rg) → D
  | none => .non
  | some gs => dGs gs
def mFall (e : Option (List Rg)) : Bool := e.isNone
section
variable {P : Program} {w : World} {K : PySem.W.Frag} {mg : Str → Option Value} {base : Heap}
theorem sc_L_rank : FnScope ["_law_size", "_law_rank_here"] ["_law_size"] (defScope (top 100)) := ⟨rfl, rfl, rfl, by decide +kernel, rfl, by decide +kernel, by decide +kernel⟩
def R_Lrank : List D → D → Prop := fun ds d => ∃ z : Int, ds = [.int z] ∧ 1 ≤ z ∧ z ≤ 4096 ∧ d = .int (rk z)
theorem ok_L_rank (F : FnT K mg 100 "_law_rank") : Kn P w K mg base "_law_rank" 1 R_Lrank := by
  obtain ⟨f, fd, F, g⟩ := F
  refine kn_of F g sc_L_rank (fun ds d h => by obtain ⟨_, rfl, _⟩ := h; rfl) (fun _ _ _ _ _ _ us hl => match us, hl with | [_], _ => rfl) ?_
  rintro cdv A outer s H E hr ds d ⟨z, rfl, z1, z2, rfl⟩
  have nd := sc_L_rank.nd
  refine ss_cons (s_set 1 nd d_int ?_)
  refine ss_cons (s_while (fun m ρ => ∃ r : Nat, m + r = 13 ∧ (2 : Int) ^ r ≤ z ∧ ρ = [some (.val (.int z)), some (.val (.int (r : Int)))]) 13 ⟨0, rfl, by rw [Int.pow_zero]; omega, rfl⟩ ?_)
  rintro m ρ ⟨r, hm, hz, rfl⟩
  refine ⟨decide (2 * (2 : Int) ^ ((r : Int)).toNat ≤ z), t_le (d_shl d_int (d_var 1) ⟨by omega, by omega, by decide⟩) (d_var 0), fun hb => ?_, fun hb => ?_⟩
  · have hb := of_decide_eq_true hb
    rw [Int.toNat_natCast] at hb
    have h2 : (2 : Int) ^ (r + 1) ≤ z := by rw [Int.pow_succ]; omega
    have h3 : r + 1 ≤ 12 := by
      refine Nat.le_of_not_lt fun h => ?_
      have := two_pow_le (show 13 ≤ r + 1 by omega)
      have e : (2 : Int) ^ 13 = 8192 := by decide
      omega
    refine ss_cons (s_set 1 nd (d_add (d_var 1) d_int) (ss_nil ⟨m - 1, by omega, r + 1, by omega, h2, ?_⟩))
    rw [show ((r : Int) + 1) = ((r + 1 : Nat) : Int) by omega]; rfl
  · have hb := of_decide_eq_false hb
    rw [Int.toNat_natCast] at hb
    have e : rk z = r := rk_of hz (by rw [Int.pow_succ]; omega)
    rw [e]
    exact ss_cons (s_ret (d_var 1) rfl)
theorem sc_L_free : FnScope ["_law_q_here", "_law_region", "_law_word", "_law_serial", "_law_size"] ["_law_q_here", "_law_region"] (defScope (top 101)) := ⟨rfl, rfl, rfl, by decide +kernel, rfl, by decide +kernel, by decide +kernel⟩
def R_Lfree : List D → D → Prop := fun ds d => ∃ (q : Int) (g : Rg), ds = [.int q, dRg g] ∧ 2 ≤ q ∧ q ≤ 64 ∧ smR g ∧ d = .int (free q g)
theorem ok_L_free (T : Tx mg) (F : FnT K mg 101 "_law_free") : Kn P w K mg base "_law_free" 1 R_Lfree := by
  obtain ⟨f, fd, F, g⟩ := F
  refine kn_of F g sc_L_free (fun ds d h => by obtain ⟨_, _, rfl, _⟩ := h; rfl) (fun _ _ _ _ _ _ us hl => match us, hl with | [_, _], _ => rfl) ?_
  rintro cdv A outer s H E hr ds d ⟨q, g, rfl, q1, q2, sm, rfl⟩
  have nd := sc_L_free.nd
  exact ss_cons (s_ret (d_sub (d_fdiv (d_sum (xs := g.p) (f := Th.z) T.sum (DF.de (f_lc (p := .tp [.nm 2, .nm 3, .nm 4]) (xs := g.p) (enc := dTh) (f := fun t => .int t.z) [("_law_word", 2), ("_law_serial", 3), ("_law_size", 4)] nd (i_tup (d_ix (d_var 1) (.tup _))) (blkOk_by (by kernel_rfl)) (fun _ _ _ _ _ => g_tp (gs_cons (g_nm 2 nd) (gs_cons (g_nm 3 nd) (gs_cons (g_nm 4 nd) gs_nil)))) (by decide) (Nat.le_trans sm.1 (by decide)) (fun x hx => ⟨_, rfl, fun _ _ _ _ _ => (d_var 4)⟩)))) (d_var 0) ⟨by omega, by omega⟩)
    (d_sum (xs := g.m) (f := Th.z) T.sum (DF.de (f_lc (p := .tp [.nm 2, .nm 3, .nm 4]) (xs := g.m) (enc := dTh) (f := fun t => .int t.z) [("_law_word", 2), ("_law_serial", 3), ("_law_size", 4)] nd (i_tup (d_ix (d_var 1) (.tup _))) (blkOk_by (by kernel_rfl)) (fun _ _ _ _ _ => g_tp (gs_cons (g_nm 2 nd) (gs_cons (g_nm 3 nd) (gs_cons (g_nm 4 nd) gs_nil)))) (by decide) (Nat.le_trans sm.2 (by decide)) (fun x hx => ⟨_, rfl, fun _ _ _ _ _ => (d_var 4)⟩))))) rfl)
theorem sc_L_laid : FnScope ["_law_q_here", "_law_regions", "_law_thing", "_law_at", "_law_region"] ["_law_q_here", "_law_regions", "_law_thing"] (defScope (top 102)) := ⟨rfl, rfl, rfl, by decide +kernel, rfl, by decide +kernel, by decide +kernel⟩
def R_Llaid : List D → D → Prop := fun ds d => ∃ (q : Int) (gs : List Rg) (t : Th), ds = [.int q, dGs gs, dTh t] ∧ 2 ≤ q ∧ q ≤ 64 ∧ GsOk gs ∧ 1 ≤ t.z ∧ t.z ≤ 4096 ∧ d = dGo (lay q t gs)
theorem ok_L_laid (T : Tx mg) (F : FnT K mg 102 "_law_laid") (K1 : Kn P w K mg base "_law_rank" 1 R_Lrank) (K2 : Kn P w K mg base "_law_free" 1 R_Lfree) : Kn P w K mg base "_law_laid" 2 R_Llaid := by
  obtain ⟨f, fd, F, g⟩ := F
  refine kn_of F g sc_L_laid (fun ds d h => by obtain ⟨_, _, _, rfl, _⟩ := h; rfl) (fun _ _ _ _ _ _ us hl => match us, hl with | [_, _, _], _ => rfl) ?_
  rintro cdv A outer s H E hr ds d ⟨q, gs, t, rfl, q1, q2, G, z1, z2, rfl⟩
  have nd := sc_L_laid.nd
  have gl := G.len
  refine ss_cons (s_for (xs := (List.range gs.length).zip gs) (enc := dEn dRg) (p := .tp [.nm 3, .nm 4]) (i_enumT T.enumerate (d_var 1)) (g_tp (gs_cons (g_nm 3 nd) (gs_cons (g_nm 4 nd) gs_nil)))
    (fun i ρ => (∀ j g, j < i → gs[j]? = some g → fits q t.z g = false) ∧ ∃ a b : Option Sl, ρ = [some (.val (.int q)), some (.val (dGs gs)), some (.val (dTh t)), a, b]) ⟨fun j g h => absurd h (Nat.not_lt_zero _), _, _, rfl⟩ ?_ ?_)
  · rintro i ⟨m, g⟩ ρ hx ⟨hno, a, b, rfl⟩
    rw [List.getElem?_zip_eq_some] at hx
    obtain ⟨hx1, hx2⟩ := hx
    have hi : i < gs.length := (List.getElem?_eq_some_iff.mp hx2).1
    rw [List.getElem?_range hi] at hx1
    have ei : i = m := by simpa using hx1
    subst ei
    have hg : g ∈ gs := List.mem_of_getElem? hx2
    have sm := G.sm g hg
    refine ⟨_, rfl, ?_⟩
    refine ss_cons (s_if (b := fits q t.z g) (DT.eq (DW.t (w_and (t_ge (d_ix (d_var 4) (.tup _)) (d_call K1 hr (a_cons (d_ix (d_var 2) (.tup _)) a_nil) ⟨t.z, rfl, z1, z2, rfl⟩)) fun _ => (w_and1 (t_ge (d_call K2 hr (a_cons (d_var 0) (a_cons (d_var 4) a_nil)) ⟨q, g, rfl, q1, q2, sm, rfl⟩) (d_ix (d_var 2) (.tup _)))))) rfl) (fun hb => ?_) (fun hb => ?_))
    · have hs : spot q t.z gs = some i := by
        unfold spot
        rw [List.findIdx?_eq_some_iff_getElem]
        refine ⟨hi, ?_, fun j hj => ?_⟩
        · rw [(List.getElem?_eq_some_iff.mp hx2).2]; exact hb
        · have hjl : j < gs.length := Nat.lt_trans hj hi
          rw [hno j gs[j] hj (List.getElem?_eq_getElem hjl)]; simp
      have e : dGo (lay q t gs) = dGs (putAt i t gs) := by unfold lay; rw [hs]; rfl
      rw [e]
      refine ss_cons (s_ret (DE.eq (d_catT (d_catT (d_sliceT (l := none) (u := some (i : Int)) (d_var 1) o_none (o_some (d_var 3))) (d_tup (a_cons (d_tup (a_cons (d_ix (d_var 4) (.tup _)) (a_cons (d_ix (d_var 4) (.tup _)) (a_cons (d_catT (d_ix (d_var 4) (.tup _)) (d_tup (a_cons (d_var 2) a_nil)) ?_) a_nil)))) a_nil)) ?_) (d_sliceT (l := some ((i + 1 : Nat) : Int)) (u := none) (d_var 1) (o_some (DE.eq (d_add (d_var 3) d_int) (by rw [show ((i : Int) + 1) = ((i + 1 : Nat) : Int) by omega]))) o_none) ?_) ?_) rfl)
      · unfold smR at sm
        refine ln16 ?_
        simp only [List.length_map, List.length_cons, List.length_nil]
        omega
      · rw [cut_take]
        refine ln16 ?_
        simp only [List.length_take, List.length_map, List.length_cons, List.length_nil]
        omega
      · rw [cut_take, cut_drop]
        refine ln16 ?_
        simp only [List.length_append, List.length_take, List.length_drop, List.length_map, List.length_cons, List.length_nil]
        omega
      · rw [cut_take, cut_drop]
        unfold putAt
        rw [hx2]
        show D.tup _ = D.tup _
        congr 1
        rw [List.map_append, List.map_append, List.map_take, List.map_drop]
        congr 1
        congr 1
        show [D.tup [.int g.r, .tup (g.p.map dTh), .tup (g.m.map dTh ++ [dTh t])]] = [dRg { g with m := g.m ++ [t] }]
        rw [show dRg { g with m := g.m ++ [t] } = .tup [.int g.r, .tup (g.p.map dTh), .tup ((g.m ++ [t]).map dTh)] from rfl, List.map_append]
        rfl
    · refine ss_nil (ss_nil ⟨fun j g' hj hg' => ?_, _, _, rfl⟩)
      by_cases e : j = i
      · subst e; rw [hx2] at hg'; cases hg'; exact hb
      · exact hno j g' (by omega) hg'
  · rintro ρ ⟨hno, a, b, rfl⟩
    have hs : spot q t.z gs = none := by
      unfold spot
      rw [List.findIdx?_eq_none_iff]
      intro g hg
      obtain ⟨j, hj⟩ := List.mem_iff_getElem?.mp hg
      have hl : ((List.range gs.length).zip gs).length = gs.length := by simp
      exact hno j g (by rw [hl]; exact (List.getElem?_eq_some_iff.mp hj).1) hj
    have e : dGo (lay q t gs) = .non := by unfold lay; rw [hs]; rfl
    rw [e]
    exact ss_cons (s_ret d_non rfl)
theorem minI_append (b : Int) (xs ys : List Int) : minI b (xs ++ ys) = minI (minI b xs) ys := by unfold minI; rw [List.foldl_append]
theorem sc_L_begin : FnScope ["_law_regions", "_law_size", "_law_turn", "_law_rank_here", "_law_low", "_law_own", "_law_payload", "_law_room", "_law_thing"] ["_law_regions", "_law_size"] (defScope (top 103)) := ⟨rfl, rfl, rfl, by decide +kernel, rfl, by decide +kernel, by decide +kernel⟩
def R_Lbegin : List D → D → Prop := fun ds d => ∃ (gs : List Rg) (z : Int), ds = [dGs gs, .int z] ∧ 1 ≤ z ∧ z ≤ 4096 ∧ GsOk gs ∧ d = .int (bgn gs z)
theorem iterB_succ (gs : List Rg) : ∀ (n : Nat) (b : Int), iterB gs (n + 1) b = stepB gs (iterB gs n b)
  | 0, b => rfl
  | n + 1, b => by rw [iterB, iterB_succ gs n]; rfl
theorem lowR_len (b : Int) (g : Rg) : (lowR b g).length ≤ (g.p ++ g.m).length := by
  unfold lowR
  split
  · rw [List.length_map, List.length_append]
    have := List.length_filter_le (fun t : Th => decide (rk t.z < b)) g.m
    omega
  · exact Nat.zero_le _
theorem low_len (b : Int) : ∀ gs : List Rg, (low b gs).length ≤ (allT gs).length
  | [] => Nat.zero_le _
  | g :: gs => by
    have h1 := low_len b gs
    have h2 := lowR_len b g
    unfold low allT at h1 ⊢
    rw [List.flatMap_cons, List.flatMap_cons, List.length_append, List.length_append]
    omega
theorem allT_takeL (gs : List Rg) (i : Nat) : (allT (gs.take i)).length ≤ (allT gs).length := (allT_sub (List.take_sublist i gs)).length_le
theorem ok_L_begin (T : Tx mg) (F : FnT K mg 103 "_law_begin") (K1 : Kn P w K mg base "_law_rank" 1 R_Lrank) : Kn P w K mg base "_law_begin" 2 R_Lbegin := by
  obtain ⟨f, fd, F, g⟩ := F
  refine kn_of F g sc_L_begin (fun ds d h => by obtain ⟨_, _, rfl, _⟩ := h; rfl) (fun _ _ _ _ _ _ us hl => match us, hl with | [_, _], _ => rfl) ?_
  rintro cdv A outer s H E hr ds d ⟨gs, z, rfl, z1, z2, G, rfl⟩
  have nd := sc_L_begin.nd
  have gl2 := G.l2
  refine ss_cons (s_parN [3, 4] (ls_cons (l_val (d_call K1 hr (a_cons (d_var 1) a_nil) ⟨z, rfl, z1, z2, rfl⟩)) (ls_cons (l_own (f_lst a_nil)) ls_nil)) (g_tp (gs_cons (g_nm 3 nd) (gs_cons (g_nm 4 nd) gs_nil))) ?_)
  refine ss_cons (s_for (xs := List.range (14 : Int).toNat) (enc := fun i => .int (0 + (i : Nat))) (p := .nm 2) (i_range1 T.range d_int (by decide) (by decide)) (g_nm 2 nd)
    (fun i ρ => ∃ (e2 e4 e5 e6 e7 e8 : Option Sl) (b : Int), ρ = [some (.val (dGs gs)), some (.val (.int z)), e2, some (.val (.int b)), e4, e5, e6, e7, e8] ∧ b = iterB gs i (rk z)) ⟨_, _, _, _, _, _, _, rfl, rfl⟩ ?_ ?_)
  · rintro i x ρ hx ⟨e2, e4, e5, e6, e7, e8, b, rfl, hb⟩
    refine ⟨_, rfl, ?_⟩
    refine ss_cons (s_own 4 nd (f_lst a_nil) ?_)
    refine ss_cons (s_for (xs := gs) (enc := dRg) (p := .tp [.nm 5, .nm 6, .nm 7]) (i_tup (d_var 0)) (g_tp (gs_cons (g_nm 5 nd) (gs_cons (g_nm 6 nd) (gs_cons (g_nm 7 nd) gs_nil))))
      (fun j ρ => ∃ (e5 e6 e7 e8 : Option Sl) (fs : List D), ρ = [some (.val (dGs gs)), some (.val (.int z)), some (.val (.int (0 + (x : Nat)))), some (.val (.int b)), some (.ml fs), e5, e6, e7, e8] ∧ fs = (low b (gs.take j)).map D.int) ⟨_, _, _, _, _, rfl, rfl⟩ ?_ ?_)
    · rintro j g ρ hg ⟨e5, e6, e7, e8, fs, rfl, hf⟩
      have hgm : g ∈ gs := List.mem_of_getElem? hg
      have sm := G.sm g hgm
      have fl : fs.length ≤ 200 := by
        rw [hf, List.length_map]
        have := low_len b (gs.take j)
        have := allT_takeL gs j
        omega
      have step : low b (gs.take (j + 1)) = low b (gs.take j) ++ lowR b g := by
        rw [List.take_add_one, hg]; unfold low; rw [List.flatMap_append]; simp
      refine ⟨_, rfl, ?_⟩
      refine ss_cons (s_if (t_ge (d_var 5) (d_var 3)) (fun ht => ?_) (fun ht => ?_))
      · have ht := of_decide_eq_true ht
        refine ss_frz 4 (ss_cons (s_own 4 nd (f_cat (d_var 4) (DF.de (f_lcIf (p := .nm 8) (xs := g.m) (enc := dTh) (t := fun t => decide (rk t.z < b)) (f := fun t => .int (rk t.z)) [("_law_thing", 8)] nd (i_tup (d_var 7)) (blkOk_by (by kernel_rfl)) (fun _ _ _ _ _ => g_nm 8 nd) (by decide) (Nat.le_trans sm.2 (by decide)) (fun t htm => ⟨_, rfl, fun _ _ _ _ _ => (t_lt (d_call K1 hr (a_cons (d_ix (d_var 8) (.tup _)) a_nil) ⟨t.z, rfl, (G.z t (mem_allT.mpr ⟨g, hgm, .inr htm⟩)).1, (G.z t (mem_allT.mpr ⟨g, hgm, .inr htm⟩)).2, rfl⟩) (d_var 3)), fun _ _ _ _ _ _ => (d_call K1 hr (a_cons (d_ix (d_var 8) (.tup _)) a_nil) ⟨t.z, rfl, (G.z t (mem_allT.mpr ⟨g, hgm, .inr htm⟩)).1, (G.z t (mem_allT.mpr ⟨g, hgm, .inr htm⟩)).2, rfl⟩)⟩))) ?_) (ss_nil (ss_nil ⟨_, _, _, _, _, rfl, ?_⟩))))
        · rw [List.length_map]
          have := List.length_filter_le (fun t : Th => decide (rk t.z < b)) g.m
          have := sm.2
          exact ln16 (by omega)
        · rw [step, List.map_append, hf]
          congr 1
          unfold lowR
          rw [if_pos ht, List.map_map]; rfl
      · have ht := of_decide_eq_false ht
        refine ss_nil (ss_nil ⟨_, _, _, _, _, rfl, ?_⟩)
        rw [step, hf]
        unfold lowR
        rw [if_neg ht, List.append_nil]
    · rintro ρ ⟨e5, e6, e7, e8, fs, rfl, hf⟩
      rw [List.take_length] at hf
      subst hf
      have ll := low_len b gs
      refine ss_frz 4 ?_
      refine ss_cons (s_set 3 nd (d_minL (xs := low b gs ++ [b]) (f := fun x => x) (m := stepB gs b) T.min (DE.eq (DF.de (f_cat (d_var 4) (DF.de (f_lst (a_cons (d_var 3) a_nil))) ?_)) (by rw [List.map_append]; rfl)) ?_ ?_) (ss_nil ⟨_, _, _, _, _, _, _, rfl, ?_⟩))
      · rw [List.length_map]; exact ln16 (by simp only [List.length_cons, List.length_nil]; omega)
      · rw [List.map_id']
        obtain ⟨_, _, h3⟩ := minI_le b (low b gs)
        rcases h3 with h | h
        · exact List.mem_append_right _ (by show minI b (low b gs) ∈ _; rw [h]; exact List.mem_singleton.mpr rfl)
        · exact List.mem_append_left _ h
      · rw [List.map_id']
        intro y hy
        obtain ⟨h1, h2, _⟩ := minI_le b (low b gs)
        rcases List.mem_append.mp hy with h | h
        · exact h2 y h
        · rw [List.mem_singleton.mp h]; exact h1
      · rw [iterB_succ, ← hb]
  · rintro ρ ⟨e2, e4, e5, e6, e7, e8, b, rfl, hb⟩
    subst hb
    exact ss_cons (s_ret (d_var 3) rfl)
end
end K76
set_option maxRecDepth 100000
set_option maxHeartbeats 4000000
namespace K76
open PySem PySem.Spec PyProof.Rows L2
@[reducible] def dPO : Option (Int × Int) → D
  | none => .non
  | some p => dPr p
theorem lowN {n : Nat} {m : Nat} (h : n ≤ m) (hm : m ≤ 1000 := by decide) : n ≤ sizeLine := ln16 (Nat.le_trans h hm)
theorem filesIn_take (b : Int) (drop : Option Int) (gs : List Rg) {j : Nat} {g : Rg} (h : gs[j]? = some g) : filesIn b drop (gs.take (j + 1)) = filesIn b drop (gs.take j) ++ filesR b drop g := by
  unfold filesIn
  rw [List.take_add_one, h, List.flatMap_append]; simp
theorem allT_take1 (gs : List Rg) {j : Nat} {g : Rg} (h : gs[j]? = some g) : allT (gs.take (j + 1)) = allT (gs.take j) ++ (g.p ++ g.m) := by
  unfold allT
  rw [List.take_add_one, h, List.flatMap_append]; simp
@[reducible] def dSp (x : Sp5) : D := .tup [.int x.s, .int x.at_, .int x.z, .int x.r, .bl x.m]
theorem spotsT_app (r : Int) (b : Bool) : ∀ (xs ys : List Th) (a : Int), spotsT r b a (xs ++ ys) = spotsT r b a xs ++ spotsT r b (a + cells xs) ys
  | [], ys, a => by show _ = spotsT r b (a + 0) ys; rw [Int.add_zero]; rfl
  | t :: xs, ys, a => by
    rw [List.cons_append, spotsT, spotsT, spotsT_app r b xs ys, cells_cons, List.append_assoc, Int.add_assoc]
theorem spotsT_len (r : Int) (b : Bool) : ∀ (ts : List Th) (a : Int), (spotsT r b a ts).length ≤ ts.length
  | [], a => Nat.zero_le _
  | t :: ts, a => by
    rw [spotsT, List.length_append, List.length_cons]
    have := spotsT_len r b ts (a + t.z)
    split
    · simp only [List.length_cons, List.length_nil]; omega
    · simp only [List.length_nil]; omega
theorem spots_len (q : Int) : ∀ (gs : List Rg) (a : Int), (spots q a gs).length ≤ (allT gs).length
  | [], a => Nat.zero_le _
  | g :: gs, a => by
    have h1 := spotsT_len g.r false g.p a
    have h2 := spotsT_len g.r true g.m (a + cells g.p)
    have h3 := spots_len q gs (a + cells g.p + cells g.p / q)
    rw [spots, allT_cons]
    simp only [List.length_append]
    omega
theorem spots_app (q : Int) : ∀ (xs ys : List Rg) (a : Int), spots q a (xs ++ ys) = spots q a xs ++ spots q (a + endG q xs) ys
  | [], ys, a => by show _ = spots q (a + 0) ys; rw [Int.add_zero]; rfl
  | g :: xs, ys, a => by
    have e : endG q (g :: xs) = cells g.p + cells g.p / q + endG q xs := by unfold endG endR; simp
    rw [List.cons_append, spots, spots, spots_app q xs ys, e, show a + (cells g.p + cells g.p / q + endG q xs) = a + cells g.p + cells g.p / q + endG q xs by omega]
    simp only [List.append_assoc]
section
variable {P : Program} {w : World} {K : PySem.W.Frag} {mg : Str → Option Value} {base : Heap}
theorem sc_L_anew : FnScope ["_law_regions", "_law_rank_here", "_law_put", "_law_drop", "_law_own", "_law_files_here", "_law_found", "_law_payload", "_law_room", "_law_region", "_law_serial", "_law_size", "_law_word"] ["_law_regions", "_law_rank_here", "_law_put", "_law_drop"] (defScope (top 104)) := ⟨rfl, rfl, rfl, by decide +kernel, rfl, by decide +kernel, by decide +kernel⟩
def R_Lanew : List D → D → Prop := fun ds d => ∃ (gs : List Rg) (b : Int) (put : Option (Int × Int)) (drop : Option Int), ds = [dGs gs, .int b, dPO put, dO drop] ∧ GsOk gs ∧ (allT gs).length < 63 ∧ (∀ p ∈ put, 1 ≤ p.2 ∧ p.2 ≤ 4096) ∧ d = dGs (anew gs b put drop)
theorem ok_L_anew (T : Tx mg) (F : FnT K mg 104 "_law_anew") (K1 : Kn P w K mg base "_law_rank" 1 R_Lrank) : Kn P w K mg base "_law_anew" 2 R_Lanew := by
  obtain ⟨f, fd, F, g⟩ := F
  refine kn_of F g sc_L_anew (fun ds d h => by obtain ⟨_, _, _, _, rfl, _⟩ := h; rfl) (fun _ _ _ _ _ _ us hl => match us, hl with | [_, _, _, _], _ => rfl) ?_
  rintro cdv A outer s H E hr ds d ⟨gs, b, put, drop, rfl, G, hl, hp, rfl⟩
  have nd := sc_L_anew.nd
  have gl := G.len
  refine ss_cons (s_par2 5 6 nd (ls_cons (l_val (d := .lst (put.toList.map dPr)) ?_) (ls_cons (l_val (d_tupleL T.tuple (DF.de (f_lcIf (p := .nm 9) (xs := gs) (enc := dRg) (t := fun g => decide (g.r < b)) (f := dRg) [("_law_region", 9)] nd (i_tup (d_var 0)) (blkOk_by (by kernel_rfl)) (fun _ _ _ _ _ => g_nm 9 nd) (by decide) (by omega) (fun x hx => ⟨_, rfl, fun _ _ _ _ _ => (t_lt (d_ix (d_var 9) (.tup _)) (d_var 1)), fun ht _ _ _ _ _ => (d_var 9)⟩))))) ls_nil)) ?_)
  · cases put with
    | none => exact d_ifT (DT.eq (t_isN (d_var 2)) rfl) (DF.de (f_lst a_nil))
    | some p => exact d_ifF (DT.eq (t_isN (d_var 2)) rfl) (DF.de (f_lst (a_cons (d_var 2) a_nil)))
  have fsz : ∀ (xs : List Rg), (∀ g ∈ xs, g ∈ gs) → ∀ f ∈ put.toList ++ filesIn b drop xs, 1 ≤ f.2 ∧ f.2 ≤ 4096 := fun xs hxs f hf => by
    rcases List.mem_append.mp hf with hf | hf
    · exact hp f (by cases put with
        | none => cases hf
        | some p => rw [List.mem_singleton.mp hf]; exact rfl)
    · unfold filesIn at hf
      obtain ⟨g, hg, hf⟩ := List.mem_flatMap.mp hf
      unfold filesR at hf
      split at hf
      · obtain ⟨t, ht, rfl⟩ := List.mem_map.mp hf
        exact G.z t (mem_allT.mpr ⟨g, hxs g hg, List.mem_append.mp (List.mem_filter.mp ht).1⟩)
      · cases hf
  have fll : ∀ j, (put.toList ++ filesIn b drop (gs.take j)).length < 64 := fun j => by
    have h1 := filesIn_len b drop (gs.take j)
    have h2 := allT_takeL gs j
    have h3 : put.toList.length ≤ 1 := by cases put <;> simp
    rw [List.length_append]
    omega
  refine ss_cons (s_for (xs := gs) (enc := dRg) (p := .tp [.nm 4, .nm 7, .nm 8]) (i_tup (d_var 0)) (g_tp (gs_cons (g_nm 4 nd) (gs_cons (g_nm 7 nd) (gs_cons (g_nm 8 nd) gs_nil))))
    (fun j ρ => ∃ (e4 e7 e8 e10 e11 e12 : Option Sl) (fs : List D), ρ = [some (.val (dGs gs)), some (.val (.int b)), some (.val (dPO put)), some (.val (dO drop)), e4, some (.val (.lst fs)), some (.val (.tup ((gs.filter fun g => decide (g.r < b)).map dRg))), e7, e8, none, e10, e11, e12] ∧ fs = (put.toList ++ filesIn b drop (gs.take j)).map dPr) ⟨_, _, _, _, _, _, _, rfl, by rw [show filesIn b drop (gs.take 0) = [] from rfl, List.append_nil]⟩ ?_ ?_)
  · rintro j g ρ hg ⟨e4, e7, e8, e10, e11, e12, fs, rfl, hf⟩
    have hgm : g ∈ gs := List.mem_of_getElem? hg
    have sm := G.sm g hgm
    have f1 := fll j
    have f2 := fll (j + 1)
    have hstep := filesIn_take b drop gs hg
    refine ⟨_, rfl, ?_⟩
    refine ss_cons (s_if (t_ge (d_var 4) (d_var 1)) (fun ht => ?_) (fun ht => ?_))
    · have ht := of_decide_eq_true ht
      have hR : filesR b drop g = ((g.p ++ g.m).filter fun t => decide (t.w = .file) && !decide (some t.s = drop)).map fun t => (t.s, t.z) := if_pos ht
      have hcatl : (g.p.map dTh).length + (g.m.map dTh).length ≤ sizeLine := by
        unfold smR at sm
        rw [List.length_map, List.length_map]; exact ln16 (by omega)
      refine ss_cons (s_set 5 nd (DF.de (f_cat (d_var 5) (DF.de (f_lcIf (p := .tp [.nm 12, .nm 10, .nm 11]) (xs := g.p ++ g.m) (enc := dTh) (t := fun t => decide (t.w = .file) && !decide (some t.s = drop)) (f := fun t => dPr (t.s, t.z)) [("_law_word", 12), ("_law_serial", 10), ("_law_size", 11)] nd (i_tup (DE.eq (d_catT (d_var 7) (d_var 8) hcatl) (by rw [List.map_append]))) (blkOk_by (by kernel_rfl)) (fun _ _ _ _ _ => g_tp (gs_cons (g_nm 12 nd) (gs_cons (g_nm 10 nd) (gs_cons (g_nm 11 nd) gs_nil)))) (by decide) (by unfold smR at sm; rw [List.length_append]; omega)
        (fun t ht => ⟨_, rfl, fun _ _ _ _ _ => DT.eq (DW.t (w_and (t_eqS (d_var 12) d_str) fun _ => (w_and1 (t_neIO (d_var 10) (d_var 3))))) (congrArg (· && !decide (some t.s = drop)) (dec_wd (a := t.w) (b := .file))), fun ht _ _ _ _ _ => (d_tup (a_cons (d_var 10) (a_cons (d_var 11) a_nil)))⟩))) ?_)) (ss_nil (ss_nil ⟨_, _, _, _, _, _, _, rfl, ?_⟩)))
      · rw [hf, List.length_map, List.length_map]
        have : ((g.p ++ g.m).filter fun t => decide (t.w = .file) && !decide (some t.s = drop)).length ≤ (g.p ++ g.m).length := List.length_filter_le _ _
        unfold smR at sm
        rw [List.length_append] at this
        exact ln16 (by omega)
      · rw [hf, hstep, hR]
        simp only [List.map_append, List.map_map, List.append_assoc]
        rfl
    · have ht := of_decide_eq_false ht
      refine ss_nil (ss_nil ⟨_, _, _, _, _, _, _, rfl, ?_⟩)
      rw [hf, hstep, show filesR b drop g = [] from if_neg ht, List.append_nil]
  · rintro ρ ⟨e4, e7, e8, e10, e11, e12, fs, rfl, hf⟩
    have f1 := fll gs.length
    rw [List.take_length] at hf f1
    have fz := fsz gs (fun g hg => hg)
    subst hf
    have rs := ranksOf_sorted (put.toList ++ filesIn b drop gs)
    have hrl := ranksOf_len (put.toList ++ filesIn b drop gs)
    have hgl := List.length_filter_le (fun g : Rg => decide (g.r < b)) gs
    refine ss_cons (s_for (xs := ranksOf (put.toList ++ filesIn b drop gs)) (enc := D.int) (p := .nm 4) (i_lst (DF.de (f_sortedSet (ns := (put.toList ++ filesIn b drop gs).map fun f => rk f.2) T.sorted T.set (DE.eq (DF.de (f_lc (p := .tp [.nm 10, .nm 11]) (xs := put.toList ++ filesIn b drop gs) (enc := dPr) (f := fun f => .int (rk f.2)) [("_law_serial", 10), ("_law_size", 11)] nd (i_lst (d_var 5)) (blkOk_by (by kernel_rfl)) (fun _ _ _ _ _ => g_tp (gs_cons (g_nm 10 nd) (gs_cons (g_nm 11 nd) gs_nil))) (by decide) (by omega) (fun x hx => ⟨_, rfl, fun _ _ _ _ _ => (d_call K1 hr (a_cons (d_var 11) a_nil) ⟨x.2, rfl, (fz x hx).1, (fz x hx).2, rfl⟩)⟩))) (by rw [List.map_map]; rfl)) rs ?_ (by rw [List.length_map]; exact f1)))) (g_nm 4 nd)
      (fun j ρ => ∃ (e4 e7 e8 e10 e11 e12 : Option Sl) (rs : List D), ρ = [some (.val (dGs gs)), some (.val (.int b)), some (.val (dPO put)), some (.val (dO drop)), e4, some (.val (.lst ((put.toList ++ filesIn b drop gs).map dPr))), some (.val (.tup rs)), e7, e8, none, e10, e11, e12] ∧ rs = (gs.filter fun g => decide (g.r < b)).map dRg ++ (((ranksOf (put.toList ++ filesIn b drop gs)).take j).map (newR (put.toList ++ filesIn b drop gs))).map dRg) ⟨_, _, _, _, _, _, _, rfl, by simp⟩ ?_ ?_)
    · intro k
      rw [ranksOf_mem (fun f hf => (fz f hf).2), List.mem_map]
    · rintro j r ρ hrj ⟨e4, e7, e8, e10, e11, e12, rr, rfl, hrr⟩
      refine ⟨_, rfl, ?_⟩
      refine ss_cons (s_set 6 nd (d_catT (d_var 6) (d_tup (a_cons (d_tup (a_cons (d_var 4) (a_cons (d_tupleL T.tuple (DF.de (f_lcIf (p := .tp [.nm 10, .nm 11]) (xs := sortP (put.toList ++ filesIn b drop gs)) (enc := dPr) (t := fun f => decide (rk f.2 = r)) (f := fun f => dTh ⟨.file, f.1, f.2⟩) [("_law_serial", 10), ("_law_size", 11)] nd (i_lst (DF.de (f_sortedP T.sorted (d_var 5) (sortP_perm _) (sortP_sorted _)))) (blkOk_by (by kernel_rfl)) (fun _ _ _ _ _ => g_tp (gs_cons (g_nm 10 nd) (gs_cons (g_nm 11 nd) gs_nil))) (by decide) (by rw [(sortP_perm _).length_eq]; omega)
        (fun x hx => ⟨_, rfl, fun _ _ _ _ _ => (t_eqI (d_call K1 hr (a_cons (d_var 11) a_nil) ⟨x.2, rfl, (fz x ((sortP_perm _).mem_iff.mp hx)).1, (fz x ((sortP_perm _).mem_iff.mp hx)).2, rfl⟩) (d_var 4)), fun ht _ _ _ _ _ => (d_tup (a_cons d_str (a_cons (d_var 10) (a_cons (d_var 11) a_nil))))⟩)))) (a_cons (d_tup a_nil) a_nil)))) a_nil)) ?_) (ss_nil ⟨_, _, _, _, _, _, _, rfl, ?_⟩))
      · rw [hrr]
        simp only [List.length_append, List.length_map, List.length_take, List.length_cons, List.length_nil]
        exact ln16 (by omega)
      · rw [hrr, List.append_assoc]
        congr 1
        rw [take_get hrj, List.map_append, List.map_append]
        congr 1
        show [D.tup [.int r, .tup _, .tup []]] = [D.tup [.int r, .tup (((((sortP (put.toList ++ filesIn b drop gs)).filter fun f => decide (rk f.2 = r)).map fun f => (⟨.file, f.1, f.2⟩ : Th))).map dTh), .tup []]]
        rw [List.map_map]; rfl
    · rintro ρ ⟨e4, e7, e8, e10, e11, e12, rr, rfl, hrr⟩
      rw [List.take_length] at hrr
      subst hrr
      have e : dGs (anew gs b put drop) = .tup ((gs.filter fun g => decide (g.r < b)).map dRg ++ ((ranksOf (put.toList ++ filesIn b drop gs)).map (newR (put.toList ++ filesIn b drop gs))).map dRg) := by
        unfold anew anewF dGs
        rw [List.map_append]
      rw [e]
      exact ss_cons (s_ret (d_var 6) rfl)
theorem sc_L_files : FnScope ["_law_regions", "_law_found", "_law_own", "_law_payload", "_law_room", "_law_word", "_law_serial", "_law_size"] ["_law_regions"] (defScope (top 107)) := ⟨rfl, rfl, rfl, by decide +kernel, rfl, by decide +kernel, by decide +kernel⟩
def R_Lfiles : List D → D → Prop := fun ds d => ∃ gs : List Rg, ds = [dGs gs] ∧ GsOk gs ∧ d = .lst ((pairsW .file (allT gs)).map dPr)
theorem ok_L_files (F : FnT K mg 107 "_law_files") : Kn P w K mg base "_law_files" 1 R_Lfiles := by
  obtain ⟨f, fd, F, g⟩ := F
  refine kn_of F g sc_L_files (fun ds d h => by obtain ⟨_, rfl, _⟩ := h; rfl) (fun _ _ _ _ _ _ us hl => match us, hl with | [_], _ => rfl) ?_
  rintro cdv A outer s H E hr ds d ⟨gs, rfl, G, rfl⟩
  have nd := sc_L_files.nd
  have l2 := G.l2
  refine ss_cons (s_set 1 nd (DF.de (f_lst a_nil)) ?_)
  refine ss_cons (s_for (xs := gs) (enc := dRg) (p := .tp [.nm 2, .nm 3, .nm 4]) (i_tup (d_var 0)) (g_tp (gs_cons (g_nm 2 nd) (gs_cons (g_nm 3 nd) (gs_cons (g_nm 4 nd) gs_nil))))
    (fun j ρ => ∃ (e2 e3 e4 e5 e6 e7 : Option Sl) (fs : List D), ρ = [some (.val (dGs gs)), some (.val (.lst fs)), e2, e3, e4, e5, e6, e7] ∧ fs = (pairsW .file (allT (gs.take j))).map dPr) ⟨_, _, _, _, _, _, _, rfl, rfl⟩ ?_ ?_)
  · rintro j g ρ hg ⟨e2, e3, e4, e5, e6, e7, fs, rfl, hf⟩
    have hgm : g ∈ gs := List.mem_of_getElem? hg
    have sm := G.sm g hgm
    refine ⟨_, rfl, ?_⟩
    have hcatl : (g.p.map dTh).length + (g.m.map dTh).length ≤ sizeLine := by
      unfold smR at sm
      rw [List.length_map, List.length_map]; exact ln16 (by omega)
    refine ss_cons (s_set 1 nd (DF.de (f_cat (d_var 1) (DF.de (f_lcIf (p := .tp [.nm 5, .nm 6, .nm 7]) (xs := g.p ++ g.m) (enc := dTh) (t := fun t => decide (t.w = .file)) (f := fun t => dPr (t.s, t.z)) [("_law_word", 5), ("_law_serial", 6), ("_law_size", 7)] nd (i_tup (DE.eq (d_catT (d_var 3) (d_var 4) hcatl) (by rw [List.map_append]))) (blkOk_by (by kernel_rfl)) (fun _ _ _ _ _ => g_tp (gs_cons (g_nm 5 nd) (gs_cons (g_nm 6 nd) (gs_cons (g_nm 7 nd) gs_nil)))) (by decide) (by unfold smR at sm; rw [List.length_append]; omega)
      (fun t ht => ⟨_, rfl, fun _ _ _ _ _ => DT.eq (t_eqS (d_var 5) d_str) (dec_wd (a := t.w) (b := .file)), fun ht _ _ _ _ _ => (d_tup (a_cons (d_var 6) (a_cons (d_var 7) a_nil)))⟩))) ?_)) (ss_nil ⟨_, _, _, _, _, _, _, rfl, ?_⟩))
    · rw [hf, List.length_map, List.length_map]
      have h1 := List.length_filter_le (fun t : Th => decide (t.w = .file)) (g.p ++ g.m)
      have h2 := pairsW_len .file (allT (gs.take j))
      have h3 := allT_takeL gs j
      unfold smR at sm
      rw [List.length_append] at h1
      exact ln16 (by omega)
    · rw [hf, allT_take1 gs hg, pairsW_append, List.map_append]
      congr 1
      unfold pairsW
      rw [List.map_map]; rfl
  · rintro ρ ⟨e2, e3, e4, e5, e6, e7, fs, rfl, hf⟩
    rw [List.take_length] at hf
    subst hf
    exact ss_cons (s_ret (d_var 1) rfl)
theorem sc_L_spots : FnScope ["_law_q_here", "_law_regions", "_law_found", "_law_at", "_law_rank_here", "_law_payload", "_law_room", "_law_cells", "_law_end", "_law_is_room", "_law_things", "_law_word", "_law_serial", "_law_size"] ["_law_q_here", "_law_regions"] (defScope (top 108)) := ⟨rfl, rfl, rfl, by decide +kernel, rfl, by decide +kernel, by decide +kernel⟩
def R_Lspots : List D → D → Prop := fun ds d => ∃ (q : Int) (gs : List Rg), ds = [.int q, dGs gs] ∧ 2 ≤ q ∧ q ≤ 64 ∧ GsOk gs ∧ d = .lst ((spots q 0 gs).map dSp)
theorem ok_L_spots (T : Tx mg) (F : FnT K mg 108 "_law_spots") : Kn P w K mg base "_law_spots" 1 R_Lspots := by
  obtain ⟨f, fd, F, g⟩ := F
  refine kn_of F g sc_L_spots (fun ds d h => by obtain ⟨_, _, rfl, _⟩ := h; rfl) (fun _ _ _ _ _ _ us hl => match us, hl with | [_, _], _ => rfl) ?_
  rintro cdv A outer s H E hr ds d ⟨q, gs, rfl, q1, q2, G, rfl⟩
  have nd := sc_L_spots.nd
  have l2 := G.l2
  refine ss_cons (s_par2 2 3 nd (ls_cons (l_own (f_lst a_nil)) (ls_cons (l_val d_int) ls_nil)) ?_)
  refine ss_cons (s_for (xs := gs) (enc := dRg) (p := .tp [.nm 4, .nm 5, .nm 6]) (i_tup (d_var 1)) (g_tp (gs_cons (g_nm 4 nd) (gs_cons (g_nm 5 nd) (gs_cons (g_nm 6 nd) gs_nil))))
    (fun j ρ => ∃ (e4 e5 e6 e7 e8 e9 e10 e11 e12 e13 : Option Sl) (a : Int) (fs : List D), ρ = [some (.val (.int q)), some (.val (dGs gs)), some (.ml fs), some (.val (.int a)), e4, e5, e6, e7, e8, e9, e10, e11, e12, e13] ∧ a = endG q (gs.take j) ∧ fs = (spots q 0 (gs.take j)).map dSp) ⟨_, _, _, _, _, _, _, _, _, _, _, _, rfl, rfl, rfl⟩ ?_ ?_)
  · rintro j g ρ hg ⟨e4, e5, e6, e7, e8, e9, e10, e11, e12, e13, a, fs, rfl, ha, hf⟩
    have hgm : g ∈ gs := List.mem_of_getElem? hg
    have sm := G.sm g hgm
    have fl : fs.length ≤ 200 := by
      rw [hf, List.length_map]
      have h1 := spots_len q (gs.take j) 0
      have h3 := allT_takeL gs j
      omega
    refine ⟨_, rfl, ?_⟩
    refine ss_cons (s_set 7 nd (d_sum (xs := g.p) (f := Th.z) T.sum (DF.de (f_lc (p := .tp [.nm 11, .nm 12, .nm 13]) (xs := g.p) (enc := dTh) (f := fun t => .int t.z) [("_law_word", 11), ("_law_serial", 12), ("_law_size", 13)] nd (i_tup (d_var 5)) (blkOk_by (by kernel_rfl)) (fun _ _ _ _ _ => g_tp (gs_cons (g_nm 11 nd) (gs_cons (g_nm 12 nd) (gs_cons (g_nm 13 nd) gs_nil)))) (by decide) (Nat.le_trans sm.1 (by decide)) (fun x hx => ⟨_, rfl, fun _ _ _ _ _ => (d_var 13)⟩)))) ?_)
    refine ss_cons (s_set 8 nd (d_add (d_add (d_var 3) (d_var 7)) (d_fdiv (d_var 7) (d_var 0) ⟨by omega, by omega⟩)) ?_)
    refine ss_cons (s_for (xs := [(false, g.p), (true, g.m)]) (enc := fun x => .tup [.bl x.1, .tup (x.2.map dTh)]) (p := .tp [.nm 9, .nm 10]) (i_tup (d_tup (a_cons (d_tup (a_cons d_bl (a_cons (d_var 5) a_nil))) (a_cons (d_tup (a_cons d_bl (a_cons (d_var 6) a_nil))) a_nil)))) (g_tp (gs_cons (g_nm 9 nd) (gs_cons (g_nm 10 nd) gs_nil)))
      (fun k ρ => ∃ (e9 e10 e11 e12 e13 : Option Sl) (a2 : Int) (ss : List Sp5) (fs2 : List D), ρ = [some (.val (.int q)), some (.val (dGs gs)), some (.ml fs2), some (.val (.int a2)), some (.val (.int g.r)), some (.val (.tup (g.p.map dTh))), some (.val (.tup (g.m.map dTh))), some (.val (.int (cells g.p))), some (.val (.int (a + cells g.p + cells g.p / q))), e9, e10, e11, e12, e13] ∧ fs2 = fs ++ ss.map dSp ∧ ss.length ≤ 200 * k ∧
        (k = 0 → ss = [] ∧ a2 = a) ∧ (k = 1 → ss = spotsT g.r false a g.p ∧ a2 = a + cells g.p) ∧ (k = 2 → ss = spotsT g.r false a g.p ++ spotsT g.r true (a + cells g.p) g.m)) ⟨_, _, _, _, _, _, [], _, rfl, (List.append_nil _).symm, Nat.zero_le _, fun _ => ⟨rfl, rfl⟩, fun z => (nomatch z), fun z => (nomatch z)⟩ ?_ ?_)
    · rintro k ⟨bb, ts⟩ ρ hk ⟨e9, e10, e11, e12, e13, a2, ss, fs2, rfl, hf2, hsl, h0, h1, h2⟩
      have tl : ts.length ≤ 200 := by
        match k, hk with
        | 0, hk => cases hk; exact sm.1
        | 1, hk => cases hk; exact sm.2
      have hk2 : k ≤ 1 := by
        have := (List.getElem?_eq_some_iff.mp hk).1
        simp only [List.length_cons, List.length_nil] at this
        omega
      refine ⟨_, rfl, ?_⟩
      refine ss_cons (s_for (xs := ts) (enc := dTh) (p := .tp [.nm 11, .nm 12, .nm 13]) (i_tup (d_var 10)) (g_tp (gs_cons (g_nm 11 nd) (gs_cons (g_nm 12 nd) (gs_cons (g_nm 13 nd) gs_nil))))
        (fun m ρ => ∃ (e11 e12 e13 : Option Sl) (a3 : Int) (fs3 : List D), ρ = [some (.val (.int q)), some (.val (dGs gs)), some (.ml fs3), some (.val (.int a3)), some (.val (.int g.r)), some (.val (.tup (g.p.map dTh))), some (.val (.tup (g.m.map dTh))), some (.val (.int (cells g.p))), some (.val (.int (a + cells g.p + cells g.p / q))), some (.val (.bl bb)), some (.val (.tup (ts.map dTh))), e11, e12, e13] ∧ a3 = a2 + cells (ts.take m) ∧ fs3 = fs2 ++ (spotsT g.r bb a2 (ts.take m)).map dSp) ⟨_, _, _, _, _, rfl, by show a2 = a2 + 0; omega, (List.append_nil _).symm⟩ ?_ ?_)
      · rintro m t ρ ht ⟨e11, e12, e13, a3, fs3, rfl, ha3, hf3⟩
        have fl3 : fs3.length ≤ 900 := by
          have := spotsT_len g.r bb (ts.take m) a2
          rw [List.length_take] at this
          rw [hf3, hf2, List.length_append, List.length_append, List.length_map, List.length_map]
          omega
        have estep : spotsT g.r bb a2 (ts.take (m + 1)) = spotsT g.r bb a2 (ts.take m) ++ (if t.w = .file then [⟨t.s, a3, t.z, g.r, bb⟩] else []) := by
          rw [take_get ht, spotsT_app, ← ha3, spotsT, spotsT, List.append_nil]
        have ecell : a3 + t.z = a2 + cells (ts.take (m + 1)) := by
          rw [take_get ht, cells_append, cells_cons, ha3]
          have : cells ([] : List Th) = 0 := rfl
          omega
        refine ⟨_, rfl, ?_⟩
        refine ss_cons (s_if (b := decide (t.w = .file)) (DT.eq (t_eqS (d_var 11) d_str) (dec_wd (a := t.w) (b := .file))) (fun hb => ?_) (fun hb => ?_))
        · have hb := of_decide_eq_true hb
          refine ss_cons (s_append 2 (d_tup (a_cons (d_var 12) (a_cons (d_var 3) (a_cons (d_var 13) (a_cons (d_var 4) (a_cons (d_var 9) a_nil)))))) ?_ (Nat.lt_of_le_of_lt fl3 (by decide)))
          refine ss_nil (ss_cons (s_set 3 nd (d_add (d_var 3) (d_var 13)) (ss_nil ⟨_, _, _, _, _, rfl, ecell, ?_⟩)))
          rw [hf3, estep, if_pos hb, List.map_append, List.append_assoc]; rfl
        · have hb := of_decide_eq_false hb
          refine ss_nil (ss_cons (s_set 3 nd (d_add (d_var 3) (d_var 13)) (ss_nil ⟨_, _, _, _, _, rfl, ecell, ?_⟩)))
          rw [hf3, estep, if_neg hb, List.append_nil]
      · rintro ρ ⟨e11, e12, e13, a3, fs3, rfl, ha3, hf3⟩
        rw [List.take_length] at ha3 hf3
        have sl := spotsT_len g.r bb ts a2
        refine ss_nil ⟨_, _, _, _, _, a3, ss ++ spotsT g.r bb a2 ts, _, rfl, ?_, ?_, fun z => absurd z (Nat.succ_ne_zero k), fun z => ?_, fun z => ?_⟩
        · rw [hf3, hf2, List.map_append, List.append_assoc]
        · rw [List.length_append]; omega
        · have k0 : k = 0 := by omega
          subst k0
          cases hk
          obtain ⟨c1, c2⟩ := h0 rfl
          rw [ha3, c1, c2]
          exact ⟨rfl, rfl⟩
        · have k1 : k = 1 := by omega
          subst k1
          cases hk
          obtain ⟨c1, c2⟩ := h1 rfl
          rw [c1, c2]
    · rintro ρ ⟨e9, e10, e11, e12, e13, a2, ss, fs2, rfl, hf2, hsl, h0, h1, h2⟩
      refine ss_cons (s_set 3 nd (d_var 8) (ss_nil ⟨_, _, _, _, _, _, _, _, _, _, _, _, rfl, ?_, ?_⟩))
      · rw [take_get hg, ha]
        unfold endG
        rw [List.map_append, List.sum_append]
        unfold endR
        simp only [List.map_cons, List.map_nil, List.sum_cons, List.sum_nil]
        omega
      · rw [hf2, h2 rfl, hf, take_get hg, spots_app, List.map_append, Int.zero_add, ← ha, spots, spots, List.append_nil]
        simp only [List.map_append]
  · rintro ρ ⟨e4, e5, e6, e7, e8, e9, e10, e11, e12, e13, a, fs, rfl, ha, hf⟩
    rw [List.take_length] at hf
    subst hf
    exact ss_frz 2 (ss_cons (s_ret (d_var 2) rfl))
end
end K76
set_option maxRecDepth 100000
set_option maxHeartbeats 4000000
namespace K76
open PySem PySem.Spec PyProof.Rows L2
/-! ### dict(a list of pairs) -/
section
variable {X : Cx} {ρ : Env} {a : Expr} {pos np : Pos} {kvs : List (Int × D)}
theorem pairs_of {K : PySem.W.Frag} {mg : Str → Option Value} {Hb H : Hp} (s : Same Hb H) : ∀ {vs : List V} {kvs : List (Int × D)}, Reps K mg Hb vs (kvs.map fun p => .tup [.int p.1, p.2]) → ∃ (ps : List Addr) (ks : List (Key × V)), vs = ps.map V.ref ∧ PySem.Paired (fun p kv => SqT K H p [kV kv.1, kv.2]) ps ks ∧ RepK K mg Hb ks kvs
  | _, [], .nil => ⟨[], [], rfl, .nil, .nil⟩
  | _, p :: kvs, .cons h r => by
    obtain ⟨a, us, rfl, h1, h2⟩ := h.tup_inv
    obtain ⟨v1, v2, rfl, r1, r2⟩ := h2.two
    cases r1.int_inv
    obtain ⟨ps, ks, rfl, q1, q2⟩ := pairs_of s r
    exact ⟨a :: ps, (Sum.inl p.1, v2) :: ks, rfl, .cons (sm_tup s h1) q1, .cons r2 q2⟩
theorem merge_rep {K : PySem.W.Frag} {mg : Str → Option Value} {H : Hp} : ∀ {kvs : List (Int × D)} {ks vs : List (Key × V)} {ds : List (Int × D)}, RepK K mg H ks kvs → RepK K mg H vs ds → RepK K mg H (mergeK vs ks) (kvs.foldl (fun acc p => putI acc p.1 p.2) ds)
  | [], _, _, _, .nil, r => r
  | p :: kvs, _, _, _, .cons h r0, r => by
    have := merge_rep r0 (r.put (k := p.1) h)
    exact this
theorem d_dictP (hm : X.mg "dict" = none) (ha : DE X a ρ (.lst (kvs.map fun p => .tup [.int p.1, p.2]))) (hc : X.calm = true := by rfl) (hg : Gl X "dict" := by rfl) (st : St1 X a := by rfl) : DE X (.Call (.Name "dict" np) [a] [] pos) ρ (.dct (kvs.foldl (fun acc p => putI acc p.1 p.2) [])) :=
  d_callTy (call_dictP hc) hm (by decide +kernel) (a_cons ha a_nil st) (fun Hb H vs s r Q q => by
    obtain ⟨v, rfl, rv⟩ := r.one
    obtain ⟨p, vs, rfl, hv, rs⟩ := rv.lst_inv
    obtain ⟨ps, ks, rfl, q1, q2⟩ := pairs_of s rs
    exact ⟨p, ps, ks, rfl, SqL.of (s _ _ hv), q1, fun l hl => q _ _ _ (Nw.new s hl) (.dct upd_same ((merge_rep q2 .nil).mono (sm_new (sm_none s hl))))⟩) hg (he := st)
end
end K76
set_option maxRecDepth 100000
set_option maxHeartbeats 4000000
namespace K76
open PySem PySem.Spec PyProof.Rows L2
theorem sizeOf_take (s : Int) (gs : List Rg) {j : Nat} {g : Rg} (h : gs[j]? = some g) : sizeOf s (gs.take (j + 1)) = (((g.p ++ g.m).filter (isF s)).map Th.z).sum + sizeOf s (gs.take j) := by
  unfold sizeOf
  rw [allT_take1 gs h, List.filter_append, List.map_append, List.sum_append]
  omega
theorem isHole_take (s : Int) (gs : List Rg) {j : Nat} {g : Rg} (h : gs[j]? = some g) : isHole s (gs.take (j + 1)) = (isHole s (gs.take j) || g.p.any (isF s)) := by
  unfold isHole
  rw [List.take_add_one, h, List.any_append]; simp
section
variable {P : Program} {w : World} {K : PySem.W.Frag} {mg : Str → Option Value} {base : Heap}
theorem sc_L_gone : FnScope ["_law_regions", "_law_serial", "_law_found", "_law_size", "_law_is_hole", "_law_own", "_law_payload", "_law_room", "_law_rows", "_law_things", "_law_last", "_law_thing", "_law_word", "_law_its", "_law_many"] ["_law_regions", "_law_serial"] (defScope (top 105)) := ⟨rfl, rfl, rfl, by decide +kernel, rfl, by decide +kernel, by decide +kernel⟩
def R_Lgone : List D → D → Prop := fun ds d => ∃ (gs : List Rg) (s : Int), ds = [dGs gs, .int s] ∧ GsOk gs ∧ d = .tup [dGs (gs.map (markR s)), .int (sizeOf s gs), .bl (isHole s gs)]
theorem cmp_ws (a : Wd) (s : Int) : CmpOk (.tup [.str a.t, .int s]) := ⟨by simp [plainD, plainDs, lay_wd], by simp [toPy, toPys, PyData.depth, PyData.depthAll]⟩
theorem ok_L_gone (T : Tx mg) (F : FnT K mg 105 "_law_gone") : Kn P w K mg base "_law_gone" 2 R_Lgone := by
  obtain ⟨f, fd, F, g⟩ := F
  refine kn_of F g sc_L_gone (fun ds d h => by obtain ⟨_, _, rfl, _⟩ := h; rfl) (fun _ _ _ _ _ _ us hl => match us, hl with | [_, _], _ => rfl) ?_
  rintro cdv A outer s H E hr ds d ⟨gs, sr, rfl, G, rfl⟩
  have nd := sc_L_gone.nd
  have gl := G.len
  refine ss_cons (s_parN [2, 3, 4] (ls_cons (l_val (d_tup a_nil)) (ls_cons (l_val d_int) (ls_cons (l_val d_bl) ls_nil))) (g_tp (gs_cons (g_nm 2 nd) (gs_cons (g_nm 3 nd) (gs_cons (g_nm 4 nd) gs_nil)))) ?_)
  refine ss_cons (s_for (xs := gs) (enc := dRg) (p := .tp [.nm 5, .nm 6, .nm 7]) (i_tup (d_var 0)) (g_tp (gs_cons (g_nm 5 nd) (gs_cons (g_nm 6 nd) (gs_cons (g_nm 7 nd) gs_nil))))
    (fun j ρ => ∃ (e5 e6 e7 e8 e9 e10 e11 e12 e13 e14 : Option Sl) (fs : List D) (z : Int) (b : Bool), ρ = [some (.val (dGs gs)), some (.val (.int sr)), some (.val (.tup fs)), some (.val (.int z)), some (.val (.bl b)), e5, e6, e7, e8, e9, e10, e11, e12, e13, e14] ∧ fs = ((gs.take j).map (markR sr)).map dRg ∧ z = sizeOf sr (gs.take j) ∧ b = isHole sr (gs.take j)) ⟨_, _, _, _, _, _, _, _, _, _, _, _, _, rfl, rfl, rfl, rfl⟩ ?_ ?_)
  · rintro j g ρ hg ⟨e5, e6, e7, e8, e9, e10, e11, e12, e13, e14, fs, z, b, rfl, hf, hz, hb⟩
    have hgm : g ∈ gs := List.mem_of_getElem? hg
    have sm := G.sm g hgm
    have hil := (List.getElem?_eq_some_iff.mp hg).1
    have hcatl : (g.p.map dTh).length + (g.m.map dTh).length ≤ sizeLine := by
      unfold smR at sm
      rw [List.length_map, List.length_map]; exact ln16 (by omega)
    refine ⟨_, rfl, ?_⟩
    refine ss_cons (s_set 3 nd (d_add (d_sum (xs := (g.p ++ g.m).filter (isF sr)) (f := Th.z) T.sum (DF.de (f_lcIf (p := .tp [.nm 12, .nm 13, .nm 14]) (xs := g.p ++ g.m) (enc := dTh) (t := isF sr) (f := fun t => .int t.z) [("_law_word", 12), ("_law_its", 13), ("_law_many", 14)] nd (i_tup (DE.eq (d_catT (d_var 6) (d_var 7) hcatl) (by rw [List.map_append]))) (blkOk_by (by kernel_rfl)) (fun _ _ _ _ _ => g_tp (gs_cons (g_nm 12 nd) (gs_cons (g_nm 13 nd) (gs_cons (g_nm 14 nd) gs_nil)))) (by decide) (by unfold smR at sm; rw [List.length_append]; omega)
      (fun t ht => ⟨_, rfl, fun _ _ _ _ _ => DT.eq (t_eqD hr (d_tup (a_cons (d_var 12) (a_cons (d_var 13) a_nil))) (d_tup (a_cons d_str (a_cons (d_var 1) a_nil))) (cmp_ws t.w t.s) (cmp_ws .file sr)) (eqD_ws t.w .file t.s sr), fun ht _ _ _ _ _ => (d_var 14)⟩)))) (d_var 3)) ?_)
    refine ss_cons (s_set 4 nd (d_or (q := g.p.any (isF sr)) (d_var 4) fun _ => (d_one (DE.eq (d_inD hr (d_tup (a_cons d_str (a_cons (d_var 1) a_nil))) (DF.de (f_lc (p := .nm 11) (xs := g.p) (enc := dTh) (f := fun t => .tup [.str t.w.t, .int t.s]) [("_law_thing", 11)] nd (i_tup (d_var 6)) (blkOk_by (by kernel_rfl)) (fun _ _ _ _ _ => g_nm 11 nd) (by decide) (Nat.le_trans sm.1 (by decide)) (fun t ht => ⟨_, rfl, fun _ _ _ _ _ => DE.eq (d_sliceT (l := none) (u := some 2) (d_var 11) o_none (o_some d_int)) rfl⟩))) (cmp_ws .file sr) (cmp_lst _ fun t _ => ⟨(cmp_ws t.w t.s).1, by simp [toPy, toPys, PyData.depth, PyData.depthAll]⟩)) ?_))) ?_)
    · rw [List.any_map]
      congr 2
      funext t
      exact eqD_ws t.w .file t.s sr
    refine ss_cons (s_own 8 nd (f_lst a_nil) ?_)
    refine ss_cons (s_for (xs := [(g.p, Wd.hole), (g.m, Wd.gone)]) (enc := fun x => .tup [.tup (x.1.map dTh), .str x.2.t]) (p := .tp [.nm 9, .nm 10]) (i_tup (d_tup (a_cons (d_tup (a_cons (d_var 6) (a_cons d_str a_nil))) (a_cons (d_tup (a_cons (d_var 7) (a_cons d_str a_nil))) a_nil)))) (g_tp (gs_cons (g_nm 9 nd) (gs_cons (g_nm 10 nd) gs_nil)))
      (fun k ρ => ∃ (e9 e10 e11 e12 e13 e14 : Option Sl) (rs : List D), ρ = [some (.val (dGs gs)), some (.val (.int sr)), some (.val (.tup fs)), some (.val (.int ((((g.p ++ g.m).filter (isF sr)).map Th.z).sum + z))), some (.val (.bl (b || g.p.any (isF sr)))), some (.val (.int g.r)), some (.val (.tup (g.p.map dTh))), some (.val (.tup (g.m.map dTh))), some (.ml rs), e9, e10, e11, e12, e13, e14] ∧ rs = ([(g.p, Wd.hole), (g.m, Wd.gone)].take k).map fun x => .tup ((mark x.2 sr x.1).map dTh)) ⟨_, _, _, _, _, _, _, rfl, rfl⟩ ?_ ?_)
    · rintro k ⟨ts, wd⟩ ρ hk ⟨e9, e10, e11, e12, e13, e14, rs, rfl, hrs⟩
      have tl : ts.length ≤ 200 := by
        match k, hk with
        | 0, hk => cases hk; exact sm.1
        | 1, hk => cases hk; exact sm.2
      refine ⟨_, rfl, ?_⟩
      refine ss_cons (s_append 8 (d := .tup ((mark wd sr ts).map dTh)) (DE.eq (d_tupleL T.tuple (DF.de (f_lc (p := .tp [.nm 12, .nm 13, .nm 14]) (xs := ts) (enc := dTh) (f := fun t => dTh (if isF sr t then { t with w := wd } else t)) [("_law_word", 12), ("_law_its", 13), ("_law_many", 14)] nd (i_tup (d_var 9)) (blkOk_by (by kernel_rfl)) (fun _ _ _ _ _ => g_tp (gs_cons (g_nm 12 nd) (gs_cons (g_nm 13 nd) (gs_cons (g_nm 14 nd) gs_nil)))) (by decide) (by omega) (fun t ht => ⟨_, rfl, fun _ _ _ _ _ => ?_⟩)))) ?_) (ss_nil ⟨_, _, _, _, _, _, _, rfl, ?_⟩) ?_)
      · refine DE.eq (x := .tup [.str (if isF sr t then wd else t.w).t, .int t.s, .int t.z]) (d_tup (a_cons (d_if (p := isF sr t) (DT.eq (t_eqD hr (d_tup (a_cons (d_var 12) (a_cons (d_var 13) a_nil))) (d_tup (a_cons d_str (a_cons (d_var 1) a_nil))) (cmp_ws t.w t.s) (cmp_ws .file sr)) (eqD_ws t.w .file t.s sr)) (fun hb => ?_) (fun hb => ?_)) (a_cons (d_var 13) (a_cons (d_var 14) a_nil)))) ?_
        · rw [if_pos hb]; exact (d_var 10)
        · rw [if_neg (by rw [hb]; exact Bool.false_ne_true)]; exact (d_var 12)
        · by_cases hb : isF sr t = true
          · rw [if_pos hb, if_pos hb]
          · rw [if_neg hb, if_neg hb]
      · unfold mark
        rw [List.map_map]; rfl
      · rw [hrs, take_get hk, List.map_append]; rfl
      · rw [hrs, List.length_map, List.length_take]
        exact Nat.lt_of_le_of_lt (Nat.min_le_right _ _) (show 2 < sizeLine by decide)
    · rintro ρ ⟨e9, e10, e11, e12, e13, e14, rs, rfl, hrs⟩
      rw [List.take_length] at hrs
      subst hrs
      refine ss_cons (s_set 2 nd (d_catT (d_var 2) (d_tup (a_cons (d_tup (a_cons (d_var 5) (a_cons (d_ixO 8 d_int rfl) (a_cons (d_ixO 8 d_int rfl) a_nil)))) a_nil)) ?_) (ss_nil ⟨_, _, _, _, _, _, _, _, _, _, _, _, _, rfl, ?_, ?_, ?_⟩))
      · rw [hf]
        simp only [List.length_map, List.length_take, List.length_cons, List.length_nil]
        exact ln16 (by omega)
      · rw [hf, take_get hg, List.map_append, List.map_append]; rfl
      · rw [sizeOf_take sr gs hg, ← hz]
      · rw [isHole_take sr gs hg, ← hb]
  · rintro ρ ⟨e5, e6, e7, e8, e9, e10, e11, e12, e13, e14, fs, z, b, rfl, hf, hz, hb⟩
    rw [List.take_length] at hf hz hb
    subst hf; subst hz; subst hb
    exact ss_cons (s_ret (d_tup (a_cons (d_var 2) (a_cons (d_var 3) (a_cons (d_var 4) a_nil)))) rfl)
theorem sc_L_done : FnScope ["_law_q_here", "_law_puts", "_law_regions", "_law_deed", "_law_laid_here", "_law_found", "_law_size", "_law_is_hole"] ["_law_q_here", "_law_puts", "_law_regions", "_law_deed"] (defScope (top 106)) := ⟨rfl, rfl, rfl, by decide +kernel, rfl, by decide +kernel, by decide +kernel⟩
/-- what the law's machine may be asked -/
structure LdOk (gs : List Rg) (d : Dd) : Prop where
  g : GsOk gs
  len : (allT gs).length < 63
  z : 1 ≤ sizeD gs d ∧ sizeD gs d ≤ 4096
def R_Ldone : List D → D → Prop := fun ds d => ∃ (q n : Int) (gs : List Rg) (dd : Dd), ds = [.int q, .int n, dGs gs, dDd dd] ∧ 2 ≤ q ∧ q ≤ 64 ∧ LdOk gs dd ∧ d = dGs (doneM q n gs dd)
theorem ok_L_done (F : FnT K mg 106 "_law_done") (K1 : Kn P w K mg base "_law_laid" 2 R_Llaid) (K2 : Kn P w K mg base "_law_anew" 2 R_Lanew) (K3 : Kn P w K mg base "_law_begin" 2 R_Lbegin) (K4 : Kn P w K mg base "_law_gone" 2 R_Lgone) : Kn P w K mg base "_law_done" 3 R_Ldone := by
  obtain ⟨f, fd, F, g⟩ := F
  refine kn_of F g sc_L_done (fun ds d h => by obtain ⟨_, _, _, _, rfl, _⟩ := h; rfl) (fun _ _ _ _ _ _ us hl => match us, hl with | [_, _, _, _], _ => rfl) ?_
  rintro cdv A outer s H E hr ds d ⟨q, n, gs, dd, rfl, q1, q2, ⟨G, hl, z1, z2⟩, rfl⟩
  have nd := sc_L_done.nd
  cases dd with
  | put z =>
    refine ss_cons (s_ifT (DT.eq (t_eqS (d_ix (d_var 3) (.tup _)) d_str) (by decide)) ?_)
    refine ss_cons (s_set 4 nd (d_call K1 hr (a_cons (d_var 0) (a_cons (d_var 2) (a_cons (d_tup (a_cons d_str (a_cons (d_var 1) (a_cons (d_ix (d_var 3) (.tup _)) a_nil)))) a_nil))) ⟨q, gs, ⟨.file, n, z⟩, rfl, q1, q2, G, z1, z2, rfl⟩) ?_)
    cases h : lay q ⟨.file, n, z⟩ gs with
    | some gs' =>
      have e : doneM q n gs (.put z) = gs' := by show (lay q ⟨.file, n, z⟩ gs).getD _ = _; rw [h]; rfl
      rw [e]
      exact ss_cons (s_ret (d_ifT (DT.eq (t_notN (d_var 4)) rfl) (d_var 4)) rfl)
    | none =>
      have e : doneM q n gs (.put z) = anew gs (bgn gs z) (some (n, z)) none := by show (lay q ⟨.file, n, z⟩ gs).getD _ = _; rw [h]; rfl
      rw [e]
      exact ss_cons (s_ret (d_ifF (DT.eq (t_notN (d_var 4)) rfl) (d_call K2 hr (a_cons (d_var 2) (a_cons (d_call K3 hr (a_cons (d_var 2) (a_cons (d_ix (d_var 3) (.tup _)) a_nil)) ⟨gs, z, rfl, z1, z2, G, rfl⟩) (a_cons (d_tup (a_cons (d_var 1) (a_cons (d_ix (d_var 3) (.tup _)) a_nil))) (a_cons d_non a_nil)))) ⟨gs, bgn gs z, some (n, z), none, rfl, G, hl, (fun p hp => by cases hp; exact ⟨z1, z2⟩), rfl⟩)) rfl)
  | drop z =>
    refine ss_cons (s_ifF0 (DT.eq (t_eqS (d_ix (d_var 3) (.tup _)) d_str) (by decide)) ?_)
    refine ss_cons (s_asg (p := .tp [.nm 5, .nm 6, .nm 7]) (d_call K4 hr (a_cons (d_var 2) (a_cons (d_ix (d_var 3) (.tup _)) a_nil)) ⟨gs, z, rfl, G, rfl⟩) (g_tp (gs_cons (g_nm 5 nd) (gs_cons (g_nm 6 nd) (gs_cons (g_nm 7 nd) gs_nil)))) rfl ?_)
    cases hh : isHole z gs with
    | false =>
      rw [done_drop_room hh]
      refine ss_cons (s_set 4 nd (d_ifF (t_val (d_var 7)) (d_var 5)) ?_)
      exact ss_cons (s_ret (d_ifT (DT.eq (t_notN (d_var 4)) rfl) (d_var 4)) rfl)
    | true =>
      refine ss_cons (s_set 4 nd (d_ifT (t_val (d_var 7)) (d_call K1 hr (a_cons (d_var 0) (a_cons (d_var 5) (a_cons (d_tup (a_cons d_str (a_cons (d_ix (d_var 3) (.tup _)) (a_cons (d_var 6) a_nil)))) a_nil))) ⟨q, gs.map (markR z), ⟨.shade, z, sizeOf z gs⟩, rfl, q1, q2, G.mark z, z1, z2, rfl⟩)) ?_)
      cases h : lay q ⟨.shade, z, sizeOf z gs⟩ (gs.map (markR z)) with
      | some gs' =>
        have e : doneM q n gs (.drop z) = gs' := by show (if isHole z gs then (lay q ⟨.shade, z, sizeOf z gs⟩ (gs.map (markR z))).getD _ else _) = _; rw [hh, h]; rfl
        rw [e]
        exact ss_cons (s_ret (d_ifT (DT.eq (t_notN (d_var 4)) rfl) (d_var 4)) rfl)
      | none =>
        have e : doneM q n gs (.drop z) = anew gs (bgn gs (sizeOf z gs)) none (some z) := by show (if isHole z gs then (lay q ⟨.shade, z, sizeOf z gs⟩ (gs.map (markR z))).getD _ else _) = _; rw [hh, h]; rfl
        rw [e]
        exact ss_cons (s_ret (d_ifF (DT.eq (t_notN (d_var 4)) rfl) (d_call K2 hr (a_cons (d_var 2) (a_cons (d_call K3 hr (a_cons (d_var 2) (a_cons (d_var 6) a_nil)) ⟨gs, sizeOf z gs, rfl, z1, z2, G, rfl⟩) (a_cons d_non (a_cons (d_ix (d_var 3) (.tup _)) a_nil)))) ⟨gs, bgn gs (sizeOf z gs), none, some z, rfl, G, hl, (fun p hp => nomatch hp), rfl⟩)) rfl)
end
end K76
set_option maxRecDepth 100000
set_option maxHeartbeats 4000000
namespace K76
open PySem PySem.Spec PyProof.Rows L2
theorem news_eq (q : Int) (later : List Rg) : ((spots q 0 later).map fun x => (x.s, D.int x.at_)).foldl (fun acc p => putI acc p.1 p.2) [] = (newsD q later).map fun p => (p.1, D.int p.2) := by
  unfold newsD
  rw [List.foldl_map, places_spots]
  have h := dictI_map D.int (fun x : C3 => x.1) (fun x => x.2.1) ((spots q 0 later).map sp3) []
  rw [← h, List.foldl_map]
  rfl
theorem rep_flat {α : Type} (n : Nat) (x : α) : (List.replicate n [x]).flatten = List.replicate n x := by
  induction n with
  | zero => rfl
  | succ n ih => rw [List.replicate_succ, List.flatten_cons, ih, List.replicate_succ]; rfl
theorem cop_step_len (news : Int → Int) (b : Int) (dr : Option Int) (a : Int × List Int) (x : Sp5) : (copStep news b dr a x).2.length ≤ a.2.length + 4 := by
  unfold copStep
  have h1 := ledN_le x.at_ a.1 x.z
  have h2 := ledN_le a.1 (news x.s) x.z
  split
  · split
    · show (a.2 ++ [x.z, x.z]).length ≤ _
      simp
    · show (a.2 ++ List.replicate (ledN x.at_ a.1 x.z) x.z ++ List.replicate (ledN a.1 (news x.s) x.z) x.z).length ≤ _
      simp only [List.length_append, List.length_replicate]; omega
  · omega
theorem cop_len (news : Int → Int) (b : Int) (dr : Option Int) : ∀ (xs : List Sp5) (a : Int × List Int), (xs.foldl (copStep news b dr) a).2.length ≤ a.2.length + 4 * xs.length
  | [], a => Nat.le_refl _
  | x :: xs, a => by
    have h1 := cop_len news b dr xs (copStep news b dr a x)
    have h2 := cop_step_len news b dr a x
    rw [List.foldl_cons, List.length_cons]
    omega
section
variable {P : Program} {w : World} {K : PySem.W.Frag} {mg : Str → Option Value} {base : Heap}
theorem sc_L_copied : FnScope ["_law_q_here", "_law_regions", "_law_later", "_law_rank_here", "_law_drop", "_law_news", "_law_spot", "_law_under", "_law_found", "_law_serial", "_law_place", "_law_size", "_law_own", "_law_is_room", "_law_region", "_law_cells", "_law_one_here", "_law_other", "_law_word"] ["_law_q_here", "_law_regions", "_law_later", "_law_rank_here", "_law_drop"] (defScope (top 109)) := ⟨rfl, rfl, rfl, by decide +kernel, rfl, by decide +kernel, by decide +kernel⟩
def R_Lcopied : List D → D → Prop := fun ds d => ∃ (q : Int) (gs later : List Rg) (b : Int) (dr : Option Int), ds = [.int q, dGs gs, dGs later, .int b, dO dr] ∧ 2 ≤ q ∧ q ≤ 64 ∧ GsOk gs ∧ GsOk later ∧ (∀ x ∈ spots q 0 gs, some x.s ≠ dr → (valI (newsD q later) x.s).isSome = true) ∧ d = .lst ((copiedM q gs later b dr).map D.int)
theorem ok_L_copied (T : Tx mg) (F : FnT K mg 109 "_law_copied") (K1 : Kn P w K mg base "_law_spots" 1 R_Lspots) : Kn P w K mg base "_law_copied" 2 R_Lcopied := by
  obtain ⟨f, fd, F, g⟩ := F
  refine kn_of F g sc_L_copied (fun ds d h => by obtain ⟨_, _, _, _, _, rfl, _⟩ := h; rfl) (fun _ _ _ _ _ _ us hl => match us, hl with | [_, _, _, _, _], _ => rfl) ?_
  rintro cdv A outer s H E hr ds d ⟨q, gs, later, b, dr, rfl, q1, q2, G, G2, hn, rfl⟩
  have nd := sc_L_copied.nd
  have sl2 := Nat.le_trans (spots_len q later 0) G2.l2
  have sl := Nat.le_trans (spots_len q gs 0) G.l2
  have gl := G.len
  refine ss_cons (s_set 5 nd (d := .dct ((newsD q later).map fun p => (p.1, D.int p.2))) (DE.eq (d_dictP (kvs := (spots q 0 later).map fun x => (x.s, D.int x.at_)) T.dict (DE.eq (DF.de (f_lc (p := .tp [.nm 9, .nm 10, .nm 11, .nm 12, .nm 13]) (xs := spots q 0 later) (enc := dSp) (f := fun x => .tup [.int x.s, .int x.at_]) [("_law_serial", 9), ("_law_place", 10), ("_law_size", 11), ("_law_own", 12), ("_law_is_room", 13)] nd (i_lst (d_call K1 hr (a_cons (d_var 0) (a_cons (d_var 2) a_nil)) ⟨q, later, rfl, q1, q2, G2, rfl⟩)) (blkOk_by (by kernel_rfl)) (fun _ _ _ _ _ => g_tp (gs_cons (g_nm 9 nd) (gs_cons (g_nm 10 nd) (gs_cons (g_nm 11 nd) (gs_cons (g_nm 12 nd) (gs_cons (g_nm 13 nd) gs_nil)))))) (by decide) (by omega) (fun x hx => ⟨_, rfl, fun _ _ _ _ _ => (d_tup (a_cons (d_var 9) (a_cons (d_var 10) a_nil)))⟩))) (by rw [List.map_map]; rfl))) (congrArg D.dct (news_eq q later))) ?_)
  refine ss_cons (s_par2 7 8 nd (ls_cons (l_val (DF.de (f_lcIf (p := .nm 14) (xs := gs) (enc := dRg) (t := fun g => decide (g.r < b)) (f := fun g => .int (cells g.p)) [("_law_region", 14)] nd (i_tup (d_var 1)) (blkOk_by (by kernel_rfl)) (fun _ _ _ _ _ => g_nm 14 nd) (by decide) (by omega) (fun g hg => ⟨_, rfl, fun _ _ _ _ _ => (t_lt (d_ix (d_var 14) (.tup _)) (d_var 3)), fun ht _ _ _ _ _ => (d_sum (xs := g.p) (f := Th.z) T.sum (DF.de (f_lc (p := .tp [.nm 18, .nm 9, .nm 11]) (xs := g.p) (enc := dTh) (f := fun t => .int t.z) [("_law_word", 18), ("_law_serial", 9), ("_law_size", 11)] nd (i_tup (d_ix (d_var 14) (.tup _))) (blkOk_by (by kernel_rfl)) (fun _ _ _ _ _ => g_tp (gs_cons (g_nm 18 nd) (gs_cons (g_nm 9 nd) (gs_cons (g_nm 11 nd) gs_nil)))) (by decide) (Nat.le_trans (G.sm g hg).1 (by decide)) (fun x hx => ⟨_, rfl, fun _ _ _ _ _ => (d_var 11)⟩))))⟩)))) (ls_cons (l_val (DF.de (f_lst a_nil))) ls_nil)) ?_)
  refine ss_cons (s_set 6 nd (d_sum (xs := (gs.filter fun g => decide (g.r < b)).map fun g => cells g.p) (f := fun m => m + m / q) T.sum (DF.de (f_lc (p := .nm 15) (xs := (gs.filter fun g => decide (g.r < b)).map fun g => cells g.p) (enc := D.int) (f := fun m => .int (m + m / q)) [("_law_cells", 15)] nd (i_lst (DE.eq (d_var 7) (by rw [List.map_map]; rfl))) (blkOk_by (by kernel_rfl)) (fun _ _ _ _ _ => g_nm 15 nd) (by decide) (by have := List.length_filter_le (fun g : Rg => decide (g.r < b)) gs; rw [List.length_map]; omega) (fun m hm => ⟨_, rfl, fun _ _ _ _ _ => (d_add (d_var 15) (d_fdiv (d_var 15) (d_var 0) ⟨by omega, by omega⟩))⟩)))) ?_)
  refine ss_cons (s_for (xs := spots q 0 gs) (enc := dSp) (p := .tp [.nm 9, .nm 10, .nm 11, .nm 12, .nm 13]) (i_lst (d_call K1 hr (a_cons (d_var 0) (a_cons (d_var 1) a_nil)) ⟨q, gs, rfl, q1, q2, G, rfl⟩)) (g_tp (gs_cons (g_nm 9 nd) (gs_cons (g_nm 10 nd) (gs_cons (g_nm 11 nd) (gs_cons (g_nm 12 nd) (gs_cons (g_nm 13 nd) gs_nil))))))
    (fun j ρ => ∃ (e7 e9 e10 e11 e12 e13 e16 e17 : Option Sl) (a : Int × List Int) (fd : List D), ρ = [some (.val (.int q)), some (.val (dGs gs)), some (.val (dGs later)), some (.val (.int b)), some (.val (dO dr)), some (.val (.dct ((newsD q later).map fun p => (p.1, D.int p.2)))), some (.val (.int a.1)), e7, some (.val (.lst fd)), e9, e10, e11, e12, e13, none, none, e16, e17, none] ∧ fd = a.2.map D.int ∧ a = ((spots q 0 gs).take j).foldl (copStep (newsM q later) b dr) (under q gs b, [])) ?_ ?_ ?_)
  · exact ⟨_, _, _, _, _, _, _, _, (under q gs b, []), _, rfl, rfl, rfl⟩
  · rintro j x ρ hx ⟨e7, e9, e10, e11, e12, e13, e16, e17, a, fd, rfl, rfl, ha⟩
    have hxm : x ∈ spots q 0 gs := List.mem_of_getElem? hx
    have hstep : ((spots q 0 gs).take (j + 1)).foldl (copStep (newsM q later) b dr) (under q gs b, []) = copStep (newsM q later) b dr a x := by
      rw [List.take_add_one, hx, List.foldl_append, ← ha]; rfl
    have al := cop_len (newsM q later) b dr ((spots q 0 gs).take j) (under q gs b, [])
    rw [← ha, List.length_take] at al
    have al2 : a.2.length ≤ 800 := by
      have : a.2.length ≤ ([] : List Int).length + 4 * min j (spots q 0 gs).length := al
      rw [List.length_nil] at this; omega
    refine ⟨_, rfl, ?_⟩
    by_cases hb : b ≤ x.r ∧ some x.s ≠ dr
    · have hb1 : (decide (b ≤ x.r) && !decide (some x.s = dr)) = true := by simpa using hb
      cases hm : x.m with
      | true =>
        refine ss_cons (s_ifT (DT.eq (q := true) (DW.t (w_and (t_ge (d_var 12) (d_var 3)) fun _ => (w_and (t_neIO (d_var 9) (d_var 4)) fun _ => (w_and1 (t_val (d_var 13)))))) (by rw [Bool.and_true]; exact hb1)) ?_)
        refine ss_cons (s_set 8 nd (DF.de (f_cat (d_var 8) (DF.de (f_lst (a_cons (d_var 11) (a_cons (d_var 11) a_nil)))) ?_)) (ss_nil (ss_nil ⟨_, _, _, _, _, _, _, _, (a.1, a.2 ++ [x.z, x.z]), _, rfl, ?_, ?_⟩)))
        · simp only [List.length_map, List.length_cons, List.length_nil]; exact ln16 (by omega)
        · rw [List.map_append]; rfl
        · rw [hstep]; unfold copStep; rw [if_pos hb, if_pos hm]
      | false =>
        have hns := hn x hxm hb.2
        have hnw : valI ((newsD q later).map fun p => (p.1, D.int p.2)) x.s = some (.int (newsM q later x.s)) := by
          rw [valI_map]
          unfold newsM
          cases e : valI (newsD q later) x.s with
          | none => rw [e] at hns; cases hns
          | some z => rfl
        refine ss_cons (s_ifF (DT.eq (q := false) (DW.t (w_and (t_ge (d_var 12) (d_var 3)) fun _ => (w_and (t_neIO (d_var 9) (d_var 4)) fun _ => (w_and1 (t_val (d_var 13)))))) (by rw [Bool.and_false, Bool.and_false])) ?_)
        refine ss_cons (s_ifT (DT.eq (q := true) (DW.t (w_and (t_ge (d_var 12) (d_var 3)) fun _ => (w_and1 (t_neIO (d_var 9) (d_var 4))))) hb1) ?_)
        refine ss_cons (s_for (xs := [(x.at_, a.1), (a.1, newsM q later x.s)]) (enc := dPr) (p := .tp [.nm 16, .nm 17]) (i_tup (d_tup (a_cons (d_tup (a_cons (d_var 10) (a_cons (d_var 6) a_nil))) (a_cons (d_tup (a_cons (d_var 6) (a_cons (d_dget hr (d_var 5) (d_var 9) hnw) a_nil))) a_nil)))) (g_tp (gs_cons (g_nm 16 nd) (gs_cons (g_nm 17 nd) gs_nil)))
          (fun k ρ => ∃ (e16 e17 : Option Sl) (fs : List Int) (fd : List D), ρ = [some (.val (.int q)), some (.val (dGs gs)), some (.val (dGs later)), some (.val (.int b)), some (.val (dO dr)), some (.val (.dct ((newsD q later).map fun p => (p.1, D.int p.2)))), some (.val (.int a.1)), e7, some (.val (.lst fd)), some (.val (.int x.s)), some (.val (.int x.at_)), some (.val (.int x.z)), some (.val (.int x.r)), some (.val (.bl false)), none, none, e16, e17, none] ∧ fd = fs.map D.int ∧ fs = a.2 ++ ([(x.at_, a.1), (a.1, newsM q later x.s)].take k).flatMap fun p => List.replicate (ledN p.1 p.2 x.z) x.z) ⟨_, _, _, _, rfl, rfl, (List.append_nil _).symm⟩ ?_ ?_)
        · rintro k ⟨o1, o2⟩ ρ hk ⟨e16, e17, fs, fd, rfl, rfl, hfs⟩
          have hk2 : k ≤ 1 := by
            have := (List.getElem?_eq_some_iff.mp hk).1
            simp only [List.length_cons, List.length_nil] at this
            omega
          have fl : fs.length ≤ 804 := by
            have hfl := flat_len (fun p : Int × Int => List.replicate (ledN p.1 p.2 x.z) x.z) 2 ([(x.at_, a.1), (a.1, newsM q later x.s)].take k) (fun p _ => by rw [List.length_replicate]; exact ledN_le _ _ _)
            rw [List.length_take] at hfl
            rw [hfs, List.length_append]
            simp only [List.length_cons, List.length_nil] at hfl
            omega
          have hle := ledN_le o1 o2 x.z
          refine ⟨_, rfl, ?_⟩
          refine ss_cons (s_set 8 nd (DF.de (f_cat (d_var 8) (DF.de (f_rep (i := (ledN o1 o2 x.z : Nat)) (DF.de (f_lst (a_cons (d_var 11) a_nil))) ?_ (by omega) (by omega) ?_)) ?_)) (ss_nil ⟨_, _, fs ++ List.replicate (ledN o1 o2 x.z) x.z, _, rfl, ?_, ?_⟩))
          · unfold ledN
            refine d_if (p := decide (o1 = o2)) (t_eqI (d_var 16) (d_var 17)) (fun h => ?_) (fun h => ?_)
            · rw [if_pos (of_decide_eq_true h)]; exact d_int
            · rw [if_neg (of_decide_eq_false h)]
              refine d_if (t_lt (d_abs T.abs (d_sub (d_var 16) (d_var 17))) (d_var 11)) (fun h2 => ?_) (fun h2 => ?_)
              · rw [if_pos (of_decide_eq_true h2)]; exact d_int
              · rw [if_neg (of_decide_eq_false h2)]; exact d_int
          · rw [Int.toNat_natCast]
            simp only [List.length_cons, List.length_nil]
            exact ln16 (by omega)
          · rw [Int.toNat_natCast, rep_flat, List.length_map, List.length_replicate]
            exact ln16 (by omega)
          · rw [Int.toNat_natCast, rep_flat, List.map_append, List.map_replicate]
          · rw [hfs, take_get hk, List.flatMap_append, ← List.append_assoc]
            simp
        · rintro ρ ⟨e16, e17, fs, fd, rfl, rfl, hfs⟩
          rw [List.take_length] at hfs
          refine ss_cons (s_set 6 nd (d_add (d_var 6) (d_var 11)) (ss_nil (ss_nil (ss_nil ⟨_, _, _, _, _, _, _, _, (a.1 + x.z, fs), _, rfl, rfl, ?_⟩))))
          rw [hstep]
          unfold copStep
          rw [if_pos hb, hm, hfs]
          simp
    · have hb1 : (decide (b ≤ x.r) && !decide (some x.s = dr)) = false := by
        cases e : (decide (b ≤ x.r) && !decide (some x.s = dr)) with
        | false => rfl
        | true => exact absurd (by simpa using e) hb
      refine ss_cons (s_ifF (DT.eq (q := false) (DW.t (w_and (t_ge (d_var 12) (d_var 3)) fun _ => (w_and (t_neIO (d_var 9) (d_var 4)) fun _ => (w_and1 (t_val (d_var 13)))))) (by rw [← Bool.and_assoc, hb1, Bool.false_and])) ?_)
      refine ss_cons (s_ifF0 (DT.eq (q := false) (DW.t (w_and (t_ge (d_var 12) (d_var 3)) fun _ => (w_and1 (t_neIO (d_var 9) (d_var 4))))) hb1) ?_)
      refine ss_nil (ss_nil ⟨_, _, _, _, _, _, _, _, a, _, rfl, rfl, ?_⟩)
      rw [hstep]; unfold copStep; rw [if_neg hb]
  · rintro ρ ⟨e7, e9, e10, e11, e12, e13, e16, e17, a, fd, rfl, rfl, ha⟩
    rw [List.take_length] at ha
    subst ha
    exact ss_cons (s_ret (d_var 8) rfl)
end
end K76
set_option maxRecDepth 100000
set_option maxHeartbeats 4000000
namespace K76
open PySem PySem.Spec PyProof.Rows L2
theorem lay_spot {q : Int} {t : Th} {gs : List Rg} : (lay q t gs).isNone = (spot q t.z gs).isNone := by
  unfold lay; rw [Option.isNone_map]
theorem isNon_dGo (o : Option (List Rg)) : isNon (dGo o) = o.isNone := by cases o <;> rfl
theorem news_all {q n : Int} {gs later : List Rg} {d : Dd} (L : Lawful q n gs) (hl : (pairsW .file (allT later)).Perm (newFiles n (pairsW .file (allT gs)) d)) : ∀ x ∈ spots q 0 gs, some x.s ≠ dropO d → (valI (newsD q later) x.s).isSome = true := fun x hx hd => by
  refine news_some ((hl.map (·.1)).mem_iff.mpr (newFiles_sel ?_ hd))
  rw [← spots_pairs q gs 0, List.map_map]
  exact List.mem_map.mpr ⟨x, hx, rfl⟩
theorem copied_len {q n : Int} {gs later : List Rg} {b : Int} {dr : Option Int} (L : Lawful q n gs) : (copiedM q gs later b dr).length ≤ 800 := by
  have h := cop_len (newsM q later) b dr (spots q 0 gs) (under q gs b, [])
  have h2 := Nat.le_trans (spots_len q gs 0) L.len2
  have h3 : (copiedM q gs later b dr).length ≤ ([] : List Int).length + 4 * (spots q 0 gs).length := h
  rw [List.length_nil] at h3
  omega
def more1 : Dd → List Int
  | .put z => [z]
  | .drop _ => []
def more2 : Dd → List Int
  | .put z => [z, z]
  | .drop _ => []
theorem wr_tidy2 {q n : Int} {gs : List Rg} {d : Dd} (h : tidies q gs d = true) : wrM q n gs d = more2 d ++ copiedM q gs (doneM q n gs d) (bgn gs (sizeD gs d)) (dropO d) := by
  rw [wr_tidy h]; cases d <;> rfl
theorem wr_plain2 {q n : Int} {gs : List Rg} {d : Dd} (h : tidies q gs d = false) : wrM q n gs d = more1 d := by
  rw [wr_plain h]; cases d <;> rfl
theorem more1_len (d : Dd) : (more1 d).length ≤ 1 := by cases d <;> exact Nat.le_of_ble_eq_true rfl
theorem more2_len (d : Dd) : (more2 d).length ≤ 2 := by cases d <;> exact Nat.le_of_ble_eq_true rfl
theorem wr_len {q n : Int} {gs : List Rg} {d : Dd} (L : Lawful q n gs) : (wrM q n gs d).length ≤ 802 := by
  cases h : tidies q gs d with
  | true =>
    rw [wr_tidy2 h, List.length_append]
    have := copied_len (later := doneM q n gs d) (b := bgn gs (sizeD gs d)) (dr := dropO d) L
    have := more2_len d
    omega
  | false =>
    rw [wr_plain2 h]
    have := more1_len d
    omega
section
variable {P : Program} {w : World} {K : PySem.W.Frag} {mg : Str → Option Value} {base : Heap}
theorem sc_L_written : FnScope ["_law_q_here", "_law_puts", "_law_regions", "_law_deed", "_law_later", "_law_size", "_law_is_tidying", "_law_drop", "_law_more", "_law_marked", "_law_is_hole"] ["_law_q_here", "_law_puts", "_law_regions", "_law_deed"] (defScope (top 110)) := ⟨rfl, rfl, rfl, by decide +kernel, rfl, by decide +kernel, by decide +kernel⟩
def R_Lwritten : List D → D → Prop := fun ds d => ∃ (q n : Int) (gs : List Rg) (dd : Dd), ds = [.int q, .int n, dGs gs, dDd dd] ∧ 2 ≤ q ∧ q ≤ 64 ∧ StOk q n gs dd ∧ d = .tup [.lst ((wrM q n gs dd).map D.int), dGs (doneM q n gs dd)]
theorem ok_L_written (F : FnT K mg 110 "_law_written") (K1 : Kn P w K mg base "_law_done" 3 R_Ldone) (K2 : Kn P w K mg base "_law_laid" 2 R_Llaid) (K3 : Kn P w K mg base "_law_gone" 2 R_Lgone) (K4 : Kn P w K mg base "_law_begin" 2 R_Lbegin) (K5 : Kn P w K mg base "_law_copied" 2 R_Lcopied) : Kn P w K mg base "_law_written" 4 R_Lwritten := by
  obtain ⟨f, fd, F, g⟩ := F
  refine kn_of F g sc_L_written (fun ds d h => by obtain ⟨_, _, _, _, rfl, _⟩ := h; rfl) (fun _ _ _ _ _ _ us hl => match us, hl with | [_, _, _, _], _ => rfl) ?_
  rintro cdv A outer s H E hr ds d ⟨q, n, gs, dd, rfl, q1, q2, S, rfl⟩
  have nd := sc_L_written.nd
  have L := S.L
  have G := L.gs
  obtain ⟨z1, z2⟩ := size_ok L S.D
  obtain ⟨L', l', hfs⟩ := done_ok L (by omega) S.n0 (by have := S.len; omega) S.D
  refine ss_cons (s_set 4 nd (d_call K1 hr (a_cons (d_var 0) (a_cons (d_var 1) (a_cons (d_var 2) (a_cons (d_var 3) a_nil)))) ⟨q, n, gs, dd, rfl, q1, q2, ⟨G, S.len, z1, z2⟩, rfl⟩) ?_)
  suffices hrest : ∀ (ms : List Int) (e9 e10 : Option Sl), ms = more1 dd → DSs (Cxf P w K mg base ["_law_q_here", "_law_puts", "_law_regions", "_law_deed", "_law_later", "_law_size", "_law_is_tidying", "_law_drop", "_law_more", "_law_marked", "_law_is_hole"] "_law_written" (defScope (top 110)) f cdv A outer s H E) ((defBody (top 110)).drop 2)
      [some (.val (.int q)), some (.val (.int n)), some (.val (dGs gs)), some (.val (dDd dd)), some (.val (dGs (doneM q n gs dd))), some (.val (.int (sizeD gs dd))), some (.val (.bl (tidies q gs dd))), some (.val (dO (dropO dd))), some (.val (.lst (ms.map D.int))), e9, e10] (retK (.tup [.lst ((wrM q n gs dd).map D.int), dGs (doneM q n gs dd)])) by
    cases dd with
    | put z =>
      refine ss_cons (s_ifT (DT.eq (t_eqS (d_ix (d_var 3) (.tup _)) d_str) (by decide)) ?_)
      refine ss_cons (s_parN [5, 6, 7, 8] (ls_cons (l_val (d_ix (d_var 3) (.tup _))) (ls_cons (l_val (d := .bl (tidies q gs (.put z))) (DE.eq (d_isN (d_call K2 hr (a_cons (d_var 0) (a_cons (d_var 2) (a_cons (d_tup (a_cons d_str (a_cons (d_var 1) (a_cons (d_ix (d_var 3) (.tup _)) a_nil)))) a_nil))) ⟨q, gs, ⟨.file, n, z⟩, rfl, q1, q2, G, z1, z2, rfl⟩)) (by rw [isNon_dGo, lay_spot]; rfl))) (ls_cons (l_val d_non) (ls_cons (l_val (DF.de (f_lst (a_cons (d_ix (d_var 3) (.tup _)) a_nil)))) ls_nil)))) (g_tp (gs_cons (g_nm 5 nd) (gs_cons (g_nm 6 nd) (gs_cons (g_nm 7 nd) (gs_cons (g_nm 8 nd) gs_nil))))) ?_)
      exact ss_nil (hrest [z] _ _ rfl)
    | drop z =>
      refine ss_cons (s_ifF (DT.eq (t_eqS (d_ix (d_var 3) (.tup _)) d_str) (by decide)) ?_)
      refine ss_cons (s_asg (p := .tp [.nm 9, .nm 5, .nm 10]) (d_call K3 hr (a_cons (d_var 2) (a_cons (d_ix (d_var 3) (.tup _)) a_nil)) ⟨gs, z, rfl, G, rfl⟩) (g_tp (gs_cons (g_nm 9 nd) (gs_cons (g_nm 5 nd) (gs_cons (g_nm 10 nd) gs_nil)))) rfl ?_)
      refine ss_cons (s_par3 6 7 8 nd (ls_cons (l_val (d := .bl (tidies q gs (.drop z))) (DE.eq (d_and (d_var 10) fun _ => (d_one (d_isN (d_call K2 hr (a_cons (d_var 0) (a_cons (d_var 9) (a_cons (d_tup (a_cons d_str (a_cons (d_ix (d_var 3) (.tup _)) (a_cons (d_var 5) a_nil)))) a_nil))) ⟨q, gs.map (markR z), ⟨.shade, z, sizeOf z gs⟩, rfl, q1, q2, G.mark z, z1, z2, rfl⟩)))) (by rw [isNon_dGo, lay_spot, spot_mark]; rfl))) (ls_cons (l_val (d_ix (d_var 3) (.tup _))) (ls_cons (l_val (DF.de (f_lst a_nil))) ls_nil))) ?_)
      exact ss_nil (hrest [] _ _ rfl)
  intro ms e9 e10 hms
  refine ss_cons (s_if (b := !tidies q gs dd) (t_not (t_val (d_var 6))) (fun hb => ?_) (fun hb => ?_))
  · have ht : tidies q gs dd = false := by simpa using hb
    have e : wrM q n gs dd = ms := by rw [wr_plain2 ht, hms]
    rw [e]
    exact ss_cons (s_ret (d_tup (a_cons (d_var 8) (a_cons (d_var 4) a_nil))) rfl)
  · have ht : tidies q gs dd = true := by simpa using hb
    have ml : ms.length ≤ 1 := by rw [hms]; exact more1_len dd
    have cl := copied_len (later := doneM q n gs dd) (b := bgn gs (sizeD gs dd)) (dr := dropO dd) L
    refine ss_nil (ss_cons (s_ret (d_tup (a_cons (DE.eq (DF.de (f_cat (DF.de (f_rep (i := 2) (d_var 8) d_int (by decide) (by decide) ?_)) (d_call K5 hr (a_cons (d_var 0) (a_cons (d_var 2) (a_cons (d_var 4) (a_cons (d_call K4 hr (a_cons (d_var 2) (a_cons (d_var 5) a_nil)) ⟨gs, sizeD gs dd, rfl, z1, z2, G, rfl⟩) (a_cons (d_var 7) a_nil))))) ⟨q, gs, doneM q n gs dd, bgn gs (sizeD gs dd), dropO dd, rfl, q1, q2, G, L'.gs, news_all L hfs, rfl⟩) ?_)) ?_) (a_cons (d_var 4) a_nil))) rfl))
    · rw [List.length_map]; exact ln16 (by show ms.length * 2 ≤ 1000; omega)
    · show (List.replicate 2 (ms.map D.int)).flatten.length + _ ≤ _
      simp only [List.length_flatten, List.map_replicate, List.sum_replicate_nat, List.length_map]
      exact ln16 (by omega)
    · rw [wr_tidy2 ht, List.map_append]
      congr 2
      rw [hms]
      cases dd <;> rfl
theorem sc_L_costs : FnScope ["_law_table", "_law_q_here", "_law_deeds_here", "_law_deed", "_law_puts", "_law_regions", "_law_sizes", "_law_found", "_law_mine", "_law_more", "_law_size"] ["_law_table", "_law_q_here", "_law_deeds_here"] (defScope (top 111)) := ⟨rfl, rfl, rfl, by decide +kernel, rfl, by decide +kernel, by decide +kernel⟩
end
def szStep (a : Int × List (Int × D)) : Dd → Int × List (Int × D)
  | .put z => (a.1 + 1, putI a.2 a.1 (.int z))
  | .drop _ => a
theorem sz_get : ∀ (ds : List Dd) (k : Nat) (kvs : List (Int × D)), (∀ s : Int, (k : Int) ≤ s → valI kvs s = none) → (ds.foldl szStep (k, kvs)).1 = ((k + (putsM ds).length : Nat) : Int) ∧ ∀ s : Int, 0 ≤ s → valI (ds.foldl szStep (k, kvs)).2 s = if s < k then valI kvs s else ((putsM ds)[(s - k).toNat]?).map D.int
  | [], k, kvs, h => ⟨rfl, fun s hs => by
      split
      · rfl
      · show valI kvs s = _
        rw [h s (by omega)]; rfl⟩
  | .put z :: ds, k, kvs, h => by
    have ih := sz_get ds (k + 1) (putI kvs k (.int z)) (fun s hs => by rw [valI_put, if_neg (by omega), h s (by omega)])
    have e : (Dd.put z :: ds).foldl szStep (k, kvs) = ds.foldl szStep (((k + 1 : Nat) : Int), putI kvs k (.int z)) := by
      rw [List.foldl_cons]; rfl
    have ep : putsM (.put z :: ds) = z :: putsM ds := rfl
    rw [e, ep]
    refine ⟨by rw [ih.1, List.length_cons]; omega, fun s hs => ?_⟩
    rw [ih.2 s hs, valI_put]
    by_cases h1 : s < k
    · rw [if_pos (by omega), if_neg (by omega), if_pos h1]
    · rw [if_neg h1]
      by_cases h2 : s = k
      · rw [if_pos (by omega), if_pos h2.symm, h2]; simp
      · rw [if_neg (by omega)]
        have : (s - (k : Int)).toNat = (s - ((k + 1 : Nat) : Int)).toNat + 1 := by omega
        rw [this, List.getElem?_cons_succ]
  | .drop s :: ds, k, kvs, h => sz_get ds k kvs h
theorem putsM_take (ds : List Dd) (i : Nat) {j : Nat} (h : j < (putsM (ds.take i)).length) : (putsM ds)[j]? = (putsM (ds.take i))[j]? := by
  have e : putsM ds = putsM (ds.take i) ++ putsM (ds.drop i) := by
    unfold putsM
    rw [← List.filterMap_append, List.take_append_drop]
  rw [e, List.getElem?_append_left h]
theorem wr_course (q : Int) : ∀ (ds : List Dd) (n : Int) (gs : List Rg), wrAll q n gs ds = (course q n gs ds).flatMap fun y => wrM q y.1 y.2.1 y.2.2
  | [], _, _ => rfl
  | d :: ds, n, gs => by rw [wrAll, course, List.flatMap_cons, wr_course q ds]
section
variable {P : Program} {w : World} {K : PySem.W.Frag} {mg : Str → Option Value} {base : Heap}
def R_Lcosts : List D → D → Prop := fun ds d => ∃ (t : List Int) (q : Int) (dds : List Dd), ds = [.lst (t.map D.int), .int q, .lst (dds.map dDd)] ∧ CostOk t q dds ∧ (∀ i s, dds[i]? = some (.drop s) → 0 ≤ s ∧ s.toNat < (putsM (dds.take i)).length) ∧ (∀ z ∈ wrAll q 0 [] dds, 1 ≤ z ∧ z ≤ t.length) ∧
  d = .tup [.int (sumf (tabF t) (wrAll q 0 [] dds)), .int (mineM t dds)]
theorem ok_L_costs (T : Tx mg) (F : FnT K mg 111 "_law_costs") (K1 : Kn P w K mg base "_law_written" 4 R_Lwritten) : Kn P w K mg base "_law_costs" 5 R_Lcosts := by
  obtain ⟨f, fd, F, g⟩ := F
  refine kn_of F g sc_L_costs (fun ds d h => by obtain ⟨_, _, _, rfl, _⟩ := h; rfl) (fun _ _ _ _ _ _ us hl => match us, hl with | [_, _, _], _ => rfl) ?_
  rintro cdv A outer s H E hr ds d ⟨t, q, dds, rfl, C, hdr, hw, rfl⟩
  have nd := sc_L_costs.nd
  have len := C.c.len
  refine ss_cons (s_parN [4, 5, 6, 7, 8] (ls_cons (l_val d_int) (ls_cons (l_val (d_tup a_nil)) (ls_cons l_dct (ls_cons (l_own (f_lst a_nil)) (ls_cons (l_own (f_lst a_nil)) ls_nil))))) (g_tp (gs_cons (g_nm 4 nd) (gs_cons (g_nm 5 nd) (gs_cons (g_nm 6 nd) (gs_cons (g_nm 7 nd) (gs_cons (g_nm 8 nd) gs_nil)))))) ?_)
  refine ss_cons (s_for (xs := dds) (enc := dDd) (p := .nm 3) (i_lst (d_var 2)) (g_nm 3 nd)
    (fun i ρ => ∃ (e3 e9 : Option Sl) (a : Int × List Rg) (b : Int × List (Int × D)) (kvs : List (Int × D)) (fs ms : List D), ρ = [some (.val (.lst (t.map D.int))), some (.val (.int q)), some (.val (.lst (dds.map dDd))), e3, some (.val (.int a.1)), some (.val (dGs a.2)), some (.md kvs), some (.ml fs), some (.ml ms), e9, none] ∧ a = (dds.take i).foldl (stepS q) (0, []) ∧ b = (dds.take i).foldl szStep (0, []) ∧ b.1 = a.1 ∧ kvs = b.2 ∧
      fs = (((course q 0 [] dds).take i).flatMap fun y => wrM q y.1 y.2.1 y.2.2).map D.int ∧ ms = (dds.take i).map fun d => D.int (sizeI dds d)) ?_ ?_ ?_)
  · exact ⟨_, _, (0, []), (0, []), _, _, _, rfl, rfl, rfl, rfl, rfl, rfl, rfl⟩
  · rintro i x ρ hx ⟨e3, e9, a, b, kvs, fs, ms, rfl, ha, hb, hab, rfl, hf, hm⟩
    have hc := course_get q dds 0 [] i x hx
    rw [← ha] at hc
    have hS := C.c.st _ (List.mem_of_getElem? hc)
    have hil := (List.getElem?_eq_some_iff.mp hx).1
    have wl := wr_len (d := x) hS.L
    have fl : fs.length ≤ 62 * 802 := by
      rw [hf, List.length_map]
      refine Nat.le_trans (flat_len _ 802 _ fun y hy => wr_len (C.c.st y (List.mem_of_mem_take hy)).L) ?_
      rw [List.length_take]
      exact Nat.mul_le_mul_right _ (by omega)
    have mll : ms.length ≤ 100 := by rw [hm, List.length_map, List.length_take]; omega
    have kl : b.2.length ≤ 100 := by
      have gen : ∀ (ds : List Dd) (a : Int × List (Int × D)), (ds.foldl szStep a).2.length ≤ a.2.length + ds.length := by
        intro ds
        induction ds with
        | nil => intro a; exact Nat.le_refl _
        | cons d ds ih =>
          intro a
          have h1 := ih (szStep a d)
          have h2 : (szStep a d).2.length ≤ a.2.length + 1 := by
            cases d with
            | put z => exact putI_len a.2 a.1 _
            | drop s => exact Nat.le_succ _
          rw [List.foldl_cons, List.length_cons]; omega
      have := gen (dds.take i) (0, [])
      rw [← hb, List.length_take] at this
      have this : b.2.length ≤ ([] : List (Int × D)).length + min i dds.length := this
      rw [List.length_nil] at this
      omega
    have sa : (dds.take (i + 1)).foldl (stepS q) (0, []) = stepS q a x := by rw [List.take_add_one, hx, List.foldl_append, ← ha]; rfl
    have sb : (dds.take (i + 1)).foldl szStep (0, []) = szStep b x := by rw [List.take_add_one, hx, List.foldl_append, ← hb]; rfl
    have sf : ((course q 0 [] dds).take (i + 1)).flatMap (fun y => wrM q y.1 y.2.1 y.2.2) = ((course q 0 [] dds).take i).flatMap (fun y => wrM q y.1 y.2.1 y.2.2) ++ wrM q a.1 a.2 x := by
      rw [List.take_add_one, hc, List.flatMap_append]; simp
    have sm : (dds.take (i + 1)).map (fun d => D.int (sizeI dds d)) = (dds.take i).map (fun d => D.int (sizeI dds d)) ++ [D.int (sizeI dds x)] := by rw [List.take_add_one, hx, List.map_append]; rfl
    refine ⟨_, rfl, ?_⟩
    refine ss_cons (s_asg (p := .tp [.nm 9, .nm 5]) (d_call K1 hr (a_cons (d_var 1) (a_cons (d_var 4) (a_cons (d_var 5) (a_cons (d_var 3) a_nil)))) ⟨q, a.1, a.2, x, rfl, C.c.q1, C.c.q2, hS, rfl⟩) (g_tp (gs_cons (g_nm 9 nd) (gs_cons (g_nm 5 nd) gs_nil))) rfl ?_)
    refine ss_cons (s_extend 7 (d_var 9) ?_ ?_)
    · cases x with
      | put z =>
        refine ss_cons (s_ifT (DT.eq (t_eqS (d_ix (d_var 3) (.tup _)) d_str) (by decide)) ?_)
        refine ss_cons (s_dputO 6 hr (d_ix (d_var 3) (.tup _)) (d_var 4) ?_ (Nat.lt_of_le_of_lt kl (by decide)))
        refine ss_cons (s_set 4 nd (d_add (d_var 4) d_int) (ss_nil ?_))
        refine ss_cons (s_append 8 (d_ifT (DT.eq (t_eqS (d_ix (d_var 3) (.tup _)) d_str) (by decide)) (d_ix (d_var 3) (.tup _))) (ss_nil ⟨_, _, stepS q a (.put z), szStep b (.put z), _, _, _, rfl, sa.symm, sb.symm, by show b.1 + 1 = a.1 + 1; rw [hab], by show _ = putI b.2 b.1 _; rw [hab], ?_, ?_⟩) (Nat.lt_of_le_of_lt mll (by decide)))
        · rw [sf, List.map_append, hf]
        · rw [sm, hm]; rfl
      | drop sr =>
        obtain ⟨h1, h2⟩ := hdr i sr hx
        have hv : valI b.2 sr = some (.int (szOf dds sr)) := by
          have := (sz_get (dds.take i) 0 [] fun s _ => rfl).2 sr h1
          rw [if_neg (by omega)] at this
          have e0 : (sr - ((0 : Nat) : Int)).toNat = sr.toNat := by omega
          rw [e0] at this
          rw [hb]
          show valI ((dds.take i).foldl szStep (((0 : Nat) : Int), [])).2 sr = _
          rw [this]
          unfold szOf
          rw [putsM_take dds i h2, List.getElem?_eq_getElem h2]; rfl
        refine ss_cons (s_ifF0 (DT.eq (t_eqS (d_ix (d_var 3) (.tup _)) d_str) (by decide)) ?_)
        refine ss_cons (s_append 8 (d_ifF (DT.eq (t_eqS (d_ix (d_var 3) (.tup _)) d_str) (by decide)) (d_dgetO 6 hr (d_ix (d_var 3) (.tup _)) hv)) (ss_nil ⟨_, _, stepS q a (.drop sr), szStep b (.drop sr), _, _, _, rfl, sa.symm, sb.symm, hab, rfl, ?_, ?_⟩) (Nat.lt_of_le_of_lt mll (by decide)))
        · rw [sf, List.map_append, hf]
        · rw [sm, hm]; rfl
    · rw [List.length_map]
      exact Nat.le_trans (Nat.add_le_add fl wl) (by decide)
  · rintro ρ ⟨e3, e9, a, b, kvs, fs, ms, rfl, ha, hb, hab, rfl, hf, hm⟩
    rw [← course_len q dds 0 [], List.take_length, ← wr_course] at hf
    rw [List.take_length] at hm
    have fl : (wrAll q 0 [] dds).length ≤ 62 * 802 := by
      rw [wr_course]
      refine Nat.le_trans (flat_len _ 802 _ fun y hy => wr_len (C.c.st y hy).L) ?_
      rw [course_len]
      exact Nat.mul_le_mul_right _ len
    subst hf; subst hm
    refine ss_frz 7 (ss_frz 8 (ss_cons (s_ret (d_tup (a_cons (DE.eq (d_sum (xs := wrAll q 0 [] dds) (f := tabF t) T.sum (DF.de (f_lc (p := .nm 10) (xs := wrAll q 0 [] dds) (enc := D.int) (f := fun z => .int (tabF t z)) [("_law_size", 10)] nd (i_lst (d_var 7)) (blkOk_by (by kernel_rfl)) (fun _ _ _ _ _ => g_nm 10 nd) (by decide) (Nat.le_trans fl (by decide)) (fun z hz => ⟨_, rfl, fun _ _ _ _ _ => (d_ixA (d_var 0) (.lst _) (d_sub (d_var 10) d_int) (at_tab rfl (hw z hz).1 (hw z hz).2))⟩)))) rfl)
      (a_cons (DE.eq (d_sum (xs := dds) (f := fun d => tabF t (sizeI dds d)) T.sum (DF.de (DF.eq (f_lc (p := .nm 10) (xs := dds.map (sizeI dds)) (enc := D.int) (f := fun z => .int (tabF t z)) [("_law_size", 10)] nd (i_lst (DE.eq (d_var 8) (by rw [List.map_map]))) (blkOk_by (by kernel_rfl)) (fun _ _ _ _ _ => g_nm 10 nd) (by decide) (by rw [List.length_map]; omega) (fun z hz => ⟨_, rfl, fun _ _ _ _ _ => (d_ixA (d_var 0) (.lst _) (d_sub (d_var 10) d_int) ?_)⟩)) ?_))) rfl) a_nil))) rfl)))
    · obtain ⟨d, hd, rfl⟩ := List.mem_map.mp hz
      have : 1 ≤ sizeI dds d ∧ sizeI dds d ≤ t.length := by
        cases d with
        | put z => exact C.z z (put_mem hd)
        | drop s => exact C.z _ (szOf_mem (C.d s hd).2)
      exact at_tab rfl this.1 this.2
    · rw [List.map_map]; rfl
end
end K76
set_option maxRecDepth 100000
namespace K76
open PySem
/-! ### a whole history -/
def stAt (q : Int) (dds : List Dd) (i : Nat) : Int × List Rg := (dds.take i).foldl (stepS q) (0, [])
theorem stAt_succ {q : Int} {dds : List Dd} {i : Nat} {d : Dd} (h : dds[i]? = some d) : stAt q dds (i + 1) = stepS q (stAt q dds i) d := by
  unfold stAt
  rw [List.take_add_one, h, List.foldl_append]; rfl
/-- each deed may be done when it comes; sizes to N -/
def Run2 (q N : Int) (dds : List Dd) : Prop := ∀ i d, dds[i]? = some d → DeedOk (stAt q dds i).2 d ∧ ∀ z, d = .put z → z ≤ N
/-- what holds ahead of deed i -/
structure InvA (q N : Int) (dds : List Dd) (i : Nat) : Prop where
  L : Lawful q (stAt q dds i).1 (stAt q dds i).2
  n : (stAt q dds i).1 = ((putsM (dds.take i)).length : Int)
  len : (allT (stAt q dds i).2).length ≤ i
  f : ∀ p ∈ pairsW .file (allT (stAt q dds i).2), 0 ≤ p.1 ∧ (putsM (dds.take i))[p.1.toNat]? = some p.2
  z : ∀ t ∈ allT (stAt q dds i).2, 1 ≤ t.z ∧ t.z ≤ N
  h : ∀ p ∈ pairsW .file (allT (stAt q dds i).2), (valI ((dds.take i).foldl hStep (0, [])).2 p.1).isSome = true
  hn : ((dds.take i).foldl hStep (0, [])).1 = (stAt q dds i).1
theorem putsM_succ {dds : List Dd} {i : Nat} {d : Dd} (h : dds[i]? = some d) : putsM (dds.take (i + 1)) = putsM (dds.take i) ++ more1 d := by
  unfold putsM
  rw [List.take_add_one, h, List.filterMap_append]
  cases d <;> rfl
theorem valI_drop {α : Type} {kvs : List (Int × α)} {k j : Int} (h : j ≠ k) : valI (dropI kvs k) j = valI kvs j := by
  unfold valI dropI
  induction kvs with
  | nil => rfl
  | cons x xs ih =>
    rw [List.filter_cons]
    by_cases e : x.1 = k
    · rw [if_neg (by simp [e]), ih, List.find?_cons]
      have : ¬ x.1 = j := fun z => h (z.symm.trans e)
      simp [this]
    · rw [if_pos (by simp [e]), List.find?_cons, List.find?_cons]
      by_cases e2 : x.1 = j
      · simp [e2]
      · simp only [e2, decide_false]; exact ih
theorem hist_succ {dds : List Dd} {i : Nat} {d : Dd} (h : dds[i]? = some d) : (dds.take (i + 1)).foldl hStep (0, []) = hStep ((dds.take i).foldl hStep (0, [])) d := by
  rw [List.take_add_one, h, List.foldl_append]; rfl
theorem size_le {q N : Int} {dds : List Dd} {i : Nat} {d : Dd} (I : InvA q N dds i) (D : DeedOk (stAt q dds i).2 d) (hz : ∀ z, d = .put z → z ≤ N) : sizeD (stAt q dds i).2 d ≤ N := by
  cases d with
  | put z => exact hz z rfl
  | drop s =>
    obtain ⟨t, ht, hs⟩ := file_at D
    show sizeOf s _ ≤ N
    rw [size_one I.L.law0 ht hs]
    exact (I.z t ht).2
theorem inv_all {q N : Int} {dds : List Dd} (q0 : 0 < q) (R : Run2 q N dds) (hl : dds.length ≤ 62) : ∀ i, i ≤ dds.length → InvA q N dds i
  | 0, _ => ⟨lawful_nil q 0, rfl, Nat.zero_le _, fun p h => (nomatch h), fun t h => (nomatch h), fun p h => (nomatch h), rfl⟩
  | i + 1, hi => by
    have I := inv_all q0 R hl i (by omega)
    have hx : dds[i]? = some dds[i] := List.getElem?_eq_getElem (by omega)
    obtain ⟨D, hz⟩ := R i _ hx
    generalize dds[i] = d at hx D hz
    have n0 : 0 ≤ (stAt q dds i).1 := by rw [I.n]; omega
    have il := I.len
    obtain ⟨L', l', hf⟩ := done_ok I.L q0 n0 (by omega) D
    have es : (stAt q dds (i + 1)).1 = newN (stAt q dds i).1 d := by rw [stAt_succ hx]; rfl
    have eg : (stAt q dds (i + 1)).2 = doneM q (stAt q dds i).1 (stAt q dds i).2 d := by rw [stAt_succ hx]; rfl
    have dN := size_le I D hz
    refine ⟨by rw [es, eg]; exact L', ?_, by rw [eg]; omega, fun p hp => ?_, by rw [eg]; exact sizes_keep I.L I.z D dN L', fun p hp => ?_, ?_⟩
    · rw [es, putsM_succ hx, List.length_append]
      have := I.n
      cases d with
      | put z => show (stAt q dds i).1 + 1 = _; rw [I.n]; simp [more1]
      | drop s => show (stAt q dds i).1 = _; rw [I.n]; simp [more1]
    · rw [eg] at hp
      have hp := hf.mem_iff.mp hp
      rw [putsM_succ hx]
      cases d with
      | put z =>
        rcases List.mem_cons.mp hp with rfl | hp
        · refine ⟨n0, ?_⟩
          show (putsM (dds.take i) ++ [z])[(stAt q dds i).1.toNat]? = some z
          rw [I.n, Int.toNat_natCast, List.getElem?_append_right (Nat.le_refl _), Nat.sub_self]; rfl
        · obtain ⟨h1, h2⟩ := I.f p hp
          refine ⟨h1, ?_⟩
          rw [List.getElem?_append_left (List.getElem?_eq_some_iff.mp h2).1]; exact h2
      | drop s =>
        obtain ⟨h1, h2⟩ := I.f p (List.mem_filter.mp hp).1
        refine ⟨h1, ?_⟩
        show (putsM (dds.take i) ++ [])[p.1.toNat]? = _
        rw [List.append_nil]; exact h2
    · rw [eg] at hp
      have hp := hf.mem_iff.mp hp
      rw [hist_succ hx]
      cases d with
      | put z =>
        show (valI (putI ((dds.take i).foldl hStep (0, [])).2 ((dds.take i).foldl hStep (0, [])).1 (.bl true)) p.1).isSome = true
        rw [valI_put, I.hn]
        rcases List.mem_cons.mp hp with rfl | hp
        · rw [if_pos rfl]; rfl
        · split
          · rfl
          · exact I.h p hp
      | drop s =>
        obtain ⟨h1, h2⟩ := List.mem_filter.mp hp
        show (valI (dropI ((dds.take i).foldl hStep (0, [])).2 s) p.1).isSome = true
        rw [valI_drop (by simpa using h2)]
        exact I.h p h1
    · rw [hist_succ hx, es, ← I.hn]
      cases d <;> rfl
/-- all that the walks ask of a history -/
structure HisA (q N : Int) (dds : List Dd) : Prop where
  run : Run2 q N dds
  q1 : 2 ≤ q
  q2 : q ≤ 64
  len : dds.length ≤ 62
  n4 : N ≤ 4096
theorem HisA.inv {q N : Int} {dds : List Dd} (H : HisA q N dds) {i : Nat} (hi : i ≤ dds.length) : InvA q N dds i := inv_all (by have := H.q1; omega) H.run H.len i hi
theorem HisA.st {q N : Int} {dds : List Dd} (H : HisA q N dds) {i : Nat} {d : Dd} (h : dds[i]? = some d) : StOk q (stAt q dds i).1 (stAt q dds i).2 d := by
  have hi := (List.getElem?_eq_some_iff.mp h).1
  have I := H.inv (Nat.le_of_lt hi)
  have hl := H.len
  have il := I.len
  exact ⟨by rw [I.n]; omega, I.L, (H.run i d h).1, by omega⟩
theorem course_mem {q : Int} {dds : List Dd} {y : St3} (h : y ∈ course q 0 [] dds) : ∃ i d, dds[i]? = some d ∧ y = ((stAt q dds i).1, (stAt q dds i).2, d) := by
  obtain ⟨i, hi, e⟩ := List.getElem_of_mem h
  rw [course_len] at hi
  refine ⟨i, dds[i], List.getElem?_eq_getElem hi, ?_⟩
  have := course_get q dds 0 [] i dds[i] (List.getElem?_eq_getElem hi)
  rw [List.getElem?_eq_getElem (by rw [course_len]; exact hi), e] at this
  exact Option.some.inj this
/-- whose copies a tidying makes -/
theorem copies_keys {q n b far : Int} {gs later : List Rg} {d : Dd} (L : Lawful q n gs) : ∀ c ∈ copiesM q n gs later b far d, c.1 ∈ (pairsW .file (allT gs)).map (·.1) ∨ ((∃ z, d = .put z) ∧ c.1 = n) := by
  have key : ∀ x ∈ spots q 0 gs, x.s ∈ (pairsW .file (allT gs)).map (·.1) := fun x hx => by
    rw [← spots_pairs q gs 0, List.map_map]
    exact List.mem_map.mpr ⟨x, hx, rfl⟩
  have led : ∀ {s one other z aside : Int} {c : C3}, c ∈ ledM s one other z aside → c.1 = s := fun {s one other z aside c} h => by
    unfold ledM at h
    by_cases h1 : one = other
    · rw [if_pos h1] at h; cases h
    · rw [if_neg h1] at h
      by_cases h2 : (if one - other < 0 then -(one - other) else one - other) < z
      · rw [if_pos h2] at h
        rcases List.mem_cons.mp h with rfl | h
        · rfl
        · rw [List.mem_singleton.mp h]
      · rw [if_neg h2] at h
        rw [List.mem_singleton.mp h]
  -- the first round
  have r1 : ∀ (xs : List Sp5) (a : CpS), (∀ x ∈ xs, x ∈ spots q 0 gs) → (∀ c ∈ a.fd, c.1 ∈ (pairsW .file (allT gs)).map (·.1)) → (∀ c ∈ a.py, c.1 ∈ (pairsW .file (allT gs)).map (·.1)) →
      (∀ c ∈ (xs.foldl (cstep b (dropO d)) a).fd, c.1 ∈ (pairsW .file (allT gs)).map (·.1)) ∧ ∀ c ∈ (xs.foldl (cstep b (dropO d)) a).py, c.1 ∈ (pairsW .file (allT gs)).map (·.1) := by
    intro xs
    induction xs with
    | nil => intro a _ h1 h2; exact ⟨h1, h2⟩
    | cons x xs ih =>
      intro a hx h1 h2
      have kx := key x (hx x List.mem_cons_self)
      have h3 : (∀ c ∈ (cstep b (dropO d) a x).fd, c.1 ∈ (pairsW .file (allT gs)).map (·.1)) ∧ ∀ c ∈ (cstep b (dropO d) a x).py, c.1 ∈ (pairsW .file (allT gs)).map (·.1) := by
        unfold cstep
        by_cases hb : b ≤ x.r ∧ some x.s ≠ dropO d
        · rw [if_pos hb]
          cases x.m with
          | true =>
            refine ⟨fun c hc => ?_, h2⟩
            rcases List.mem_append.mp hc with hc | hc
            · exact h1 c hc
            · rw [List.mem_singleton.mp hc]; exact kx
          | false =>
            refine ⟨h1, fun c hc => ?_⟩
            rcases List.mem_append.mp hc with hc | hc
            · exact h2 c hc
            · rw [List.mem_singleton.mp hc]; exact kx
        · rw [if_neg hb]; exact ⟨h1, h2⟩
      exact ih _ (fun y hy => hx y (List.mem_cons_of_mem _ hy)) h3.1 h3.2
  have r2 : ∀ (at_ : Int) (xs : List C3) (a : LdS), (∀ c ∈ xs, c.1 ∈ (pairsW .file (allT gs)).map (·.1)) → (∀ c ∈ a.fd, c.1 ∈ (pairsW .file (allT gs)).map (·.1)) → (∀ c ∈ (xs.foldl (ldStep at_) a).fd, c.1 ∈ (pairsW .file (allT gs)).map (·.1)) := by
    intro at_ xs
    induction xs with
    | nil => intro a _ h1; exact h1
    | cons x xs ih =>
      intro a hx h1
      refine ih _ (fun y hy => hx y (List.mem_cons_of_mem _ hy)) fun c hc => ?_
      rcases List.mem_append.mp hc with hc | hc
      · exact h1 c hc
      · rw [led hc]; exact hx x List.mem_cons_self
  have r3 : ∀ (nw : Int → Int) (at_ : Int) (xs f : List C3), (∀ c ∈ xs, c.1 ∈ (pairsW .file (allT gs)).map (·.1)) → (∀ c ∈ f, c.1 ∈ (pairsW .file (allT gs)).map (·.1)) → (∀ c ∈ xs.foldl (f2M nw at_) f, c.1 ∈ (pairsW .file (allT gs)).map (·.1)) := by
    intro nw at_ xs
    induction xs with
    | nil => intro f _ h1; exact h1
    | cons x xs ih =>
      intro f hx h1
      refine ih _ (fun y hy => hx y (List.mem_cons_of_mem _ hy)) fun c hc => ?_
      rcases List.mem_append.mp hc with hc | hc
      · exact h1 c hc
      · rw [led hc]; exact hx x List.mem_cons_self
  intro c hc
  unfold copiesM at hc
  rw [cp_spots L.ser] at hc
  have f0 : (∀ c ∈ (cp0 n far d).fd, c.1 ∈ (pairsW .file (allT gs)).map (·.1)) ∧ ∀ c ∈ (cp0 n far d).py, c.1 ∈ (pairsW .file (allT gs)).map (·.1) := by cases d <;> exact ⟨fun c h => (nomatch h), fun c h => (nomatch h)⟩
  obtain ⟨g1, g2⟩ := r1 (spots q 0 gs) (cp0 n far d) (fun x hx => hx) f0.1 f0.2
  have g3 := r2 ((spots q 0 gs).foldl (cstep b (dropO d)) (cp0 n far d)).at_ ((spots q 0 gs).foldl (cstep b (dropO d)) (cp0 n far d)).py ⟨((spots q 0 gs).foldl (cstep b (dropO d)) (cp0 n far d)).fd, [], under q gs b⟩ g2 g1
  obtain ⟨_, _, _, h4⟩ := cstep_sum (fun _ => 0) b (dropO d) (spots q 0 gs) (cp0 n far d) (cp0_nodup L d)
  rcases List.mem_append.mp hc with hc | hc
  · left
    refine r3 (newsM q later) _ _ _ (fun y hy => ?_) g3 c hc
    have hy := List.mem_reverse.mp hy
    have e := (ld_len ((spots q 0 gs).foldl (cstep b (dropO d)) (cp0 n far d)).at_ ((spots q 0 gs).foldl (cstep b (dropO d)) (cp0 n far d)).py ⟨((spots q 0 gs).foldl (cstep b (dropO d)) (cp0 n far d)).fd, [], under q gs b⟩).2
    have hm := List.mem_map.mpr ⟨y, hy, (rfl : (fun c : C3 => c.1) y = y.1)⟩
    rw [e] at hm
    obtain ⟨u, hu, e2⟩ := List.mem_map.mp (show y.1 ∈ ((spots q 0 gs).foldl (cstep b (dropO d)) (cp0 n far d)).py.map fun c => c.1 from hm)
    rw [← e2]; exact g2 u hu
  · obtain ⟨s, hs, rfl⟩ := List.mem_map.mp hc
    have hs := (sortK_perm _ _).mem_iff.mp hs
    rw [h4] at hs
    rcases List.mem_append.mp hs with hs | hs
    · cases d with
      | put z => right; exact ⟨⟨z, rfl⟩, List.mem_singleton.mp hs⟩
      | drop k => cases hs
    · left
      obtain ⟨x, hx, e⟩ := List.mem_map.mp hs
      rw [← e]; exact key x (List.mem_filter.mp hx).1
theorem putsM_le (dds : List Dd) (i : Nat) : (putsM (dds.take i)).length ≤ (putsM dds).length := by
  have e : putsM dds = putsM (dds.take i) ++ putsM (dds.drop i) := by
    unfold putsM
    rw [← List.filterMap_append, List.take_append_drop]
  rw [e, List.length_append]; omega
theorem HisA.key {q N : Int} {dds : List Dd} (H : HisA q N dds) {i : Nat} (hi : i ≤ dds.length) {s : Int} (h : s ∈ (pairsW .file (allT (stAt q dds i).2)).map (·.1)) : 0 ≤ s ∧ s.toNat < (putsM (dds.take i)).length := by
  obtain ⟨p, hp, rfl⟩ := List.mem_map.mp h
  obtain ⟨h1, h2⟩ := (H.inv hi).f p hp
  exact ⟨h1, (List.getElem?_eq_some_iff.mp h2).1⟩
theorem HisA.co {q N : Int} {dds : List Dd} (H : HisA q N dds) : CoOk q dds := by
  refine ⟨H.q1, H.q2, H.len, fun y hy => ?_, fun y hy ht c hc => ?_⟩
  · obtain ⟨i, d, h, rfl⟩ := course_mem hy
    exact H.st h
  · obtain ⟨i, d, h, rfl⟩ := course_mem hy
    have hi := (List.getElem?_eq_some_iff.mp h).1
    have I := H.inv (Nat.le_of_lt hi)
    rcases copies_keys I.L c hc with hk | ⟨⟨z, e⟩, hk⟩
    · obtain ⟨a, b⟩ := H.key (Nat.le_of_lt hi) hk
      exact ⟨a, Nat.lt_of_lt_of_le b (putsM_le dds i)⟩
    · have e : d = .put z := e
      have hk : c.1 = (stAt q dds i).1 := hk
      rw [hk, I.n]
      refine ⟨by omega, ?_⟩
      rw [Int.toNat_natCast]
      have h1 := putsM_succ h
      rw [e] at h1
      have h2 := putsM_le dds (i + 1)
      rw [h1, List.length_append] at h2
      simp only [more1, List.length_cons, List.length_nil] at h2
      omega
theorem HisA.puts {q N : Int} {dds : List Dd} (H : HisA q N dds) : ∀ z ∈ putsM dds, 1 ≤ z ∧ z ≤ N := by
  intro z hz
  obtain ⟨d, hd, e⟩ := List.mem_filterMap.mp hz
  obtain ⟨i, hi, e2⟩ := List.getElem_of_mem hd
  have hx : dds[i]? = some d := by rw [List.getElem?_eq_getElem hi, e2]
  cases d with
  | put w =>
    cases e
    obtain ⟨D, hN⟩ := H.run i _ hx
    exact ⟨D.1, hN _ rfl⟩
  | drop s => cases e
theorem HisA.drops {q N : Int} {dds : List Dd} (H : HisA q N dds) : ∀ i s, dds[i]? = some (.drop s) → 0 ≤ s ∧ s.toNat < (putsM (dds.take i)).length := by
  intro i s h
  have hi := (List.getElem?_eq_some_iff.mp h).1
  exact H.key (Nat.le_of_lt hi) (H.run i _ h).1
theorem HisA.cost {q N : Int} {dds : List Dd} {t : List Int} (H : HisA q N dds) (ht : NumOk t) (hN : N ≤ t.length) : CostOk t q dds := by
  refine ⟨ht, H.co, fun z hz => ⟨(H.puts z hz).1, Int.le_trans (H.puts z hz).2 hN⟩, fun s hs => ?_⟩
  obtain ⟨i, hi, e⟩ := List.getElem_of_mem hs
  obtain ⟨a, b⟩ := H.drops i s (by rw [List.getElem?_eq_getElem hi, e])
  exact ⟨a, Nat.lt_of_lt_of_le b (putsM_le dds i)⟩
theorem HisA.hist {q N : Int} {dds : List Dd} (H : HisA q N dds) : HistOk dds := by
  intro i s h
  have hi := (List.getElem?_eq_some_iff.mp h).1
  obtain ⟨p, hp, e⟩ := List.mem_map.mp (H.run i _ h).1
  rw [← e]
  exact (H.inv (Nat.le_of_lt hi)).h p hp
theorem HisA.deeds {q N : Int} {dds : List Dd} (H : HisA q N dds) : ∀ d ∈ dds, deedOk d := by
  intro d hd
  obtain ⟨i, hi, e⟩ := List.getElem_of_mem hd
  have h : dds[i]? = some d := by rw [List.getElem?_eq_getElem hi, e]
  exact deedOk_of (H.st h).L (H.st h).D
/-- the size of a file is the size of its put -/
theorem HisA.size {q N : Int} {dds : List Dd} (H : HisA q N dds) {i : Nat} (hi : i ≤ dds.length) : ∀ p ∈ pairsW .file (allT (stAt q dds i).2), szOf dds p.1 = p.2 := by
  intro p hp
  obtain ⟨h1, h2⟩ := (H.inv hi).f p hp
  unfold szOf
  rw [putsM_take dds i (List.getElem?_eq_some_iff.mp h2).1, h2]; rfl
theorem HisA.sizeD {q N : Int} {dds : List Dd} (H : HisA q N dds) {i : Nat} {d : Dd} (h : dds[i]? = some d) : K76.sizeD (stAt q dds i).2 d = sizeI dds d := by
  have hi := (List.getElem?_eq_some_iff.mp h).1
  cases d with
  | put z => rfl
  | drop s =>
    obtain ⟨t, ht, hs⟩ := file_at (H.run i _ h).1
    show sizeOf s _ = szOf dds s
    rw [size_one (H.inv (Nat.le_of_lt hi)).L.law0 ht hs]
    have := H.size (Nat.le_of_lt hi) (t.s, t.z) (mem_pairsW.mpr ⟨t, ht, (isF_iff.mp hs).1, rfl⟩)
    rw [← (isF_iff.mp hs).2]
    exact this.symm
/-- a row of the program costs what the law writes -/
theorem HisA.row {q N : Int} {dds : List Dd} (H : HisA q N dds) (f : Int → Int) {i : Nat} {d : Dd} (h : dds[i]? = some d) : ((wrRow q dds ((stAt q dds i).1, (stAt q dds i).2, d)).map fun p => f p.2).sum = sumf f (wrM q (stAt q dds i).1 (stAt q dds i).2 d) := by
  have hi := (List.getElem?_eq_some_iff.mp h).1
  have I := H.inv (Nat.le_of_lt hi)
  unfold wrRow
  show ((putRow (stAt q dds i).1 d ++ if tidies q (stAt q dds i).2 d then _ else _).map fun p => f p.2).sum = _
  rw [List.map_append, List.sum_append]
  by_cases ht : tidies q (stAt q dds i).2 d = true
  · rw [if_pos ht, wr_tidy2 ht, sumf_append, List.map_map]
    have hc := copies_sum (f := f) (g := fun s => f (szOf dds s)) (b := bgn (stAt q dds i).2 (K76.sizeD (stAt q dds i).2 d)) (far := farM q (stAt q dds i).2 (doneM q (stAt q dds i).1 (stAt q dds i).2 d)) (later := doneM q (stAt q dds i).1 (stAt q dds i).2 d) (d := d) I.L (fun p hp => by show f (szOf dds p.1) = _; rw [H.size (Nat.le_of_lt hi) p hp])
    have hc2 : ((tidM q (stAt q dds i).1 (stAt q dds i).2 d).map ((fun p : Int × Int => f p.2) ∘ fun c => (c.1, szOf dds c.1))).sum = csum (fun s => f (szOf dds s)) (tidM q (stAt q dds i).1 (stAt q dds i).2 d) := rfl
    have hc3 : csum (fun s => f (szOf dds s)) (tidM q (stAt q dds i).1 (stAt q dds i).2 d) = putCost (fun s => f (szOf dds s)) (stAt q dds i).1 d + sumf f (copiedM q (stAt q dds i).2 (doneM q (stAt q dds i).1 (stAt q dds i).2 d) (bgn (stAt q dds i).2 (K76.sizeD (stAt q dds i).2 d)) (dropO d)) := hc
    rw [show (tidM q ((stAt q dds i).1, (stAt q dds i).2, d).1 ((stAt q dds i).1, (stAt q dds i).2, d).2.1 ((stAt q dds i).1, (stAt q dds i).2, d).2.2) = tidM q (stAt q dds i).1 (stAt q dds i).2 d from rfl, hc2, hc3]
    cases d with
    | put z =>
      have e : szOf dds (stAt q dds i).1 = z := by
        unfold szOf
        rw [I.n, Int.toNat_natCast]
        have h1 := putsM_succ h
        have h2 : (putsM (dds.take (i + 1)))[(putsM (dds.take i)).length]? = some z := by
          rw [h1, List.getElem?_append_right (Nat.le_refl _), Nat.sub_self]; rfl
        rw [putsM_take dds (i + 1) (List.getElem?_eq_some_iff.mp h2).1, h2]; rfl
      show ([((stAt q dds i).1, z)].map fun p : Int × Int => f p.2).sum + (f (szOf dds (stAt q dds i).1) + _) = sumf f [z, z] + _
      rw [e]
      simp [sumf]
      omega
    | drop s =>
      show (([] : List (Int × Int)).map fun p : Int × Int => f p.2).sum + (0 + _) = sumf f [] + _
      simp [sumf]
  · have ht : tidies q (stAt q dds i).2 d = false := by simpa using ht
    rw [if_neg (by rw [ht]; exact Bool.false_ne_true), wr_plain2 ht]
    cases d with
    | put z => show ([((stAt q dds i).1, z)].map fun p : Int × Int => f p.2).sum + 0 = sumf f [z]; simp [sumf]
    | drop s => rfl
theorem HisA.told {q N : Int} {dds : List Dd} (H : HisA q N dds) (t : List Int) : toldM t q dds = sumf (tabF t) (wrAll q 0 [] dds) := by
  unfold toldM
  rw [wr_course]
  have gen : ∀ ys : List St3, (∀ y ∈ ys, y ∈ course q 0 [] dds) → ((ys.flatMap (wrRow q dds)).map fun p => tabF t p.2).sum = sumf (tabF t) (ys.flatMap fun y => wrM q y.1 y.2.1 y.2.2) := by
    intro ys
    induction ys with
    | nil => intro _; rfl
    | cons y ys ih =>
      intro h
      rw [List.flatMap_cons, List.flatMap_cons, List.map_append, List.sum_append, sumf_append, ih fun z hz => h z (List.mem_cons_of_mem _ hz)]
      congr 1
      obtain ⟨i, d, hx, rfl⟩ := course_mem (h y List.mem_cons_self)
      exact H.row (tabF t) hx
  exact gen _ fun y h => h
theorem runOk_of {q N : Int} : ∀ (ds : List Dd) (n : Int) (gs : List Rg), (∀ i d, ds[i]? = some d → DeedOk ((ds.take i).foldl (stepS q) (n, gs)).2 d ∧ K76.sizeD ((ds.take i).foldl (stepS q) (n, gs)).2 d ≤ N) → RunOk q N n gs ds
  | [], _, _, _ => trivial
  | d :: ds, n, gs, h => by
    refine ⟨(h 0 d rfl).1, (h 0 d rfl).2, runOk_of ds _ _ fun i e he => ?_⟩
    exact h (i + 1) e he
theorem szAll_eq {q : Int} {dds : List Dd} : ∀ (ds : List Dd) (n : Int) (gs : List Rg), (∀ i d, ds[i]? = some d → K76.sizeD ((ds.take i).foldl (stepS q) (n, gs)).2 d = sizeI dds d) → szAll q n gs ds = ds.map (sizeI dds)
  | [], _, _, _ => rfl
  | d :: ds, n, gs, h => by
    rw [szAll, List.map_cons, szAll_eq (dds := dds) ds _ _ fun i e he => h (i + 1) e he]
    congr 1
    exact h 0 d rfl
/-- the bound -/
theorem HisA.bound {q N : Int} {dds : List Dd} {t : List Int} (H : HisA q N dds) (ht : TabOkP t) (hN : N ≤ t.length) : sumf (tabF t) (wrAll q 0 [] dds) ≤ kap q (logQ q) * mineM t dds := by
  have q1 := H.q1
  have hl := H.len
  have R : RunOk q N 0 [] dds := runOk_of dds 0 [] fun i d h => ⟨(H.run i d h).1, size_le (H.inv (Nat.le_of_lt (List.getElem?_eq_some_iff.mp h).1)) (H.run i d h).1 (H.run i d h).2⟩
  have F : Pr (tabF t) N := ⟨fun x a b => ht.nn x a (by omega), fun x y a b c => ht.mono x y a b (by omega), fun x y a b c => ht.sub x y a b (by omega)⟩
  have h := all_cost F (q := q) (L := logQ q) (by omega) (log_ok q1) (ds := dds) (n := 0) (gs := []) (lawful_nil q 0) (by omega) (by show 0 + dds.length ≤ 200; omega) (fun t h => nomatch h) R
  have e0 : Fm (tabF t) [] = 0 := rfl
  rw [e0, Int.mul_zero, Int.add_zero, szAll_eq (dds := dds) dds 0 [] (fun i d h => H.sizeD h)] at h
  have e1 : sumf (tabF t) (dds.map (sizeI dds)) = mineM t dds := by unfold sumf mineM; rw [List.map_map]; rfl
  rw [e1] at h
  exact h
/-- what is written has a price -/
theorem HisA.wr {q N : Int} {dds : List Dd} (H : HisA q N dds) : ∀ z ∈ wrAll q 0 [] dds, 1 ≤ z ∧ z ≤ N := by
  intro z hz
  rw [wr_course] at hz
  obtain ⟨y, hy, hz⟩ := List.mem_flatMap.mp hz
  obtain ⟨i, d, hx, rfl⟩ := course_mem hy
  have hi := (List.getElem?_eq_some_iff.mp hx).1
  have I := H.inv (Nat.le_of_lt hi)
  have D := (H.run i d hx).1
  have own : ∀ w ∈ more2 d, 1 ≤ w ∧ w ≤ N := fun w hw => by
    cases d with
    | put v =>
      have e : w = v := by
        rcases List.mem_cons.mp hw with e | hw
        · exact e
        · exact List.mem_singleton.mp hw
      rw [e]; exact ⟨D.1, (H.run i _ hx).2 v rfl⟩
    | drop s => cases hw
  have hz : z ∈ wrM q (stAt q dds i).1 (stAt q dds i).2 d := hz
  cases ht : tidies q (stAt q dds i).2 d with
  | true =>
    rw [wr_tidy2 ht] at hz
    rcases List.mem_append.mp hz with hz | hz
    · exact own z hz
    · -- a copied size is the size of a spot
      have gen : ∀ (news : Int → Int) (b : Int) (dr : Option Int) (xs : List Sp5) (a : Int × List Int), (∀ w ∈ a.2, 1 ≤ w ∧ w ≤ N) → (∀ x ∈ xs, 1 ≤ x.z ∧ x.z ≤ N) → ∀ w ∈ (xs.foldl (copStep news b dr) a).2, 1 ≤ w ∧ w ≤ N := by
        intro news b dr xs
        induction xs with
        | nil => intro a h _; exact h
        | cons x xs ih =>
          intro a h hx
          have x0 := hx x List.mem_cons_self
          refine ih _ ?_ fun y hy => hx y (List.mem_cons_of_mem _ hy)
          intro w hw
          unfold copStep at hw
          by_cases hb : b ≤ x.r ∧ some x.s ≠ dr
          · rw [if_pos hb] at hw
            cases hm : x.m with
            | true =>
              rw [if_pos hm] at hw
              rcases List.mem_append.mp hw with hw | hw
              · exact h w hw
              · have e : w = x.z := by
                  rcases List.mem_cons.mp hw with e | hw
                  · exact e
                  · exact List.mem_singleton.mp hw
                rw [e]; exact x0
            | false =>
              rw [if_neg (by rw [hm]; exact Bool.false_ne_true)] at hw
              rcases List.mem_append.mp hw with hw | hw
              · rcases List.mem_append.mp hw with hw | hw
                · exact h w hw
                · rw [(List.mem_replicate.mp hw).2]; exact x0
              · rw [(List.mem_replicate.mp hw).2]; exact x0
          · rw [if_neg hb] at hw; exact h w hw
      refine gen _ _ _ (spots q 0 (stAt q dds i).2) (under q (stAt q dds i).2 _, []) (fun w hw => nomatch hw) (fun x hx => ?_) z hz
      have hp : (x.s, x.z) ∈ pairsW .file (allT (stAt q dds i).2) := by
        rw [← spots_pairs q _ 0]
        exact List.mem_map.mpr ⟨x, hx, rfl⟩
      obtain ⟨u, hu, _, e⟩ := mem_pairsW.mp hp
      have := I.z u hu
      have e2 : u.z = x.z := congrArg Prod.snd e
      rw [← e2]; exact this
  | false =>
    rw [wr_plain2 ht] at hz
    refine own z ?_
    cases d with
    | put v => exact List.mem_cons_of_mem _ hz
    | drop s => cases hz
end K76
set_option maxRecDepth 100000
set_option maxHeartbeats 4000000
namespace K76
open PySem PySem.Spec PyProof.Rows L2
/-- a purse from which at most k pennies were taken -/
def Pu (k : Nat) (s : List D) : Prop := ∃ (cs : List Int) (a r : Int), s = [.lst (cs.map D.int), .int a, .int r] ∧ cs.length ≤ 63 ∧ 0 ≤ a ∧ a ≤ k ∧ 0 ≤ r
theorem Pu.mono {k m : Nat} {s : List D} (h : Pu k s) (hk : k ≤ m) : Pu m s := by
  obtain ⟨cs, a, r, e, h1, h2, h3, h4⟩ := h
  exact ⟨cs, a, r, e, h1, h2, by omega, h4⟩
theorem eqD_ints (cs : List Int) : eqD (.lst (cs.map D.int)) (.lst []) = cs.isEmpty := by
  cases cs with
  | nil => simp [eqD, toPy, toPys, PyData.eqv, PyData.eqvAll]
  | cons c cs => simp [eqD, toPy, toPys, PyData.eqv, PyData.eqvAll]
section
variable {P : Program} {w : World} {K : PySem.W.Frag} {mg : Str → Option Value} {base : Heap}
theorem sc_L_purse : FnScope ["_law_script", "_law_cell"] ["_law_script"] (defScope (top 97)) := ⟨rfl, rfl, rfl, by decide +kernel, rfl, by decide +kernel, by decide +kernel⟩
def R_Lpurse : List D → List D → Prop := fun ds es => ∃ cs : List Int, ds = [.kls (cs.map D.int)] ∧ cs.length ≤ 63 ∧ es = [.lst (cs.map D.int), .int 0, .int 0]
theorem sc_L_penny : FnScope ["_law_purse_here", "_law_many", "_law_at", "_law_cell", "_law_mixed", "_law_rest"] ["_law_purse_here", "_law_many"] (defScope (top 98)) := ⟨rfl, rfl, rfl, by decide +kernel, rfl, by decide +kernel, by decide +kernel⟩
def Pre_penny : List D → List D → Prop := fun ds s => ∃ (m : Int) (k : Nat), ds = [.int m] ∧ 0 < m ∧ m < 1073741824 ∧ k < 1000000 ∧ Pu k s
def Post_penny : List D → List D → List D → D → Prop := fun ds s s' d => ∀ (m : Int) (k : Nat), ds = [.int m] → Pu k s → Pu (k + 1) s' ∧ ∃ v : Int, d = .int v ∧ 0 ≤ v ∧ v < m
theorem ok_L_penny (T : Tx mg) (F : FnT K mg 98 "_law_penny") : KnX P w K mg base "_law_penny" 1 Pre_penny Post_penny := by
  obtain ⟨f, fd, F, g⟩ := F
  refine knX_of F g sc_L_penny (fun ds s h => by obtain ⟨_, _, rfl, _⟩ := h; rfl) (fun _ _ _ _ _ _ us hl => match us, hl with | [_, _], _ => rfl) ?_
  rintro cdv A outer s H E hr l ds st ⟨m, k, rfl, m0, m1, hk, cs, a, r, rfl, h1, h2, h3, h4⟩
  have nd := sc_L_penny.nd
  have post : ∀ (a' r' v : Int), 0 ≤ a' → a' ≤ a + 1 → 0 ≤ r' → 0 ≤ v → v < m → Post_penny [.int m] [.lst (cs.map D.int), .int a, .int r] [.lst (cs.map D.int), .int a', .int r'] (.int v) := fun a' r' v p1 p2 p3 p4 p5 m' k' em hp => by
    cases em
    obtain ⟨cs', a2, r2, e, q1, q2, q3, q4⟩ := hp
    simp only [List.cons.injEq, D.lst.injEq, D.int.injEq, and_true] at e
    obtain ⟨_, rfl, rfl⟩ := e
    exact ⟨⟨cs, a', r', rfl, h1, p1, by omega, p3⟩, v, rfl, p4, p5⟩
  refine ss_cons (s_if (t_gt (d_ixW 0 (.pu l _) d_int rfl) d_int) (fun hb => ?_) (fun hb => ?_))
  · have hb := of_decide_eq_true hb
    refine ss_cons (s_set 5 nd (d_intI T.int (d_ixW 0 (.pu l _) d_int rfl)) ?_)
    refine ss_cons (s_lputW (m := 2) 0 (.pu l _) (d_fdiv (d_var 5) (d_var 1) ⟨m0, m1⟩) d_int rfl ?_)
    refine ss_cons (s_rete (d_mod (d_intI T.int (d_var 5)) (d_var 1) m0) ⟨_, rfl, ?_⟩)
    exact post a (r / m) (r % m) h2 (by omega) (Int.ediv_nonneg h4 (by omega)) (Int.emod_nonneg _ (by omega)) (Int.emod_lt_of_pos _ m0)
  · refine ss_nil ?_
    refine ss_cons (s_set 2 nd (d_ixW 0 (.pu l _) d_int rfl) ?_)
    refine ss_cons (s_lputW (m := 1) 0 (.pu l _) (d_add (d_var 2) d_int) d_int rfl ?_)
    refine ss_cons (s_set 3 nd (d_add (d_mul d_int (d_var 2) (.inl (by omega))) d_int) ?_)
    have tail : ∀ c : Int, DSs (Cxf P w K mg base ["_law_purse_here", "_law_many", "_law_at", "_law_cell", "_law_mixed", "_law_rest"] "_law_penny" (defScope (top 98)) f cdv A outer s H E) ((defBody (top 98)).drop 5)
        [some (.pu l [.lst (cs.map D.int), .int (a + 1), .int r]), some (.val (.int m)), some (.val (.int a)), some (.val (.int c)), none, none] (retX (Post_penny [.int m] [.lst (cs.map D.int), .int a, .int r]) l) := fun c => by
      refine ss_cons (s_if (DW.t (w_and (t_lt (d_var 2) (d_len T.len (d_ixW 0 (.pu l _) d_int rfl) (.lst _))) fun _ => (w_and1 (t_ge (d_abs T.abs (d_var 3)) (d_pow d_int d_int ⟨by omega, by omega, by omega⟩))))) (fun hb => ?_) (fun hb => ?_))
      · obtain ⟨_, hb⟩ := Bool.and_eq_true_iff.mp hb
        have hb := of_decide_eq_true hb
        have e18 : (10 : Int) ^ (18 : Int).toNat = 1000000000000000000 := by decide
        rw [e18] at hb
        refine ss_cons (s_set 5 nd (DE.eq (y := .int (2 * ((if c < 0 then -c else c) - 1000000000000000000) + (if c < 0 then 1 else 0))) (d_add (d_mul d_int (d_sub (d_abs T.abs (d_var 3)) (d_pow d_int d_int ⟨by omega, by omega, by omega⟩)) (.inl (by omega))) (d_intB T.int (d_lt (d_var 3) d_int))) ?_) ?_)
        · rw [e18]
          by_cases hc : c < 0
          · simp [hc]
          · simp [hc]
        have r0 : 0 ≤ 2 * ((if c < 0 then -c else c) - 1000000000000000000) + (if c < 0 then 1 else 0) := by
          have : (0 : Int) ≤ if c < 0 then 1 else 0 := by split <;> omega
          omega
        refine ss_cons (s_lputW (m := 2) 0 (.pu l _) (d_fdiv (d_intI T.int (d_var 5)) (d_var 1) ⟨m0, m1⟩) d_int rfl ?_)
        refine ss_cons (s_rete (d_mod (d_intI T.int (d_var 5)) (d_var 1) m0) ⟨_, rfl, ?_⟩)
        exact post (a + 1) _ _ (by omega) (by omega) (Int.ediv_nonneg r0 (by omega)) (Int.emod_nonneg _ (by omega)) (Int.emod_lt_of_pos _ m0)
      · refine ss_nil ?_
        have c1 : 0 ≤ c % 2147483549 := Int.emod_nonneg _ (by omega)
        have c2 : c % 2147483549 < 2147483549 := Int.emod_lt_of_pos _ (by omega)
        refine ss_cons (s_set 4 nd (d_mod (d_intI T.int (d_pow (d_add (d_add (d_mod (d_intI T.int (d_var 3)) d_int (by omega)) (d_mul d_int (d_var 2) (.inl (by omega)))) d_int) d_int ⟨by omega, by omega, by omega⟩)) d_int (by omega)) ?_)
        have x1 : 0 ≤ ((c % 2147483549 + 30169 * a + 4337) ^ (5 : Int).toNat) % 2147483629 := Int.emod_nonneg _ (by omega)
        have x2 : ((c % 2147483549 + 30169 * a + 4337) ^ (5 : Int).toNat) % 2147483629 < 2147483629 := Int.emod_lt_of_pos _ (by omega)
        generalize ((c % 2147483549 + 30169 * a + 4337) ^ (5 : Int).toNat) % 2147483629 = x at x1 x2
        have y1 : 0 ≤ x * (2 * a + 2333) := Int.mul_nonneg x1 (by omega)
        have y2 : x * (2 * a + 2333) ≤ 2147483629 * 2002333 := Int.mul_le_mul (by omega) (by omega) (by omega) (by omega)
        have y3 : 0 ≤ 70157 * a * a := Int.mul_nonneg (by omega) h2
        have y4 : 70157 * a * a ≤ 70157000000 * 1000000 := Int.mul_le_mul (by omega) (by omega) h2 (by omega)
        refine ss_cons (s_set 4 nd (d_mod (d_intI T.int (d_pow (d_add (d_add (d_mul (d_var 4) (d_add (d_mul d_int (d_var 2) (.inl (by omega))) d_int) (.inl (by omega))) (d_mul (d_mul d_int (d_var 2) (.inl (by omega))) (d_var 2) (.inr (by omega)))) d_int) d_int ⟨by omega, by omega, by omega⟩)) d_int (by omega)) ?_)
        refine ss_cons (s_rete (d_mod (d_intI T.int (d_fdiv (d_var 4) d_int ⟨by omega, by omega⟩)) (d_var 1) m0) ⟨_, rfl, ?_⟩)
        exact post (a + 1) r _ (by omega) (by omega) h4 (Int.emod_nonneg _ (by omega)) (Int.emod_lt_of_pos _ m0)
    refine ss_cons (s_if (t_neD hr (d_ixW 0 (.pu l _) d_int rfl) (DF.de (f_lst a_nil)) (cmp_lst cs fun c _ => ⟨rfl, Nat.le_of_ble_eq_true rfl⟩) cmp_nilL) (fun hb => ?_) (fun hb => ?_))
    · rw [eqD_ints] at hb
      have hcs : cs ≠ [] := fun e => by subst e; cases hb
      have cl : 0 < cs.length := List.length_pos_iff.mpr hcs
      have q1 : 0 ≤ a % (cs.length : Int) := Int.emod_nonneg _ (by omega)
      have q2 : a % (cs.length : Int) < cs.length := Int.emod_lt_of_pos _ (by omega)
      refine ss_cons (s_set 3 nd (d_ixA (z := .int (cs[(a % (cs.length : Int)).toNat]'(by omega))) (d_ixW 0 (.pu l _) d_int rfl) (.lst _) (d_mod (d_intI T.int (d_var 2)) (d_len T.len (d_ixW 0 (.pu l _) d_int rfl) (.lst _)) (by show (0 : Int) < ((cs.map D.int).length : Int); rw [List.length_map]; omega)) ?_) (ss_nil (tail _)))
      rw [List.length_map]
      refine atI_of q1 ?_
      rw [List.getElem?_map, List.getElem?_eq_getElem (by omega)]; rfl
    · exact ss_nil (tail _)
theorem sc_L_one : FnScope ["_law_purse_here", "_law_some"] ["_law_purse_here", "_law_some"] (defScope (top 99)) := ⟨rfl, rfl, rfl, by decide +kernel, rfl, by decide +kernel, by decide +kernel⟩
def Pre_one : List D → List D → Prop := fun ds s => ∃ (xs : List D) (k : Nat), ds = [.lst xs] ∧ xs ≠ [] ∧ xs.length ≤ 1000 ∧ k < 1000000 ∧ Pu k s
def Post_one : List D → List D → List D → D → Prop := fun ds s s' d => ∀ (xs : List D) (k : Nat), ds = [.lst xs] → Pu k s → Pu (k + 1) s' ∧ d ∈ xs
theorem ok_L_one (T : Tx mg) (F : FnT K mg 99 "_law_one") (K1 : KnX P w K mg base "_law_penny" 1 Pre_penny Post_penny) : KnX P w K mg base "_law_one" 2 Pre_one Post_one := by
  obtain ⟨f, fd, F, g⟩ := F
  refine knX_of F g sc_L_one (fun ds s h => by obtain ⟨_, _, rfl, _⟩ := h; rfl) (fun _ _ _ _ _ _ us hl => match us, hl with | [_, _], _ => rfl) ?_
  rintro cdv A outer s H E hr l ds st ⟨xs, k, rfl, x0, x1, hk, hp⟩
  have nd := sc_L_one.nd
  have xl : 0 < xs.length := List.length_pos_iff.mpr x0
  refine ss_cons (xs_ret (x_ix (x_pure (d_var 1) (x_call 0 K1 hr (xa_pure (a_cons (d_len T.len (d_var 1) (.lst _)) a_nil) ⟨_, _, _, rfl, .pu l _, ⟨_, k, rfl, by omega, by omega, hk, hp⟩, fun s' d post => ?_⟩)))))
  obtain ⟨p1, v, rfl, v0, v1⟩ := post _ k rfl hp
  refine ⟨v, xs, xs[v.toNat]'(by omega), rfl, .lst _, atI_of v0 (List.getElem?_eq_getElem (by omega)), s', rfl, fun xs' k' e hp' => ?_⟩
  cases e
  obtain ⟨p2, _⟩ := post _ k' rfl hp'
  exact ⟨p2, List.getElem_mem _⟩
theorem sc_L_q : FnScope ["_law_purse_here"] ["_law_purse_here"] (defScope (top 114)) := ⟨rfl, rfl, rfl, by decide +kernel, rfl, by decide +kernel, by decide +kernel⟩
def Pre_q : List D → List D → Prop := fun ds s => ∃ k : Nat, ds = [] ∧ k < 100000 ∧ Pu k s
def Post_q : List D → List D → List D → D → Prop := fun ds s s' d => ∀ (k : Nat), Pu k s → Pu (k + 2) s' ∧ ∃ q : Int, d = .int q ∧ 2 ≤ q ∧ q ≤ 64
end
end K76
set_option maxRecDepth 100000
set_option maxHeartbeats 4000000
namespace K76
open PySem PySem.Spec PyProof.Rows L2
/-! ### for .. in range(e), e an expression that changes one's own -/
/-- the number of turns is known when e is done; then the loop goes as any -/
def FR (X : Cx) (body : List Stmt) (k : Out → Prop) (p : Pat) (ρ1 : Env) (d : D) : Prop := ∃ n : Int, d = .int n ∧ -(2 ^ 62) ≤ n ∧ n < 2 ^ 62 ∧ ∃ I : Nat → Env → Prop, I 0 ρ1 ∧
  (∀ (i : Nat) ρ, i < n.toNat → I i ρ → ∃ ρ', bindP p (.int (0 + (i : Int))) ρ = some ρ' ∧ DSs X body ρ' (loopK k (I (i + 1)))) ∧ ∀ ρ, I n.toNat ρ → k (.nx ρ)
section
variable {X : Cx} {ρ : Env} {e tg : Expr} {pos np : Pos} {k : Out → Prop}
theorem xs_forR {body : List Stmt} {p : Pat} {fpos : Pos} (hm : X.mg "range" = none) (hi : XE X e ρ (FR X body k p)) (hg : PG X tg (gPat X.K p))
    (hgl : Gl X "range" := by rfl) (hse : starEach [e] X.env = [(false, eval e X.env)] := by rfl)
    (hpo : PassesOwn (model X.prog X.w) X.A X.env X.xe := by exact PassesOwn.never) (hc : X.calm = true := by rfl) (hs : ∀ x, foldedSetIterable (.Call (.Name "range" np) [e] [] pos) X.env x = pure x := by intro _; rfl) : DS X (.For tg (.Call (.Name "range" np) [e] [] pos) body [] fpos) ρ k := fun Hb0 H0 σ Hb H s D r =>
  ofS (ps_for hpo hc (pi_range1 hgl hm peA hse) hg peSs hs) ((xa_cons (PA' := fun ρ2 ds => ∃ d, ds = [d] ∧ FR X body k p ρ2 d) (x_imp hi fun ρ' d h => xa_nil ⟨d, rfl, h⟩) hse) Hb0 H0 σ Hb H s _ fun vs ds ρ1 Hb1 H1 hp s1 nb' rs => by
    obtain ⟨d, rfl, n, rfl, n1, n2, I, h0, hb, hd⟩ := hp
    obtain ⟨v, rfl, r1⟩ := rs.one
    cases r1.int_inv
    refine ⟨_, rfl, n1, n2, ?_⟩
    have y := yl_range (K := X.K) (mg := X.mg) (Hb := Hb1) (lo := 0) (n := n.toNat)
    have nb : Nw Hb0 H0 Hb1 H1 := s1.nw
    refine ⟨fun i m σ' H' => m = n.toNat - i ∧ i ≤ n.toNat ∧ ∃ ρ' Hb', I i ρ' ∧ So X.K X.mg Hb1 H0 ρ' σ' Hb' H', ⟨n.toNat, by simp, Nat.zero_le _, ρ1, Hb1, h0, s1.base⟩, ?_⟩
    rintro i m σ' H' ⟨rfl, hle, ρ', Hb', hI, s'⟩
    obtain ⟨ys, yg⟩ := y i Hb' H' s'.nw.b s'.en.s
    rw [List.length_map, List.length_range] at ys
    by_cases hlt : i < n.toNat
    · obtain ⟨yg1, yg2⟩ := yg (.int (0 + (i : Int))) (by rw [List.getElem?_map, List.getElem?_range hlt]; rfl)
      refine .inr ⟨yg1, fun σ2 H2 => ∃ ρ2 Hb2, I (i + 1) ρ2 ∧ So X.K X.mg Hb1 H0 ρ2 σ2 Hb2 H2, fun σ2 H2 h2 => ⟨n.toNat - (i + 1), by omega, rfl, hlt, h2⟩, fun x H2 hy => ?_⟩
      obtain ⟨Hb2, m2, rx⟩ := yg2 x H2 hy
      obtain ⟨ρ2, e1, e2⟩ := hb i ρ' hlt hI
      refine (s'.mono m2).bind e1 rx fun σ2 s2 => e2 Hb1 H0 σ2 Hb2 H2 s2 _ fun o ho => ?_
      cases o with
      | nx ρ3 => exact fun σ3 Hb3 H3 s3 => ⟨ρ3, Hb3, ho, s3⟩
      | ct ρ3 => exact fun σ3 Hb3 H3 s3 => ⟨ρ3, Hb3, ho, s3⟩
      | bk ρ3 => exact Reach.base (D := D) nb (r _ ho)
      | rt d => exact Reach.base (D := D) nb (r _ ho)
      | rte d ρ3 => exact Reach.base (D := D) nb (r _ ho)
      | rtf ds => exact Reach.base (D := D) nb (r _ ho)
    · have : i = n.toNat := by omega
      subst this
      exact .inl ⟨ys (Nat.le_refl _) (Nat.le_refl _), Reach.base (D := D) nb (r _ (hd ρ' hI)) σ' Hb' H' s'⟩)
end
end K76
set_option maxRecDepth 100000
set_option maxHeartbeats 4000000
namespace K76
open PySem PySem.Spec PyProof.Rows L2
def dearM (g sm times : Int) (n : Nat) : List Dd := List.replicate times.toNat (.put g) ++ (List.range n).flatMap fun t => [.put sm, .drop (times + (t : Int))]
structure DearOk (top : Int) (dds : List Dd) : Prop where
  ex : ∃ (g sm times : Int) (n : Nat), dds = dearM g sm times n ∧ 1 ≤ g ∧ g ≤ top ∧ 1 ≤ sm ∧ sm ≤ top ∧ 1 ≤ times ∧ times ≤ 4 ∧ n ≤ 15
theorem dearM_succ (g sm times : Int) (n : Nat) : dearM g sm times (n + 1) = dearM g sm times n ++ [.put sm, .drop (times + (n : Int))] := by
  unfold dearM
  rw [List.range_succ, List.flatMap_append, List.append_assoc]; simp
theorem dearM_len (g sm times : Int) (n : Nat) : (dearM g sm times n).length = times.toNat + 2 * n := by
  induction n with
  | zero => unfold dearM; simp
  | succ n ih => rw [dearM_succ, List.length_append, ih]; simp only [List.length_cons, List.length_nil]; omega
section
variable {P : Program} {w : World} {K : PySem.W.Frag} {mg : Str → Option Value} {base : Heap}
theorem ok_L_purse (T : Tx mg) (F : FnT K mg 97 "_law_purse") : KnF P w K mg base "_law_purse" 1 R_Lpurse := by
  obtain ⟨f, fd, F, g⟩ := F
  refine knF_of F g sc_L_purse (fun ds d h => by obtain ⟨_, rfl, _⟩ := h; rfl) (fun _ _ _ _ _ _ us hl => match us, hl with | [_], _ => rfl) ?_
  rintro cdv A outer s H E hr ds es ⟨cs, rfl, hl, rfl⟩
  have nd := sc_L_purse.nd
  refine ss_cons (s_retf (f_lst (a_cons (DF.de (DF.eq (f_lc (p := .nm 1) (xs := cs) (enc := D.int) (f := D.int) [("_law_cell", 1)] nd (i_lst (DE.eq (DF.de (f_sliceK (l := none) (u := some ((63 : Nat) : Int)) (d_var 0) o_none (o_some d_int))) ?_)) (blkOk_by (by kernel_rfl)) (fun _ _ _ _ _ => g_nm 1 nd) (by decide) (by omega) (fun x hx => ⟨_, rfl, fun _ _ _ _ _ => (d_intI T.int (d_var 1))⟩)) rfl)) (a_cons d_int (a_cons d_int a_nil)))) rfl)
  rw [cut_take, List.take_of_length_le (by rw [List.length_map]; exact hl)]
theorem ok_L_q (T : Tx mg) (F : FnT K mg 114 "_law_q") (K1 : KnX P w K mg base "_law_penny" 1 Pre_penny Post_penny) (K2 : KnX P w K mg base "_law_one" 2 Pre_one Post_one) : KnX P w K mg base "_law_q" 3 Pre_q Post_q := by
  obtain ⟨f, fd, F, g⟩ := F
  refine knX_of F g sc_L_q (fun ds s h => by obtain ⟨_, rfl, _⟩ := h; rfl) (fun _ _ _ _ _ _ us hl => match us, hl with | [_], _ => rfl) ?_
  rintro cdv A outer s H E hr l ds st ⟨k, rfl, hk, hp⟩
  have nd := sc_L_q.nd
  refine ss_cons (xs_ret (x_call 0 K2 hr (xa_cons (x_lst (xa_cons (x_pure d_int (xa_cons (x_pure d_int (xa_cons (x_pure d_int (xa_cons (x_pure d_int (xa_cons (x_pure d_int (xa_cons (x_pure d_int (xa_cons (x_addL d_int (x_call 0 K1 hr (xa_pure (a_cons d_int a_nil) ⟨_, _, _, rfl, .pu l _, ⟨63, k, rfl, by omega, by omega, by omega, hp⟩, fun s' d post => ?_⟩))))))))))))))))))))
  obtain ⟨p1, v, rfl, v0, v1⟩ := post 63 k rfl hp
  refine ⟨v, rfl, xa_nil ⟨Nat.le_of_ble_eq_true rfl, xa_nil ⟨_, _, _, rfl, .pu l _, ⟨_, k + 1, rfl, List.cons_ne_nil _ _, Nat.le_of_ble_eq_true rfl, by omega, p1⟩, fun s2 d2 post2 => ⟨s2, rfl, fun k' hp' => ?_⟩⟩⟩⟩
  obtain ⟨a1, _, _⟩ := post 63 k' rfl hp'
  obtain ⟨b1, b2⟩ := post2 _ (k' + 1) rfl a1
  refine ⟨b1, ?_⟩
  have key : ∀ q : Int, 2 ≤ q → q ≤ 64 → ∃ q' : Int, D.int q = .int q' ∧ 2 ≤ q' ∧ q' ≤ 64 := fun q a b => ⟨q, rfl, a, b⟩
  simp only [List.mem_cons, List.not_mem_nil, or_false] at b2
  rcases b2 with rfl | rfl | rfl | rfl | rfl | rfl | rfl
  all_goals exact key _ (by omega) (by omega)
theorem sc_L_dear : FnScope ["_law_purse_here", "_law_top", "_law_found", "_law_turn", "_law_great", "_law_small", "_law_times"] ["_law_purse_here", "_law_top"] (defScope (top 113)) := ⟨rfl, rfl, rfl, by decide +kernel, rfl, by decide +kernel, by decide +kernel⟩
def Pre_dear : List D → List D → Prop := fun ds s => ∃ (top : Int) (k : Nat), ds = [.int top] ∧ 1 ≤ top ∧ top ≤ 20 ∧ k < 100000 ∧ Pu k s
def Post_dear : List D → List D → List D → D → Prop := fun ds s s' d => ∀ (top : Int) (k : Nat), ds = [.int top] → 1 ≤ top → Pu k s → Pu (k + 4) s' ∧ ∃ dds, d = .lst (dds.map dDd) ∧ DearOk top dds
theorem ok_L_dear (T : Tx mg) (F : FnT K mg 113 "_law_dear") (K1 : KnX P w K mg base "_law_penny" 1 Pre_penny Post_penny) : KnX P w K mg base "_law_dear" 2 Pre_dear Post_dear := by
  obtain ⟨f, fd, F, g⟩ := F
  refine knX_of F g sc_L_dear (fun ds s h => by obtain ⟨_, _, rfl, _⟩ := h; rfl) (fun _ _ _ _ _ _ us hl => match us, hl with | [_, _], _ => rfl) ?_
  rintro cdv A outer s H E hr l ds st ⟨top', k, rfl, t1, t2, hk, hp⟩
  have nd := sc_L_dear.nd
  refine ss_cons (xs_par3 4 5 6 nd (xa_cons (x_addL d_int (x_call 0 K1 hr (xa_pure (a_cons (d_var 1) a_nil) ⟨_, _, _, rfl, .pu l _, ⟨top', k, rfl, by omega, by omega, by omega, hp⟩, fun s1 d1 post1 => ?_⟩)))))
  obtain ⟨p1, v1, rfl, v10, v11⟩ := post1 top' k rfl hp
  have m1 : 1 ≤ (if top' / 4 > 1 then top' / 4 else 1) ∧ (if top' / 4 > 1 then top' / 4 else 1) ≤ top' := by split <;> omega
  refine ⟨v1, rfl, xa_cons (x_addL d_int (x_call 0 K1 hr (xa_pure (a_cons (d_max2 T.max d_int (d_fdiv (d_var 1) d_int ⟨by omega, by omega⟩)) a_nil) ⟨_, _, _, rfl, .pu l _, ⟨_, k + 1, rfl, by omega, by omega, by omega, p1⟩, fun s2 d2 post2 => ?_⟩)))⟩
  obtain ⟨p2, v2, rfl, v20, v21⟩ := post2 _ (k + 1) rfl p1
  refine ⟨v2, rfl, xa_cons (x_addL d_int (x_call 0 K1 hr (xa_pure (a_cons d_int a_nil) ⟨_, _, _, rfl, .pu l _, ⟨4, k + 1 + 1, rfl, by omega, by omega, by omega, p2⟩, fun s3 d3 post3 => ?_⟩)))⟩
  obtain ⟨p3, v3, rfl, v30, v31⟩ := post3 4 (k + 1 + 1) rfl p2
  refine ⟨v3, rfl, xa_nil ⟨rfl, ?_⟩⟩
  have tn : (1 + v3).toNat ≤ 4 := by omega
  refine ss_cons (s_own 2 nd (f_rep (DF.de (f_lst (a_cons (d_tup (a_cons d_str (a_cons (d_var 4) a_nil))) a_nil))) (d_var 6) (by omega) (by omega) ?_) ?_)
  · simp only [List.length_cons, List.length_nil]; exact ln16 (by omega)
  refine ss_cons (xs_forR T.range (x_addL d_int (x_call 0 K1 hr (xa_pure (a_cons d_int a_nil) ⟨_, _, _, rfl, .pu l _, ⟨12, k + 1 + 1 + 1, rfl, by omega, by omega, by omega, p3⟩, fun s4 d4 post4 => ?_⟩))) (g_nm 3 nd))
  obtain ⟨p4, v4, rfl, v40, v41⟩ := post4 12 (k + 1 + 1 + 1) rfl p3
  refine ⟨v4, rfl, 4 + v4, rfl, by omega, by omega, fun i ρ => ∃ (e3 : Option Sl) (fs : List D), ρ = [some (.pu l s4), some (.val (.int top')), some (.ml fs), e3, some (.val (.int (1 + v1))), some (.val (.int (1 + v2))), some (.val (.int (1 + v3)))] ∧ fs = (dearM (1 + v1) (1 + v2) (1 + v3) i).map dDd, ?_, ?_, ?_⟩
  · refine ⟨_, _, rfl, ?_⟩
    rw [rep_flat]
    unfold dearM
    rw [List.map_append, List.map_replicate]
    simp
  · rintro i ρ hi ⟨e3, fs, rfl, hf⟩
    have fl : fs.length ≤ 100 := by rw [hf, List.length_map, dearM_len]; omega
    refine ⟨_, rfl, ?_⟩
    refine ss_cons (s_extend 2 (DF.de (f_lst (a_cons (d_tup (a_cons d_str (a_cons (d_var 5) a_nil))) (a_cons (d_tup (a_cons d_str (a_cons (d_add (d_var 6) (d_var 3)) a_nil))) a_nil)))) (ss_nil ⟨_, _, rfl, ?_⟩) ?_)
    · rw [hf, dearM_succ, List.map_append]
      congr 1
      show [D.tup [.str "put", .int (1 + v2)], D.tup [.str "drop", .int (1 + v3 + (0 + (i : Int)))]] = [D.tup [.str "put", .int (1 + v2)], D.tup [.str "drop", .int (1 + v3 + (i : Int))]]
      rw [Int.zero_add]
    · simp only [List.length_cons, List.length_nil]; exact ln16 (by omega)
  · rintro ρ ⟨e3, fs, rfl, hf⟩
    refine ss_frz 2 (ss_cons (s_rete (d_var 2) ⟨s4, rfl, fun top2 k2 et _ hp2 => ?_⟩))
    cases et
    obtain ⟨q1, w1, e1, _⟩ := post1 top' k2 rfl hp2
    obtain ⟨q2, w2, e2, _⟩ := post2 _ (k2 + 1) rfl q1
    obtain ⟨q3, w3, e3', _⟩ := post3 4 (k2 + 1 + 1) rfl q2
    obtain ⟨q4, w4, e4, _⟩ := post4 12 (k2 + 1 + 1 + 1) rfl q3
    exact ⟨q4, _, by rw [hf], ⟨_, _, _, _, rfl, by omega, by omega, by omega, by omega, by omega, by omega, by omega⟩⟩
end
end K76
set_option maxRecDepth 100000
set_option maxHeartbeats 4000000
namespace K76
open PySem PySem.Spec PyProof.Rows L2
/-- c pennies later -/
def Tk (c : Nat) (s t : List D) : Prop := ∀ k, Pu k s → Pu (k + c) t
theorem Tk.refl (s : List D) : Tk 0 s s := fun _ h => h
theorem Tk.trans {a b : Nat} {s t u : List D} (h : Tk a s t) (g : Tk b t u) : Tk (a + b) s u := fun k hk => by
  have := g _ (h k hk)
  rwa [Nat.add_assoc] at this
theorem Tk.mono {a b : Nat} {s t : List D} (h : Tk a s t) (hab : a ≤ b) : Tk b s t := fun k hk => (h k hk).mono (by omega)
theorem tk_penny {m : Int} {s t : List D} {d : D} (h : Post_penny [.int m] s t d) : Tk 1 s t := fun k hk => (h m k rfl hk).1
theorem tk_one {xs : List D} {s t : List D} {d : D} (h : Post_one [.lst xs] s t d) : Tk 1 s t := fun k hk => (h xs k rfl hk).1
theorem run2_snoc {q N : Int} {dds : List Dd} {d : Dd} (R : Run2 q N dds) (D : DeedOk (stAt q dds dds.length).2 d) (hz : ∀ z, d = .put z → z ≤ N) : Run2 q N (dds ++ [d]) := by
  intro i e h
  have hi := (List.getElem?_eq_some_iff.mp h).1
  rw [List.length_append, List.length_cons, List.length_nil] at hi
  by_cases hl : i < dds.length
  · rw [List.getElem?_append_left hl] at h
    have := R i e h
    unfold stAt at this ⊢
    rw [List.take_append_of_le_length (Nat.le_of_lt hl)]
    exact this
  · have : i = dds.length := by omega
    subst this
    rw [List.getElem?_append_right (Nat.le_refl _), Nat.sub_self] at h
    cases h
    unfold stAt at D ⊢
    rw [List.take_append_of_le_length (Nat.le_refl _)]
    exact ⟨D, hz⟩
theorem stAt_snoc {q : Int} {dds : List Dd} {d : Dd} : stAt q (dds ++ [d]) (dds ++ [d]).length = stepS q (stAt q dds dds.length) d := by
  unfold stAt
  rw [List.take_length, List.take_length, List.foldl_append]; rfl
theorem eqD_prs (ps : List (Int × Int)) : eqD (.lst (ps.map dPr)) (.lst []) = ps.isEmpty := by
  cases ps with
  | nil => simp [eqD, toPy, toPys, PyData.eqv, PyData.eqvAll]
  | cons c cs => simp [eqD, toPy, toPys, PyData.eqv, PyData.eqvAll]
def SizesOk (top : Int) (d : D) : Prop := ∃ zs : List Int, d = .lst (zs.map D.int) ∧ zs ≠ [] ∧ zs.length ≤ 5 ∧ ∀ z ∈ zs, 1 ≤ z ∧ z ≤ top
section
variable {P : Program} {w : World} {K : PySem.W.Frag} {mg : Str → Option Value} {base : Heap}
theorem sc_L_deeds : FnScope ["_law_purse_here", "_law_q_here", "_law_many", "_law_top", "_law_sizes", "_law_turn", "_law_puts", "_law_regions", "_law_found", "_law_files_here", "_law_deed"] ["_law_purse_here", "_law_q_here", "_law_many", "_law_top"] (defScope (top 112)) := ⟨rfl, rfl, rfl, by decide +kernel, rfl, by decide +kernel, by decide +kernel⟩
def Pre_deeds : List D → List D → Prop := fun ds s => ∃ (q many tp : Int) (k : Nat), ds = [.int q, .int many, .int tp] ∧ 2 ≤ q ∧ q ≤ 64 ∧ 0 ≤ many ∧ many ≤ 60 ∧ 1 ≤ tp ∧ tp ≤ 20 ∧ k < 100000 ∧ Pu k s
def Post_deeds : List D → List D → List D → D → Prop := fun ds s s' d => ∀ (q many tp : Int), ds = [.int q, .int many, .int tp] → Tk 200 s s' ∧ ∃ dds, d = .lst (dds.map dDd) ∧ Run2 q tp dds ∧ dds.length ≤ 60
theorem ok_L_deeds (T : Tx mg) (F : FnT K mg 112 "_law_deeds") (K1 : KnX P w K mg base "_law_penny" 1 Pre_penny Post_penny) (K2 : KnX P w K mg base "_law_one" 2 Pre_one Post_one) (K3 : Kn P w K mg base "_law_files" 1 R_Lfiles) (K4 : Kn P w K mg base "_law_done" 3 R_Ldone) : KnX P w K mg base "_law_deeds" 4 Pre_deeds Post_deeds := by
  obtain ⟨f, fd, F, g⟩ := F
  refine knX_of F g sc_L_deeds (fun ds s h => by obtain ⟨_, _, _, _, rfl, _⟩ := h; rfl) (fun _ _ _ _ _ _ us hl => match us, hl with | [_, _, _, _], _ => rfl) ?_
  rintro cdv A outer s H E hr l ds st ⟨q, many, tp, k, rfl, q1, q2, m0, m1, t1, t2, hk, hp⟩
  have nd := sc_L_deeds.nd
  refine ss_cons (s_par3 6 7 8 nd (ls_cons (l_val d_int) (ls_cons (l_val (d_tup a_nil)) (ls_cons (l_own (f_lst a_nil)) ls_nil))) ?_)
  refine ss_cons (xs_set 4 nd (x_call 0 K2 hr (xa_cons (x_lst (xa_cons (x_pure (DF.de (f_lst (a_cons d_int (a_cons (d_min2 T.min d_int (d_var 3)) (a_cons (d_min2 T.min d_int (d_var 3)) a_nil))))) (xa_cons (x_pure (DF.de (f_lst (a_cons d_int (a_cons d_int (a_cons (d_min2 T.min d_int (d_var 3)) a_nil))))) (xa_cons (x_lc (xs := List.range (5 : Int).toNat) (enc := fun i => .int (0 + (i : Nat))) (p := .nm 5) 0 (.pu l st) (fun i t out => i ≤ 5 ∧ Tk i st t ∧ out.length = i ∧ ∃ zs : List Int, out = zs.map D.int ∧ ∀ z ∈ zs, 1 ≤ z ∧ z ≤ tp) [("_law_turn", 5)] nd (i_range1 T.range d_int (by decide) (by decide)) (blkOk_by (by kernel_rfl)) (fun _ _ _ _ _ => g_nm 5 nd) (by decide) ⟨by omega, Tk.refl st, rfl, [], rfl, fun z hz => nomatch hz⟩ (fun i x t out hx hI => ?_) (fun t out hI => ?_) (fun i t out hI => ?_)))))))))))
  · obtain ⟨_, ht, hol, zs, rfl, hz⟩ := hI
    have hi : i < 5 := by
      have := (List.getElem?_eq_some_iff.mp hx).1
      rw [List.length_range] at this
      exact this
    refine ⟨_, rfl, fun _ _ _ _ _ => x_addL d_int (x_call 0 K1 hr (xa_pure (a_cons (d_var 3) a_nil) ⟨_, _, _, rfl, .pu l _, ⟨tp, k + i, rfl, by omega, by omega, by omega, ht k hp⟩, fun s' d post => ?_⟩))⟩
    obtain ⟨_, v, rfl, v0, v1⟩ := post tp (k + i) rfl (ht k hp)
    refine ⟨v, rfl, s', rfl, hi, ht.trans (tk_penny post), by rw [List.length_append, hol]; rfl, zs ++ [1 + v], by rw [List.map_append]; rfl, fun z hz' => ?_⟩
    rcases List.mem_append.mp hz' with h | h
    · exact hz z h
    · rw [List.mem_singleton.mp h]; omega
  · obtain ⟨_, ht, hol, zs, rfl, hz⟩ := hI
    have hzl : zs.length = 5 := by rw [List.length_map, List.length_range] at hol; exact hol
    have ht5 : Tk 5 st t := ht
    refine xa_cons (x_pure (DF.de (f_lst (a_cons (d_var 3) (a_cons (d_add d_int (d_fdiv (d_var 3) d_int ⟨by omega, by omega⟩)) (a_cons d_int a_nil))))) (xa_nil ⟨Nat.le_of_ble_eq_true rfl, xa_nil ⟨_, _, _, rfl, .pu l _, ⟨_, k + 5, rfl, List.cons_ne_nil _ _, Nat.le_of_ble_eq_true rfl, by omega, ht5 k hp⟩, fun s' d post => ?_⟩⟩))
    have hd := (post _ (k + 5) rfl (ht5 k hp)).2
    have tk6 : Tk 6 st s' := ht5.trans (tk_one post)
    have hsz : SizesOk tp d := by
      have mn : ∀ c : Int, 1 ≤ c → 1 ≤ (if tp < c then tp else c) ∧ (if tp < c then tp else c) ≤ tp := fun c hc => by split <;> omega
      simp only [List.mem_cons, List.not_mem_nil, or_false] at hd
      rcases hd with rfl | rfl | rfl | rfl
      · refine ⟨[1, if tp < 2 then tp else 2, if tp < 3 then tp else 3], rfl, List.cons_ne_nil _ _, Nat.le_of_ble_eq_true rfl, fun z hz => ?_⟩
        simp only [List.mem_cons, List.not_mem_nil, or_false] at hz
        rcases hz with rfl | rfl | rfl
        · omega
        · exact mn 2 (by omega)
        · exact mn 3 (by omega)
      · refine ⟨[1, 1, if tp < 4 then tp else 4], rfl, List.cons_ne_nil _ _, Nat.le_of_ble_eq_true rfl, fun z hz => ?_⟩
        simp only [List.mem_cons, List.not_mem_nil, or_false] at hz
        rcases hz with rfl | rfl | rfl
        · omega
        · omega
        · exact mn 4 (by omega)
      · exact ⟨zs, rfl, (fun e => by rw [e] at hzl; cases hzl), by omega, hz⟩
      · refine ⟨[tp, 1 + tp / 2, 1], rfl, List.cons_ne_nil _ _, Nat.le_of_ble_eq_true rfl, fun z hz => ?_⟩
        simp only [List.mem_cons, List.not_mem_nil, or_false] at hz
        rcases hz with rfl | rfl | rfl <;> omega
    obtain ⟨sz, rfl, sz0, szl, szb⟩ := hsz
    clear hd post
    refine ss_cons (s_for (xs := List.range many.toNat) (enc := fun i => .int (0 + (i : Nat))) (p := .nm 5) (i_range1 T.range (d_var 2) (by omega) (by omega)) (g_nm 5 nd)
      (fun i ρ => ∃ (e5 e9 e10 : Option Sl) (u : List D) (dds : List Dd) (fs : List D) (a : Int × List Rg), ρ = [some (.pu l u), some (.val (.int q)), some (.val (.int many)), some (.val (.int tp)), some (.val (.lst (sz.map D.int))), e5, some (.val (.int a.1)), some (.val (dGs a.2)), some (.ml fs), e9, e10] ∧ fs = dds.map dDd ∧ a = stAt q dds dds.length ∧ dds.length = i ∧ Run2 q tp dds ∧ Tk (6 + 3 * i) st u) ?_ ?_ ?_)
    · exact ⟨_, _, _, _, [], _, (0, []), rfl, rfl, rfl, rfl, fun i d h => by simp at h, tk6⟩
    · rintro i x ρ hx ⟨e5, e9, e10, u, dds, fs, a, rfl, hf, ha, hdl, hR, htk⟩
      have hi : i < many.toNat := by
        have := (List.getElem?_eq_some_iff.mp hx).1
        rw [List.length_range] at this
        exact this
      have HH : HisA q tp dds := ⟨hR, q1, q2, by omega, by omega⟩
      have I := HH.inv (Nat.le_refl dds.length)
      have IL : Lawful q a.1 a.2 := by rw [ha]; exact I.L
      have G := IL.gs
      have il : (allT a.2).length ≤ dds.length := by rw [ha]; exact I.len
      have fl : fs.length ≤ 100 := by rw [hf, List.length_map]; omega
      refine ⟨_, rfl, ?_⟩
      generalize hKK : loopK _ _ = KK
      have tl : ∀ (d : Dd) (u2 : List D) (c : Nat), Tk c u u2 → c ≤ 3 → DeedOk a.2 d → (∀ z, d = .put z → z ≤ tp) → DSs (Cxf P w K mg base ["_law_purse_here", "_law_q_here", "_law_many", "_law_top", "_law_sizes", "_law_turn", "_law_puts", "_law_regions", "_law_found", "_law_files_here", "_law_deed"] "_law_deeds" (defScope (top 112)) f cdv A outer s H E) ((forBody (defBody (top 112)) 2).drop 3)
          [some (.pu l u2), some (.val (.int q)), some (.val (.int many)), some (.val (.int tp)), some (.val (.lst (sz.map D.int))), some (.val (.int (0 + (x : Nat)))), some (.val (.int a.1)), some (.val (dGs a.2)), some (.ml fs), some (.val (.lst ((pairsW .file (allT a.2)).map dPr))), some (.val (dDd d))] KK := fun d u2 c htk2 hc hD hz => by
        have hso := size_ok IL hD
        subst hKK
        refine ss_cons (s_set 7 nd (d_call K4 hr (a_cons (d_var 1) (a_cons (d_var 6) (a_cons (d_var 7) (a_cons (d_var 10) a_nil)))) ⟨q, a.1, a.2, d, rfl, q1, q2, ⟨G, by omega, hso.1, hso.2⟩, rfl⟩) ?_)
        refine ss_cons (s_set 6 nd (d := .int (newN a.1 d)) ?_ ?_)
        · cases d with
          | put z => exact DE.eq (d_add (d_var 6) (d_intB T.int (d_eqS (d_ix (d_var 10) (.tup _)) d_str))) rfl
          | drop z => exact DE.eq (d_add (d_var 6) (d_intB T.int (d_eqS (d_ix (d_var 10) (.tup _)) d_str))) (by show D.int (a.1 + 0) = D.int a.1; rw [Int.add_zero])
        · refine ss_cons (s_append 8 (d_var 10) (ss_nil ⟨_, _, _, _, dds ++ [d], _, stepS q a d, rfl, ?_, ?_, ?_, run2_snoc hR (by rw [← ha]; exact hD) hz, (htk.trans htk2).mono (by omega)⟩) (Nat.lt_of_le_of_lt fl (by decide)))
          · rw [hf, List.map_append]; rfl
          · rw [stAt_snoc, ← ha]
          · rw [List.length_append, hdl]; rfl
      refine ss_cons (s_set 9 nd (d_call K3 hr (a_cons (d_var 7) a_nil) ⟨a.2, rfl, G, rfl⟩) ?_)
      have hpu := htk k hp
      refine ss_cons (xs_set 10 nd (x_tup (xa_cons (x_pure d_str (xa_cons (x_call 0 K2 hr (xa_pure (a_cons (d_var 4) a_nil) ⟨_, _, _, rfl, .pu l _, ⟨_, k + (6 + 3 * i), rfl, fun e => sz0 (List.map_eq_nil_iff.mp e), by rw [List.length_map]; omega, by omega, hpu⟩, fun s1 d1 post1 => ?_⟩)))))))
      obtain ⟨hp1, hd1⟩ := post1 _ _ rfl hpu
      have tk1 := tk_one post1
      obtain ⟨z, hz, rfl⟩ := List.mem_map.mp hd1
      refine xa_nil ⟨Nat.le_of_ble_eq_true rfl, ?_⟩
      have fl2 : (pairsW .file (allT a.2)).length ≤ 200 := by have := pairsW_len .file (allT a.2); omega
      refine ss_cons (xs_if (xw_t (xw_and (t_neD hr (d_var 9) (DF.de (f_lst a_nil)) (cmp_lst _ fun p _ => plain_pr p) cmp_nilL) (fun hb => xw_and1 (xt_lt (x_call 0 K1 hr (xa_pure (a_cons d_int a_nil) ⟨_, _, _, rfl, .pu l _, ⟨5, _, rfl, by omega, by omega, by omega, hp1⟩, fun s2 d2 post2 => ?_⟩)))) (fun hb => ?_))))
      · rw [eqD_prs] at hb
        have hne : pairsW .file (allT a.2) ≠ [] := fun e => by rw [e] at hb; cases hb
        obtain ⟨hp2, v, rfl, _, _⟩ := post2 5 _ rfl hp1
        have tk2 := tk1.trans (tk_penny post2)
        refine ⟨v, 2, rfl, d_int, ?_⟩
        by_cases hv : v < 2
        · rw [decide_eq_true hv, if_pos rfl]
          refine ss_cons (xs_set 10 nd (x_tup (xa_cons (x_pure d_str (xa_cons (x_ix (x_call 0 K2 hr (xa_pure (a_cons (d_var 9) a_nil) ⟨_, _, _, rfl, .pu l _, ⟨_, _, rfl, fun e => hne (List.map_eq_nil_iff.mp e), by rw [List.length_map]; omega, by omega, hp2⟩, fun s3 d3 post3 => ?_⟩))))))))
          obtain ⟨_, hd3⟩ := post3 _ _ rfl hp2
          obtain ⟨p, hpm, rfl⟩ := List.mem_map.mp hd3
          refine x_pure d_int ⟨0, _, .int p.1, rfl, .tup _, rfl, xa_nil ⟨Nat.le_of_ble_eq_true rfl, ?_⟩⟩
          exact ss_nil (tl (.drop p.1) _ 3 (tk2.trans (tk_one post3)) (Nat.le_refl _) (List.mem_map.mpr ⟨p, hpm, rfl⟩) fun z hz => nomatch hz)
        · rw [decide_eq_false hv, if_neg Bool.false_ne_true]
          exact ss_nil (tl (.put z) _ 2 tk2 (by omega) ⟨(szb z hz).1, by have := (szb z hz).2; omega⟩ fun z' hz' => by cases hz'; exact (szb z hz).2)
      · rw [if_neg Bool.false_ne_true]
        exact ss_nil (tl (.put z) _ 1 tk1 (by omega) ⟨(szb z hz).1, by have := (szb z hz).2; omega⟩ fun z' hz' => by cases hz'; exact (szb z hz).2)
    · rintro ρ ⟨e5, e9, e10, u, dds, fs, a, rfl, hf, ha, hdl, hR, htk⟩
      rw [List.length_range] at hdl htk
      subst hf
      refine ss_frz 8 (ss_cons (s_rete (d_var 8) ⟨u, rfl, fun q' many' tp' e => ?_⟩))
      cases e
      exact ⟨htk.mono (by omega), dds, rfl, hR, by omega⟩
  · obtain ⟨h5, _, hol, _⟩ := hI
    rw [hol]
    omega
end
end K76
set_option maxRecDepth 100000
namespace K76
open PySem
/-! ### the law's way to a list that keeps the rules -/
def candB (l : List Int) (i : Nat) : List Int := ((l.drop i).take 2) ++ (List.range i).map fun p => (l[p]?).getD 0 + (l[i - p - 1]?).getD 0
def leastB (l : List Int) (i : Nat) : Int := minI ((l[i]?).getD 0) (candB l i)
def stepP (a : List Int × Bool) (i : Nat) : List Int × Bool := (a.1.set i (leastB a.1 i), a.2 || decide (leastB a.1 i < (a.1[i]?).getD 0))
def passB (l : List Int) : List Int × Bool := (List.range l.length).foldl stepP (l, false)
def passN : Nat → List Int → List Int
  | 0, l => l
  | n + 1, l => passN n (passB l).1
def belowL (ns : List Int) : List Int := passN (ns.sum + 1).toNat ns
theorem leastB_le (l : List Int) (i : Nat) : leastB l i ≤ (l[i]?).getD 0 ∧ ∀ x ∈ candB l i, leastB l i ≤ x := ⟨(minI_le _ _).1, (minI_le _ _).2.1⟩
theorem head_cand {l : List Int} {i : Nat} (h : i < l.length) : l[i] ∈ candB l i := by
  unfold candB
  refine List.mem_append_left _ ?_
  rw [List.drop_eq_getElem_cons h]
  exact List.mem_cons_self
theorem leastB_mem {l : List Int} {i : Nat} (h : i < l.length) : leastB l i ∈ candB l i := by
  rcases (minI_le ((l[i]?).getD 0) (candB l i)).2.2 with e | e
  · have : leastB l i = l[i] := by
      show minI _ _ = _
      rw [e, List.getElem?_eq_getElem h]; rfl
    rw [this]; exact head_cand h
  · exact e
theorem cand_pos {l : List Int} (hp : ∀ x ∈ l, 1 ≤ x) {i : Nat} (h : i < l.length) : ∀ x ∈ candB l i, 1 ≤ x := by
  intro x hx
  unfold candB at hx
  rcases List.mem_append.mp hx with hx | hx
  · exact hp x (List.mem_of_mem_drop (List.mem_of_mem_take hx))
  · obtain ⟨p, hpr, rfl⟩ := List.mem_map.mp hx
    rw [List.mem_range] at hpr
    rw [List.getElem?_eq_getElem (by omega), List.getElem?_eq_getElem (by omega)]
    have a := hp l[p] (List.getElem_mem _)
    have b := hp (l[i - p - 1]'(by omega)) (List.getElem_mem _)
    show 1 ≤ l[p] + l[i - p - 1]
    omega
theorem sum_set : ∀ (l : List Int) (i : Nat) (v : Int) (h : i < l.length), (l.set i v).sum = l.sum - l[i] + v
  | x :: l, 0, v, h => by simp only [List.set_cons_zero, List.sum_cons, List.getElem_cons_zero]; omega
  | x :: l, i + 1, v, h => by
    have := sum_set l i v (by simpa using h)
    simp only [List.set_cons_succ, List.sum_cons, List.getElem_cons_succ]; omega
/-- what holds after k steps of a pass -/
structure PassI (l : List Int) (k : Nat) (a : List Int × Bool) : Prop where
  len : a.1.length = l.length
  pos : ∀ x ∈ a.1, 1 ≤ x
  no : a.2 = false → a.1 = l ∧ ∀ i, i < k → leastB l i = (l[i]?).getD 0
  yes : a.2 = true → a.1.sum < l.sum
  le : a.1.sum ≤ l.sum
  hi : ∀ B, (∀ x ∈ l, x ≤ B) → ∀ x ∈ a.1, x ≤ B
theorem pass_inv {l : List Int} (hp : ∀ x ∈ l, 1 ≤ x) : ∀ k, k ≤ l.length → PassI l k ((List.range k).foldl stepP (l, false))
  | 0, _ => ⟨rfl, hp, fun _ => ⟨rfl, fun i h => absurd h (Nat.not_lt_zero i)⟩, fun h => (nomatch h), Int.le_refl _, fun B h => h⟩
  | k + 1, hk => by
    have I := pass_inv hp k (by omega)
    rw [List.range_succ, List.foldl_append]
    generalize (List.range k).foldl stepP (l, false) = a at I
    show PassI l (k + 1) (stepP a k)
    have hka : k < a.1.length := by rw [I.len]; omega
    have hm := leastB_mem hka
    have hl := (leastB_le a.1 k).1
    rw [List.getElem?_eq_getElem hka] at hl
    have hl : leastB a.1 k ≤ a.1[k] := hl
    have hs := sum_set a.1 k (leastB a.1 k) hka
    have e2 : (stepP a k).2 = (a.2 || decide (leastB a.1 k < a.1[k])) := by unfold stepP; rw [List.getElem?_eq_getElem hka]; rfl
    have e1 : (stepP a k).1 = a.1.set k (leastB a.1 k) := rfl
    refine ⟨by rw [e1, List.length_set]; exact I.len, fun x hx => ?_, fun h => ?_, fun h => ?_, by rw [e1, hs]; have := I.le; omega, fun B hB x hx => ?_⟩
    · rw [e1] at hx
      rcases List.mem_or_eq_of_mem_set hx with h | h
      · exact I.pos x h
      · rw [h]; exact cand_pos I.pos hka _ hm
    · rw [e2, Bool.or_eq_false_iff] at h
      obtain ⟨h1, h2⟩ := h
      obtain ⟨g1, g2⟩ := I.no h1
      have h3 : leastB a.1 k = a.1[k] := by have := of_decide_eq_false h2; omega
      have e3 : a.1.set k (leastB a.1 k) = a.1 := by rw [h3, List.set_getElem_self]
      refine ⟨by rw [e1, e3]; exact g1, fun i hi => ?_⟩
      by_cases e : i = k
      · subst e
        have h4 : leastB a.1 i = (a.1[i]?).getD 0 := by rw [List.getElem?_eq_getElem hka]; exact h3
        rw [g1] at h4
        exact h4
      · exact g2 i (by omega)
    · rw [e1, hs]
      rw [e2, Bool.or_eq_true] at h
      rcases h with h | h
      · have := I.yes h; omega
      · have := of_decide_eq_true h
        have := I.le
        omega
    · rw [e1] at hx
      rcases List.mem_or_eq_of_mem_set hx with h | h
      · exact I.hi B hB x h
      · have := I.hi B hB a.1[k] (List.getElem_mem _)
        omega
theorem passN_succ (n : Nat) (l : List Int) : passN (n + 1) l = (passB (passN n l)).1 := by
  induction n generalizing l with
  | zero => rfl
  | succ n ih => rw [passN, ih]; rfl
theorem passN_add (n m : Nat) (l : List Int) : passN (n + m) l = passN m (passN n l) := by
  induction m with
  | zero => rfl
  | succ m ih => rw [Nat.add_succ, passN_succ, ih, passN_succ]
theorem passN_fix {l : List Int} (h : (passB l).1 = l) : ∀ n, passN n l = l
  | 0 => rfl
  | n + 1 => by rw [passN, h, passN_fix h n]
theorem stable_of {l : List Int} (h : ∀ i, i < l.length → leastB l i = (l[i]?).getD 0) : Stable l := by
  refine ⟨fun i hi => ?_, fun i p hi hp => ?_⟩
  · have h1 := h i (by omega)
    rw [List.getElem?_eq_getElem (by omega)] at h1
    have h2 := (leastB_le l i).2 l[i + 1] (by
      unfold candB
      refine List.mem_append_left _ ?_
      rw [List.drop_eq_getElem_cons (by omega), List.drop_eq_getElem_cons hi]
      exact List.mem_cons_of_mem _ List.mem_cons_self)
    rw [h1] at h2
    exact h2
  · have h1 := h i hi
    rw [List.getElem?_eq_getElem hi] at h1
    have h2 := (leastB_le l i).2 (l[p] + l[i - p - 1]) (by
      unfold candB
      refine List.mem_append_right _ (List.mem_map.mpr ⟨p, List.mem_range.mpr hp, ?_⟩)
      rw [List.getElem?_eq_getElem (by omega), List.getElem?_eq_getElem (by omega)]; rfl)
    rw [h1] at h2
    exact h2
theorem sum_nn : ∀ {l : List Int}, (∀ x ∈ l, 1 ≤ x) → 0 ≤ l.sum
  | [], _ => Int.le_refl _
  | x :: l, h => by
    have := sum_nn fun y hy => h y (List.mem_cons_of_mem x hy)
    have := h x List.mem_cons_self
    rw [List.sum_cons]; omega
/-- the loop ends at belowL -/
theorem below_end {ns : List Int} {j : Nat} (h : (passB (passN j ns)).1 = passN j ns) (hj : (j : Int) ≤ ns.sum + 1) : passN j ns = belowL ns := by
  unfold belowL
  have e : (ns.sum + 1).toNat = j + ((ns.sum + 1).toNat - j) := by omega
  rw [e, passN_add, passN_fix h]
/-- after each turn -/
structure BelI (ns : List Int) (j : Nat) (l : List Int) (b : Bool) : Prop where
  eq : l = passN j ns
  len : l.length = ns.length
  pos : ∀ x ∈ l, 1 ≤ x
  yes : b = true → (j : Int) + l.sum ≤ ns.sum
  no : b = false → passB l = (l, false) ∧ (j : Int) ≤ ns.sum + 1
  hi : ∀ B, (∀ x ∈ ns, x ≤ B) → ∀ x ∈ l, x ≤ B
theorem bel_0 {ns : List Int} (hp : ∀ x ∈ ns, 1 ≤ x) : BelI ns 0 ns true := ⟨rfl, rfl, hp, fun _ => by omega, fun h => (nomatch h), fun B h => h⟩
theorem bel_step {ns : List Int} {j : Nat} {l : List Int} (B : BelI ns j l true) : BelI ns (j + 1) (passB l).1 (passB l).2 ∧ ((passB l).2 = true → (passB l).1.sum < l.sum) := by
  have I := pass_inv B.pos l.length (Nat.le_refl _)
  have hy := B.yes rfl
  have hs := sum_nn B.pos
  refine ⟨⟨by rw [passN_succ, ← B.eq], I.len.trans B.len, I.pos, fun h => ?_, fun h => ?_, fun C hC => I.hi C (B.hi C hC)⟩, fun h => I.yes h⟩
  · have := I.yes h
    show ((j + 1 : Nat) : Int) + ((List.range l.length).foldl stepP (l, false)).1.sum ≤ _
    omega
  · obtain ⟨e, _⟩ := I.no h
    have e : (passB l).1 = l := e
    refine ⟨?_, by omega⟩
    rw [e]
    exact Prod.ext e h
theorem bel_end {ns : List Int} {j : Nat} {l : List Int} (B : BelI ns j l false) : l = belowL ns ∧ TabOkP l := by
  obtain ⟨e, hj⟩ := B.no rfl
  have e1 : (passB l).1 = l := by rw [e]
  refine ⟨?_, ?_⟩
  · have := below_end (ns := ns) (j := j) (by rw [← B.eq]; exact e1) hj
    rw [← B.eq] at this; exact this
  · have I := pass_inv B.pos l.length (Nat.le_refl _)
    have h2 : (passB l).2 = false := by rw [e]
    exact tab_stable (fun i h => by have := B.pos l[i] (List.getElem_mem _); omega) (stable_of (I.no h2).2)
/-! ### the drawn tables -/
structure TabA (N : Int) (t : List Int) : Prop where
  len : (t.length : Int) = N
  pos : ∀ x ∈ t, 1 ≤ x
  hi : ∀ x ∈ t, x ≤ 2000000000
  ok : TabOkP t
/-- the law's dear histories may be done -/
def LiveFrom (N : Int) : Int → List (Int × Int) → List Dd → Prop
  | _, _, [] => True
  | n, fs, .put z :: ds => 1 ≤ z ∧ z ≤ N ∧ LiveFrom N (n + 1) ((n, z) :: fs) ds
  | n, fs, .drop s :: ds => s ∈ fs.map (·.1) ∧ LiveFrom N n (fs.filter fun p => !decide (p.1 = s)) ds
theorem live_run {q N : Int} (q0 : 0 < q) (hN : N ≤ 4096) : ∀ (ds : List Dd) (n : Int) (gs : List Rg) (fs : List (Int × Int)), Lawful q n gs → 0 ≤ n → (allT gs).length + ds.length ≤ 100 → (pairsW .file (allT gs)).Perm fs → LiveFrom N n fs ds →
    ∀ i d, ds[i]? = some d → DeedOk ((ds.take i).foldl (stepS q) (n, gs)).2 d ∧ ∀ z, d = .put z → z ≤ N
  | [], n, gs, fs, _, _, _, _, _, i, d, h => by simp at h
  | e :: ds, n, gs, fs, L, n0, hl, hf, hv, i, d, h => by
    rw [List.length_cons] at hl
    have D : DeedOk gs e ∧ (∀ z, e = .put z → z ≤ N) ∧ LiveFrom N (newN n e) (newFiles n fs e) ds := by
      cases e with
      | put z => exact ⟨⟨hv.1, by have := hv.2.1; omega⟩, fun z' hz => by cases hz; exact hv.2.1, hv.2.2⟩
      | drop s => exact ⟨(hf.map (·.1)).mem_iff.mpr hv.1, fun z hz => (nomatch hz), hv.2⟩
    obtain ⟨D, hz, hv'⟩ := D
    cases i with
    | zero => cases h; exact ⟨D, hz⟩
    | succ i =>
      obtain ⟨L', l', hf'⟩ := done_ok L q0 n0 (by omega) D
      refine live_run q0 hN ds (newN n e) (doneM q n gs e) (newFiles n fs e) L' (newN_nn n0) (by omega) (hf'.trans ?_) hv' i d h
      cases e with
      | put z => exact List.Perm.cons _ hf
      | drop s => exact hf.filter _
theorem live_rep {N g : Int} (g1 : 1 ≤ g) (g2 : g ≤ N) : ∀ (m : Nat) (n : Int) (fs : List (Int × Int)) (ds : List Dd), (∀ fs', LiveFrom N (n + m) fs' ds) → LiveFrom N n fs (List.replicate m (.put g) ++ ds)
  | 0, n, fs, ds, h => by have := h fs; rw [Int.natCast_zero, Int.add_zero] at this; exact this
  | m + 1, n, fs, ds, h => by
    rw [List.replicate_succ]
    refine ⟨g1, g2, live_rep g1 g2 m (n + 1) _ ds fun fs' => ?_⟩
    have := h fs'
    rwa [show n + ((m + 1 : Nat) : Int) = n + 1 + (m : Int) by omega] at this
theorem live_pairs {N sm times : Int} (s1 : 1 ≤ sm) (s2 : sm ≤ N) : ∀ (m t0 : Nat) (fs : List (Int × Int)), LiveFrom N (times + t0) fs ((List.range' t0 m).flatMap fun t : Nat => [.put sm, .drop (times + (t : Int))])
  | 0, t0, fs => trivial
  | m + 1, t0, fs => by
    rw [List.range'_succ, List.flatMap_cons]
    refine ⟨s1, s2, List.mem_cons_self, ?_⟩
    have := live_pairs (times := times) s1 s2 m (t0 + 1) (((times + (t0 : Int), sm) :: fs).filter fun p => !decide (p.1 = times + (t0 : Int)))
    rwa [show times + ((t0 + 1 : Nat) : Int) = times + (t0 : Int) + 1 by omega] at this
theorem live_dear {N g sm times : Int} {n : Nat} (g1 : 1 ≤ g) (g2 : g ≤ N) (s1 : 1 ≤ sm) (s2 : sm ≤ N) (t1 : 1 ≤ times) : LiveFrom N 0 [] (List.replicate times.toNat (.put g) ++ (List.range n).flatMap fun t => [.put sm, .drop (times + (t : Int))]) := by
  refine live_rep g1 g2 times.toNat 0 [] _ fun fs => ?_
  have := live_pairs (times := times) s1 s2 n 0 fs
  rw [List.range_eq_range']
  rwa [show (0 : Int) + (times.toNat : Int) = times + ((0 : Nat) : Int) by omega]
end K76
set_option maxRecDepth 100000
set_option maxHeartbeats 4000000
namespace K76
open PySem PySem.Spec PyProof.Rows L2
section
variable {X : Cx} {ρ : Env} {e : Expr} {es : List Expr} {pos np : Pos} {PP : Env → D → Prop}
/-- a def is called; its arguments change one's own -/
theorem x_callD {x : Str} {j k : Nat} {R : List D → D → Prop} (F : Kn X.prog X.w X.K X.mg X.base x j R) (hr : Room k X.A) (h : XA X (e :: es) ρ fun ρ1 ds => ∃ d, R ds d ∧ PP ρ1 d) (hk : j ≤ k := by decide) (hg : Gl X x := by rfl) (hx : X.xe = (fun _ _ => False) := by rfl)
    (hdb : (x == ("__debug__" : Str)) = false := by decide) (he : starEach (e :: es) X.env = (false, eval e X.env) :: starEach es X.env := by rfl) (hpl : (backTo pos (starEach es X.env)).any (·.1) = false := by rfl) : XE X (.Call (.Name x np) (e :: es) [] pos) ρ PP := fun Hb0 H0 σ Hb H s Q q => by
  obtain ⟨f, fd, ps, dvs, vs, dds, R', h1, h2, h3, h4, h5, h6, h7⟩ := F.ex
  refine ofE (pe_call h1 (hr.mono hk) hg h2 h3 h4 h5 pass0 peA hdb he hpl) ?_
  refine h Hb0 H0 σ Hb H s _ fun ws ds ρ1 Hb2 H2 p s2 nb rs => ?_
  obtain ⟨d, hR, hp⟩ := p
  exact ⟨Hb2, ds ++ dds, d, ⟨s2.en.s, s2.en.t⟩, rs.append (h6 Hb2), h7 ds d hR, fun v Hb3 H3 n2 r2 => q v d ρ1 Hb3 H3 hp (s2.mono n2) (nb.trans n2.b) r2⟩
end
end K76
set_option maxRecDepth 100000
set_option maxHeartbeats 4000000
namespace K76
open PySem PySem.Spec PyProof.Rows L2
theorem cut_two {α : Type} (xs : List α) (i : Nat) : cutL xs (some (i : Int)) (some ((i : Int) + 2)) = (xs.drop i).take 2 := by
  unfold cutL HT.sIx
  have h1 : ¬ ((i : Int) < 0) := by omega
  have h2 : ¬ ((i : Int) + 2 < 0) := by omega
  have h3 : ((i : Int) + 2).toNat = i + 2 := by omega
  simp only [h1, h2, if_false, Int.toNat_natCast, h3]
  by_cases h : i + 2 ≤ xs.length
  · rw [Nat.min_eq_left h, Nat.min_eq_left (by omega), show i + 2 - i = 2 by omega]
  · by_cases h4 : i ≤ xs.length
    · rw [Nat.min_eq_right (by omega), Nat.min_eq_left h4]
      rw [List.take_of_length_le (by rw [List.length_drop]; omega), List.take_of_length_le (by rw [List.length_drop]; omega)]
    · rw [Nat.min_eq_right (by omega), Nat.min_eq_right (by omega), List.drop_of_length_le (Nat.le_refl _), List.drop_of_length_le (by omega)]; simp
theorem at_set {l : List Int} {i : Nat} {v : Int} : (l.map D.int).set i (.int v) = (l.set i v).map D.int := by rw [List.map_set]
section
variable {P : Program} {w : World} {K : PySem.W.Frag} {mg : Str → Option Value} {base : Heap}
theorem sc_L_below : FnScope ["_law_numbers", "_law_found", "_law_is_new", "_law_at", "_law_least", "_law_part"] ["_law_numbers"] (defScope (top 115)) := ⟨rfl, rfl, rfl, by decide +kernel, rfl, by decide +kernel, by decide +kernel⟩
def R_Lbelow : List D → D → Prop := fun ds d => ∃ ns : List Int, ds = [.lst (ns.map D.int)] ∧ ns.length ≤ 100 ∧ (∀ x ∈ ns, 1 ≤ x) ∧ d = .lst ((belowL ns).map D.int)
theorem ok_L_below (T : Tx mg) (F : FnT K mg 115 "_law_below") : Kn P w K mg base "_law_below" 1 R_Lbelow := by
  obtain ⟨f, fd, F, g⟩ := F
  refine kn_of F g sc_L_below (fun ds d h => by obtain ⟨_, rfl, _⟩ := h; rfl) (fun _ _ _ _ _ _ us hl => match us, hl with | [_], _ => rfl) ?_
  rintro cdv A outer s H E hr ds d ⟨ns, rfl, hl, hp, rfl⟩
  have nd := sc_L_below.nd
  refine ss_cons (s_parN [1, 2] (ls_cons (l_own (f_listS T.list (d_var 0) (.lst _))) (ls_cons (l_val d_bl) ls_nil)) (g_tp (gs_cons (g_nm 1 nd) (gs_cons (g_nm 2 nd) gs_nil))) ?_)
  refine ss_cons (s_while (fun m ρ => ∃ (j : Nat) (l : List Int) (b : Bool) (e3 e4 e5 : Option Sl) (fs : List D), ρ = [some (.val (.lst (ns.map D.int))), some (.ml fs), some (.val (.bl b)), e3, e4, e5] ∧ fs = l.map D.int ∧ BelI ns j l b ∧ (b = true → m = l.sum.toNat + 1)) (ns.sum.toNat + 1) ⟨0, ns, true, _, _, _, _, rfl, rfl, bel_0 hp, fun _ => rfl⟩ ?_)
  rintro m ρ ⟨j, l, b, e3, e4, e5, fs, rfl, rfl, B, hm⟩
  refine ⟨b, t_val (d_var 2), fun hb => ?_, fun hb => ?_⟩
  · subst hb
    obtain ⟨B2, hlt⟩ := bel_step B
    have ll : l.length ≤ 100 := by rw [B.len]; exact hl
    refine ss_cons (s_set 2 nd d_bl ?_)
    refine ss_cons (s_for (xs := List.range l.length) (enc := fun i => .int (0 + (i : Nat))) (p := .nm 3) (i_range1 T.range (DE.eq (y := .int (l.length : Int)) (d_lenW 1 T.len (.ml _)) (by rw [List.length_map])) (by omega) (by omega)) (g_nm 3 nd)
      (fun k ρ => ∃ (e3 e4 e5 : Option Sl) (a : List Int × Bool) (fs : List D), ρ = [some (.val (.lst (ns.map D.int))), some (.ml fs), some (.val (.bl a.2)), e3, e4, e5] ∧ fs = a.1.map D.int ∧ a = (List.range k).foldl stepP (l, false)) ?_ ?_ ?_)
    · exact ⟨_, _, _, (l, false), _, rfl, rfl, rfl⟩
    · rintro k x ρ hx ⟨e3, e4, e5, a, fs, rfl, rfl, ha⟩
      obtain ⟨hk, e⟩ := List.getElem?_eq_some_iff.mp hx
      rw [List.length_range] at hk
      rw [List.getElem_range] at e
      subst e
      have I := pass_inv B.pos k (by omega)
      rw [← ha] at I
      have al : a.1.length = l.length := I.len
      have hka : k < a.1.length := by omega
      have hstep : (List.range (k + 1)).foldl stepP (l, false) = stepP a k := by rw [List.range_succ, List.foldl_append, ← ha]; rfl
      refine ⟨_, rfl, ?_⟩
      rw [show (0 : Int) + (k : Int) = (k : Int) from Int.zero_add _]
      refine ss_cons (s_set 4 nd (d_minL (xs := candB a.1 k) (f := fun x => x) (m := leastB a.1 k) T.min (DE.eq (DF.de (f_cat (xs := cutL (a.1.map D.int) (some (k : Int)) (some ((k : Int) + 2))) (ys := (List.range k).map fun p => .int ((a.1[p]?).getD 0 + (a.1[k - p - 1]?).getD 0)) ?_ ?_ ?_)) ?_) ?_ ?_) ?_)
      · exact DF.de (f_sliceW (l := some (k : Int)) (u := some ((k : Int) + 2)) 1 (.ml _) (o_some (d_var 3)) (o_some (d_add (d_var 3) d_int)))
      · refine DF.de (f_lc (p := .nm 5) (xs := List.range (k : Int).toNat) (enc := fun i => .int (0 + (i : Nat))) (f := fun p => .int ((a.1[p]?).getD 0 + (a.1[k - p - 1]?).getD 0)) [("_law_part", 5)] nd (i_range1 T.range (d_var 3) (by omega) (by omega)) (blkOk_by (by kernel_rfl)) (fun _ _ _ _ _ => g_nm 5 nd) (by decide) (by rw [List.length_range]; omega) (fun p hpm => ?_))
        rw [Int.toNat_natCast, List.mem_range] at hpm
        refine ⟨_, rfl, fun _ _ _ _ _ => (d_add (d_ixO 1 (z := .int ((a.1[p]?).getD 0)) (d_var 5) ?_) (d_ixO 1 (z := .int ((a.1[k - p - 1]?).getD 0)) (d_sub (d_sub (d_var 3) (d_var 5)) d_int) ?_))⟩
        · rw [at_int p (by omega) (by omega), List.getElem?_eq_getElem (by omega)]; rfl
        · rw [at_int (k - p - 1) (by omega) (by omega), List.getElem?_eq_getElem (by omega)]; rfl
      · rw [cut_two]
        simp only [List.length_take, List.length_drop, List.length_map, List.length_range]
        exact ln16 (by omega)
      · rw [cut_two]
        unfold candB
        rw [List.map_append, List.map_map, List.map_take, List.map_drop]; rfl
      · rw [List.map_id']; exact leastB_mem hka
      · rw [List.map_id']; exact (leastB_le a.1 k).2
      · refine ss_cons (s_set 2 nd (d_or (d_var 2) fun _ => (d_one (d_lt (d_var 4) (d_ixO 1 (z := .int ((a.1[k]?).getD 0)) (d_var 3) ?_)))) ?_)
        · rw [at_int k (by omega) hka, List.getElem?_eq_getElem hka]; rfl
        · refine ss_cons (s_lputW (m := k) 1 (.ml _) (d_var 4) (d_var 3) ?_ (ss_nil ⟨_, _, _, stepP a k, _, rfl, at_set, hstep.symm⟩))
          show L2.ixN (a.1.map D.int).length (k : Int) = some k
          unfold L2.ixN
          rw [List.length_map, if_pos (by omega), if_pos (by omega), Int.toNat_natCast]
    · rintro ρ ⟨e3', e4', e5', a, fs, rfl, rfl, ha⟩
      rw [List.length_range] at ha
      subst ha
      refine ss_nil ?_
      by_cases hb2 : (passB l).2 = true
      · refine ⟨(passB l).1.sum.toNat + 1, ?_, j + 1, (passB l).1, (passB l).2, e3', e4', e5', _, rfl, rfl, B2, fun _ => rfl⟩
        have h1 := hlt hb2
        have h2 := sum_nn B2.pos
        have := hm rfl
        omega
      · exact ⟨0, by have := hm rfl; omega, j + 1, (passB l).1, (passB l).2, e3', e4', e5', _, rfl, rfl, B2, fun h => absurd h hb2⟩
  · subst hb
    obtain ⟨e, _⟩ := bel_end B
    subst e
    exact ss_frz 1 (ss_cons (s_ret (d_var 1) rfl))
end
end K76
set_option maxRecDepth 100000
set_option maxHeartbeats 4000000
namespace K76
open PySem PySem.Spec PyProof.Rows L2
theorem passN_len {ns : List Int} (hp : ∀ x ∈ ns, 1 ≤ x) : ∀ n, (passN n ns).length = ns.length ∧ ∀ x ∈ passN n ns, 1 ≤ x
  | 0 => ⟨rfl, hp⟩
  | n + 1 => by
    obtain ⟨h1, h2⟩ := passN_len hp n
    have I := pass_inv h2 (passN n ns).length (Nat.le_refl _)
    rw [passN_succ]
    exact ⟨I.len.trans h1, I.pos⟩
/-- below ends: the loop runs to an end in as many turns as the sum tells -/
theorem bel_reach {ns : List Int} (hp : ∀ x ∈ ns, 1 ≤ x) : ∀ (m j : Nat) (l : List Int) (b : Bool), BelI ns j l b → l.sum.toNat ≤ m → ∃ j l, BelI ns j l false
  | m, j, l, false, B, _ => ⟨j, l, B⟩
  | 0, j, l, true, B, hm => by
    obtain ⟨B2, hlt⟩ := bel_step B
    cases hb : (passB l).2 with
    | false => rw [hb] at B2; exact ⟨_, _, B2⟩
    | true =>
      have h1 := hlt hb
      have h2 := sum_nn B2.pos
      omega
  | m + 1, j, l, true, B, hm => by
    obtain ⟨B2, hlt⟩ := bel_step B
    cases hb : (passB l).2 with
    | false => rw [hb] at B2; exact ⟨_, _, B2⟩
    | true =>
      have h1 := hlt hb
      have h2 := sum_nn B2.pos
      rw [hb] at B2
      exact bel_reach hp m _ _ true B2 (by omega)
theorem belowL_ok {ns : List Int} (hp : ∀ x ∈ ns, 1 ≤ x) (hh : ∀ x ∈ ns, x ≤ 2000000000) : TabA ns.length (belowL ns) := by
  obtain ⟨j, l, B⟩ := bel_reach hp ns.sum.toNat 0 ns true (bel_0 hp) (Nat.le_refl _)
  obtain ⟨e, ok⟩ := bel_end B
  rw [← e]
  exact ⟨by rw [B.len], B.pos, B.hi _ hh, ok⟩
section
variable {P : Program} {w : World} {K : PySem.W.Frag} {mg : Str → Option Value} {base : Heap}
theorem sc_L_prices : FnScope ["_law_purse_here", "_law_many", "_law_most_of_all", "_law_rate", "_law_fee", "_law_block", "_law_way", "_law_size"] ["_law_purse_here", "_law_many"] (defScope (top 116)) := ⟨rfl, rfl, rfl, by decide +kernel, rfl, by decide +kernel, by decide +kernel⟩
def Pre_prices : List D → List D → Prop := fun ds s => ∃ (many : Int) (k : Nat), ds = [.int many] ∧ 1 ≤ many ∧ many ≤ 20 ∧ k < 100000 ∧ Pu k s
def Post_prices : List D → List D → List D → D → Prop := fun ds s s' d => ∀ many : Int, ds = [.int many] → Tk 30 s s' ∧ ∃ t, d = .lst (t.map D.int) ∧ TabA many t
theorem ok_L_prices (T : Tx mg) (F : FnT K mg 116 "_law_prices") (K1 : KnX P w K mg base "_law_penny" 1 Pre_penny Post_penny) (K2 : KnX P w K mg base "_law_one" 2 Pre_one Post_one) (K3 : Kn P w K mg base "_law_below" 1 R_Lbelow) : KnX P w K mg base "_law_prices" 3 Pre_prices Post_prices := by
  obtain ⟨f, fd, F, g⟩ := F
  refine knX_of F g sc_L_prices (fun ds s h => by obtain ⟨_, _, rfl, _⟩ := h; rfl) (fun _ _ _ _ _ _ us hl => match us, hl with | [_, _], _ => rfl) ?_
  rintro cdv A outer s H E hr l ds st ⟨many, k, rfl, m1, m2, hk, hp⟩
  have nd := sc_L_prices.nd
  refine ss_cons (xs_parN [3, 4, 5, 6] (xa_cons (x_addL d_int (x_call 0 K1 hr (xa_pure (a_cons d_int a_nil) ⟨_, _, _, rfl, .pu l _, ⟨5, k, rfl, by omega, by omega, by omega, hp⟩, fun s1 d1 post1 => ?_⟩)))) (g_tp (gs_cons (g_nm 3 nd) (gs_cons (g_nm 4 nd) (gs_cons (g_nm 5 nd) (gs_cons (g_nm 6 nd) gs_nil))))))
  obtain ⟨p1, v1, rfl, v10, v11⟩ := post1 5 k rfl hp
  refine ⟨v1, rfl, xa_cons (x_addL d_int (x_call 0 K1 hr (xa_pure (a_cons d_int a_nil) ⟨_, _, _, rfl, .pu l _, ⟨90, _, rfl, by omega, by omega, by omega, p1⟩, fun s2 d2 post2 => ?_⟩)))⟩
  obtain ⟨p2, v2, rfl, v20, v21⟩ := post2 90 _ rfl p1
  refine ⟨v2, rfl, xa_cons (x_addL d_int (x_call 0 K1 hr (xa_pure (a_cons d_int a_nil) ⟨_, _, _, rfl, .pu l _, ⟨7, _, rfl, by omega, by omega, by omega, p2⟩, fun s3 d3 post3 => ?_⟩)))⟩
  obtain ⟨p3, v3, rfl, v30, v31⟩ := post3 7 _ rfl p2
  refine ⟨v3, rfl, xa_cons (x_call 0 K1 hr (xa_pure (a_cons d_int a_nil) ⟨_, _, _, rfl, .pu l _, ⟨7, _, rfl, by omega, by omega, by omega, p3⟩, fun s4 d4 post4 => ?_⟩))⟩
  obtain ⟨p4, v4, rfl, v40, v41⟩ := post4 7 _ rfl p3
  refine xa_nil ⟨rfl, ?_⟩
  have tk4 : Tk 4 st s4 := (((tk_penny post1).trans (tk_penny post2)).trans (tk_penny post3)).trans (tk_penny post4)
  have mr : ((many + 1 - 1)).toNat = many.toNat := by omega
  have fin : ∀ t : List Int, TabA many t → Post_prices [.int many] st s4 (.lst (t.map D.int)) := fun t ht m' e => by
    cases e
    exact ⟨tk4.mono (by omega), t, rfl, ht⟩
  have mk : ∀ gg : Nat → Int, (∀ i : Nat, i < 20 → 1 ≤ gg i ∧ gg i ≤ 2000000000) → TabOkP ((List.range many.toNat).map gg) → TabA many ((List.range many.toNat).map gg) := fun gg h1 h2 => by
    have hh : ∀ x ∈ (List.range many.toNat).map gg, 1 ≤ x ∧ x ≤ 2000000000 := fun x hx => by
      obtain ⟨i, hi, rfl⟩ := List.mem_map.mp hx
      rw [List.mem_range] at hi
      exact h1 i (by omega)
    exact ⟨by rw [List.length_map, List.length_range]; omega, fun x hx => (hh x hx).1, fun x hx => (hh x hx).2, h2⟩
  -- way 0
  refine ss_cons (s_if (t_eqI (d_var 6) d_int) (fun hb => ?_) (fun hb => ?_))
  · have h := fin ((List.range many.toNat).map fun i => 0 + (1 + v1) * ((i : Nat) + 1 : Int)) (mk _ (fun i hi => by
      have : 1 * 1 ≤ (1 + v1) * ((i : Int) + 1) := Int.mul_le_mul (by omega) (by omega) (by omega) (by omega)
      have : (1 + v1) * ((i : Int) + 1) ≤ 5 * 20 := Int.mul_le_mul (by omega) (by omega) (by omega) (by omega)
      omega) (tab_lin (by omega) (by omega)))
    refine ss_cons (s_rete (DE.eq (DF.de (f_lc (p := .nm 7) (xs := List.range (many + 1 - 1).toNat) (enc := fun i => .int (1 + (i : Nat))) (f := fun i => .int ((1 + v1) * (1 + (i : Nat)))) [("_law_size", 7)] nd (i_range2 T.range d_int (d_add (d_var 1) d_int) (by omega)) (blkOk_by (by kernel_rfl)) (fun _ _ _ _ _ => g_nm 7 nd) (by decide) (by rw [List.length_range]; omega) (fun x hx => ⟨_, rfl, fun _ _ _ _ _ => (d_mul (d_var 3) (d_var 7) (.inl (by omega)))⟩))) ?_) ⟨s4, rfl, h⟩)
    rw [mr, List.map_map]
    congr 1
    refine List.map_congr_left fun i _ => ?_
    show D.int ((1 + v1) * (1 + (i : Int))) = D.int (0 + (1 + v1) * ((i : Int) + 1))
    rw [Int.zero_add, Int.add_comm 1 (i : Int)]
  refine ss_nil ?_
  refine ss_cons (s_if (t_eqI (d_var 6) d_int) (fun hb => ?_) (fun hb => ?_))
  · have h := fin ((List.range many.toNat).map fun _ => (1 : Int)) (mk _ (fun i _ => by omega) tab_one)
    refine ss_cons (s_rete (DE.eq (DF.de (f_rep (DF.de (f_lst (a_cons d_int a_nil))) (d_var 1) (by omega) (by omega) ?_)) ?_) ⟨s4, rfl, h⟩)
    · simp only [List.length_cons, List.length_nil]; exact ln16 (by omega)
    · rw [rep_flat, List.map_map]
      show D.lst (List.replicate many.toNat (D.int 1)) = D.lst ((List.range many.toNat).map fun _ => D.int 1)
      rw [List.map_const', List.length_range]
  refine ss_nil ?_
  refine ss_cons (s_if (t_eqI (d_var 6) d_int) (fun hb => ?_) (fun hb => ?_))
  · have h := fin ((List.range many.toNat).map fun i => ((i : Nat) + 1 + (1 + v3) - 1 : Int) / (1 + v3)) (mk _ (fun i hi => by
      have h1 : (1 : Int) ≤ ((i : Int) + 1 + (1 + v3) - 1) / (1 + v3) := (Int.le_ediv_iff_mul_le (by omega)).mpr (by omega)
      have h2 : ((i : Int) + 1 + (1 + v3) - 1) / (1 + v3) ≤ (i : Int) + 1 + (1 + v3) - 1 := Int.ediv_le_self _ (by omega)
      exact ⟨h1, by omega⟩) (tab_block (by omega)))
    refine ss_cons (s_rete (DE.eq (DF.de (f_lc (p := .nm 7) (xs := List.range (many + 1 - 1).toNat) (enc := fun i => .int (1 + (i : Nat))) (f := fun i => .int ((1 + (i : Nat) + (1 + v3) - 1) / (1 + v3))) [("_law_size", 7)] nd (i_range2 T.range d_int (d_add (d_var 1) d_int) (by omega)) (blkOk_by (by kernel_rfl)) (fun _ _ _ _ _ => g_nm 7 nd) (by decide) (by rw [List.length_range]; omega) (fun x hx => ⟨_, rfl, fun _ _ _ _ _ => (d_fdiv (d_sub (d_add (d_var 7) (d_var 5)) d_int) (d_var 5) ⟨by omega, by omega⟩)⟩))) ?_) ⟨s4, rfl, h⟩)
    rw [mr, List.map_map]
    congr 1
    refine List.map_congr_left fun i _ => ?_
    show D.int ((1 + (i : Int) + (1 + v3) - 1) / (1 + v3)) = D.int (((i : Int) + 1 + (1 + v3) - 1) / (1 + v3))
    rw [Int.add_comm 1 (i : Int)]
  refine ss_nil ?_
  refine ss_cons (s_if (t_eqI (d_var 6) d_int) (fun hb => ?_) (fun hb => ?_))
  · have h := fin ((List.range many.toNat).map fun i => (1 + v2) + (1 + v1) * ((i : Nat) + 1 : Int)) (mk _ (fun i hi => by
      have : 0 ≤ (1 + v1) * ((i : Int) + 1) := Int.mul_nonneg (by omega) (by omega)
      have : (1 + v1) * ((i : Int) + 1) ≤ 5 * 20 := Int.mul_le_mul (by omega) (by omega) (by omega) (by omega)
      omega) (tab_lin (by omega) (by omega)))
    refine ss_cons (s_rete (DE.eq (DF.de (f_lc (p := .nm 7) (xs := List.range (many + 1 - 1).toNat) (enc := fun i => .int (1 + (i : Nat))) (f := fun i => .int ((1 + v2) + (1 + v1) * (1 + (i : Nat)))) [("_law_size", 7)] nd (i_range2 T.range d_int (d_add (d_var 1) d_int) (by omega)) (blkOk_by (by kernel_rfl)) (fun _ _ _ _ _ => g_nm 7 nd) (by decide) (by rw [List.length_range]; omega) (fun x hx => ⟨_, rfl, fun _ _ _ _ _ => (d_add (d_var 4) (d_mul (d_var 3) (d_var 7) (.inl (by omega))))⟩))) ?_) ⟨s4, rfl, h⟩)
    rw [mr, List.map_map]
    congr 1
    refine List.map_congr_left fun i _ => ?_
    show D.int ((1 + v2) + (1 + v1) * (1 + (i : Int))) = D.int ((1 + v2) + (1 + v1) * ((i : Int) + 1))
    rw [Int.add_comm 1 (i : Int)]
  refine ss_nil ?_
  refine ss_cons (s_if (t_eqI (d_var 6) d_int) (fun hb => ?_) (fun hb => ?_))
  · have h := fin ((List.range many.toNat).map fun i => min (((1 + v1) + 3) * ((i : Nat) + 1 : Int)) ((1 + v2) + (1 + v1) * ((i : Nat) + 1 : Int))) (mk _ (fun i hi => by
      have h1 : 0 ≤ (1 + v1) * ((i : Int) + 1) := Int.mul_nonneg (by omega) (by omega)
      have h2 : 1 * 1 ≤ ((1 + v1) + 3) * ((i : Int) + 1) := Int.mul_le_mul (by omega) (by omega) (by omega) (by omega)
      have h3 : (1 + v1) * ((i : Int) + 1) ≤ 5 * 20 := Int.mul_le_mul (by omega) (by omega) (by omega) (by omega)
      omega) (tab_lin2 (by omega) (by omega)))
    refine ss_cons (s_rete (DE.eq (DF.de (f_lc (p := .nm 7) (xs := List.range (many + 1 - 1).toNat) (enc := fun i => .int (1 + (i : Nat))) (f := fun i => .int (if (1 + v2) + (1 + v1) * (1 + (i : Nat)) < ((1 + v1) + 3) * (1 + (i : Nat)) then (1 + v2) + (1 + v1) * (1 + (i : Nat)) else ((1 + v1) + 3) * (1 + (i : Nat)))) [("_law_size", 7)] nd (i_range2 T.range d_int (d_add (d_var 1) d_int) (by omega)) (blkOk_by (by kernel_rfl)) (fun _ _ _ _ _ => g_nm 7 nd) (by decide) (by rw [List.length_range]; omega) (fun x hx => ⟨_, rfl, fun _ _ _ _ _ => (d_min2 T.min (d_mul (d_add (d_var 3) d_int) (d_var 7) (.inl (by omega))) (d_add (d_var 4) (d_mul (d_var 3) (d_var 7) (.inl (by omega)))))⟩))) ?_) ⟨s4, rfl, h⟩)
    rw [mr, List.map_map]
    congr 1
    refine List.map_congr_left fun i _ => ?_
    show D.int (if (1 + v2) + (1 + v1) * (1 + (i : Int)) < ((1 + v1) + 3) * (1 + (i : Int)) then (1 + v2) + (1 + v1) * (1 + (i : Int)) else ((1 + v1) + 3) * (1 + (i : Int))) = D.int (min (((1 + v1) + 3) * ((i : Int) + 1)) ((1 + v2) + (1 + v1) * ((i : Int) + 1)))
    rw [Int.add_comm 1 (i : Int)]
    congr 1
    split <;> omega
  refine ss_nil ?_
  refine ss_cons (xs_set 2 nd (x_call 0 K2 hr (xa_pure (a_cons (DF.de (f_lst (a_cons d_int (a_cons d_int (a_cons (d_pow d_int d_int ⟨by omega, by omega, by omega⟩) a_nil))))) a_nil) ⟨_, _, _, rfl, .pu l _, ⟨_, _, rfl, List.cons_ne_nil _ _, Nat.le_of_ble_eq_true rfl, by omega, p4⟩, fun s5 d5 post5 => ?_⟩)))
  obtain ⟨p5, hd5⟩ := post5 _ _ rfl p4
  have hmo : ∃ mo : Int, d5 = .int mo ∧ 0 < mo ∧ mo ≤ 1000000000 := by
    have e9 : (10 : Int) ^ (9 : Int).toNat = 1000000000 := by decide
    simp only [List.mem_cons, List.not_mem_nil, or_false, e9] at hd5
    rcases hd5 with rfl | rfl | rfl
    · exact ⟨3, rfl, by omega, by omega⟩
    · exact ⟨20, rfl, by omega, by omega⟩
    · exact ⟨1000000000, rfl, by omega, by omega⟩
  obtain ⟨mo, rfl, mo0, mo1⟩ := hmo
  have tk5 : Tk 5 st s5 := tk4.trans (tk_one post5)
  have w5 : 5 ≤ v4 := by
    simp only [decide_eq_false_iff_not] at *
    omega
  refine ss_cons (xs_ret (x_callD K3 hr (xa_cons (x_lc (xs := List.range many.toNat) (enc := fun i => .int (0 + (i : Nat))) (p := .nm 7) 0 (.pu l s5) (fun i t out => i ≤ 20 ∧ Tk (5 + i) st t ∧ ∃ ns : List Int, out = ns.map D.int ∧ ns.length = i ∧ ∀ x ∈ ns, 1 ≤ x ∧ x ≤ 2000000000) [("_law_size", 7)] nd (i_range1 T.range (d_var 1) (by omega) (by omega)) (blkOk_by (by kernel_rfl)) (fun _ _ _ _ _ => g_nm 7 nd) (by decide) ⟨by omega, tk5, [], rfl, rfl, fun x hx => nomatch hx⟩ (fun i x t out hx hI => ?_) (fun t out hI => ?_) (fun i t out hI => ?_)))))
  · obtain ⟨_, ht, ns, rfl, hn, hz⟩ := hI
    obtain ⟨hi, e⟩ := List.getElem?_eq_some_iff.mp hx
    rw [List.length_range] at hi
    rw [List.getElem_range] at e
    subst e
    have hpu := ht k hp
    refine ⟨_, rfl, fun _ _ _ _ _ => x_addR (x_addL d_int (x_call 0 K1 hr (xa_pure (a_cons (d_var 2) a_nil) ⟨_, _, _, rfl, .pu l _, ⟨mo, _, rfl, mo0, by omega, by omega, hpu⟩, fun s' d post => ?_⟩)))⟩
    obtain ⟨_, v, rfl, v0, v1'⟩ := post mo _ rfl hpu
    refine ⟨v, rfl, 1 + v, (0 + (i : Int)) * (v4 - 5), rfl, d_mul (d_var 7) (d_sub (d_var 6) d_int) (.inl (by omega)), s', rfl, by omega, (ht.trans (tk_penny post)).mono (by omega), ns ++ [1 + v + (0 + (i : Int)) * (v4 - 5)], by rw [List.map_append]; rfl, by rw [List.length_append, hn]; rfl, fun z hz' => ?_⟩
    rcases List.mem_append.mp hz' with h | h
    · exact hz z h
    · rw [List.mem_singleton.mp h]
      have : 0 ≤ (0 + (i : Int)) * (v4 - 5) := Int.mul_nonneg (by omega) (by omega)
      have : (0 + (i : Int)) * (v4 - 5) ≤ 20 * 2 := Int.mul_le_mul (by omega) (by omega) (by omega) (by omega)
      omega
  · obtain ⟨_, ht, ns, rfl, hn, hz⟩ := hI
    rw [List.length_range] at hn ht
    refine xa_nil ⟨_, ⟨ns, rfl, by omega, fun x hx => (hz x hx).1, rfl⟩, t, rfl, fun m' e => ?_⟩
    cases e
    have hb := belowL_ok (fun x hx => (hz x hx).1) (fun x hx => (hz x hx).2)
    exact ⟨ht.mono (by omega), belowL ns, rfl, ⟨by have := hb.len; omega, hb.pos, hb.hi, hb.ok⟩⟩
  · obtain ⟨h1, _, ns, rfl, hn, _⟩ := hI
    rw [List.length_map]; omega
end
end K76
set_option maxRecDepth 100000
set_option maxHeartbeats 4000000
namespace K76
open PySem PySem.Spec PyProof.Rows L2
theorem log_60 {i : Int} (hi : i.natAbs < 10 ^ 18) : i.natAbs.log2 < 60 := by
  by_cases h : i.natAbs = 0
  · rw [h]; decide
  · exact (Nat.log2_lt h).mpr (Nat.lt_of_lt_of_le hi (by decide))
theorem log_small {i : Int} (hi : i.natAbs < 10 ^ 18) : i.natAbs.log2 < 1920 := Nat.lt_trans (log_60 hi) (by decide)
theorem shown2_fits {i j : Int} (hi : i.natAbs < 10 ^ 18) (hj : j.natAbs < 10 ^ 18) : (PyData.tuple [.int i, .int j]).shown.length ≤ sizeLine := by
  have one : ∀ {k : Int}, k.natAbs < 10 ^ 18 → (PyData.shown (.int k)).length ≤ 19 := fun {k} h => by
    have e := int_text_length_le10 (k := 18) (by decide) h
    show (Str.ofString (toString k)).length ≤ 19
    rw [PySem.ofString_length]; exact e
  have h := PyData.shown_le 19 (by decide) (.tuple [.int i, .int j]) (by simp [PyData.leavesShort, PyData.leavesShortAll, one hi, one hj])
  refine Nat.le_trans h ?_
  show (19 + 2) * PyData.weight (.tuple [.int i, .int j]) + 19 ≤ _
  simp only [PyData.weight, PyData.weightAll]
  have a := log_60 hi
  have b := log_60 hj
  have c1 : (if (i == 0) = true then 0 else i.natAbs.log2 + 1) ≤ 60 := by split <;> omega
  have c2 : (if (j == 0) = true then 0 else j.natAbs.log2 + 1) ≤ 60 := by split <;> omega
  exact Nat.le_trans (show _ ≤ 10000 by omega) (by decide)
section
variable {X : Cx} {ρ : Env} {a b : Expr} {pos np : Pos}
def rRep2 (K : PySem.W.Frag) : List V → Hp → VK → Prop := fun vs H Q => ∃ (l : Addr) (i j : Int), vs = [.ref l] ∧ SqT K H l [.int i, .int j] ∧ i.natAbs.log2 < 1920 ∧ j.natAbs.log2 < 1920 ∧ (PyData.tuple [.int i, .int j]).shown.length ≤ sizeLine ∧ Q (.str (PyData.tuple [.int i, .int j]).shown) H
theorem cr_rep2 {n : Nat} (hgd : X.A.guards = some []) (hr : Room n X.A) : CallR X (.builtin "repr") (rRep2 X.K) := by
  intro pins s σ H vs us Q I r h
  obtain ⟨l, i, j, rfl, hl, hi, hj, hsz, q⟩ := h
  rw [Vals.ref1 r]
  obtain ⟨as, rds⟩ := Dp.reads I (.tuple [.int i, .int j]) (.ref l) (.ref l) (Dp.tup hl (.cons (.int _) (.cons (.int _) .nil))) rfl
  refine repr_of_reads' rds ?_ (fun e => by simp [PyData.hasDict, PyData.hasDictAll] at e) hgd ?_ (fun _ _ e => e) (fun h' u tk hk => ?_) hsz
  · simp [PyData.showable, PyData.showableAll, hi, hj]
  · have := hr.un
    simp only [PyData.depth, PyData.depthAll]
    omega
  · exact ⟨.str _, H, I.kept hk, ⟨u, rfl⟩, q⟩
theorem d_repr2 {n : Nat} {i j : Int} (hgd : X.A.guards = some []) (hr : Room n X.A) (hm : X.mg "repr" = none) (ha : DE X a ρ (.tup [.int i, .int j])) (hi : i.natAbs < 10 ^ 18) (hj : j.natAbs < 10 ^ 18) (hg : Gl X "repr" := by rfl) (st : St1 X a := by rfl) : DE X (.Call (.Name "repr" np) [a] [] pos) ρ (.str (PyData.tuple [.int i, .int j]).shown) :=
  d_callB (cr_rep2 hgd hr) hm (by decide +kernel) (a_cons ha a_nil st) (fun Hb H vs s r Q q => by
    obtain ⟨v, rfl, rv⟩ := r.one
    obtain ⟨p, us, rfl, hv, rs⟩ := rv.tup_inv
    obtain ⟨v1, v2, rfl, r1, r2⟩ := rs.two
    cases r1.int_inv
    cases r2.int_inv
    exact ⟨p, i, j, rfl, sm_tup s hv, log_small hi, log_small hj, shown2_fits hi hj, q _ _ _ (Nw.refl s) (.str _)⟩) hg (he := st)
end
theorem atI_last {ds : List D} {x : D} : L2.atI (ds ++ [x]) (-1) = some x := by
  unfold L2.atI L2.ixN
  rw [if_neg (by omega), List.length_append, List.length_cons, List.length_nil, if_pos (by omega)]
  have e : (-1 + ((ds.length + (0 + 1) : Nat) : Int)).toNat = ds.length := by omega
  rw [e]
  simp
theorem sum_bd {f : Int → Int} {B : Int} : ∀ {xs : List Int}, (∀ x ∈ xs, 0 ≤ f x ∧ f x ≤ B) → 0 ≤ sumf f xs ∧ sumf f xs ≤ xs.length * B
  | [], _ => by simp [sumf]
  | x :: xs, h => by
    obtain ⟨h1, h2⟩ := sum_bd (f := f) (B := B) fun y hy => h y (List.mem_cons_of_mem x hy)
    obtain ⟨h3, h4⟩ := h x List.mem_cons_self
    have e : sumf f (x :: xs) = f x + sumf f xs := by unfold sumf; rw [List.map_cons, List.sum_cons]
    rw [e, List.length_cons]
    push_cast
    rw [Int.add_mul, Int.one_mul]
    omega
end K76
set_option maxRecDepth 100000
set_option maxHeartbeats 4000000
namespace K76
open PySem PySem.Spec PyProof.Rows L2
/-- a table as the law's loop needs it -/
structure Tb (N : Int) (t : List Int) : Prop where
  nu : NumOk t
  len : (t.length : Int) = N
  ok : TabOkP t
  bd : ∀ x, 1 ≤ x → x ≤ N → 0 ≤ tabF t x ∧ tabF t x ≤ 2000000000
theorem tabF_mem {t : List Int} {x : Int} (h1 : 1 ≤ x) (h2 : x ≤ t.length) : tabF t x ∈ t := by
  obtain ⟨i, rfl⟩ : ∃ i : Nat, x = (i : Int) + 1 := ⟨(x - 1).toNat, by omega⟩
  rw [tabF_get (by omega)]
  exact List.getElem_mem _
theorem TabA.tb {N : Int} {t : List Int} (h : TabA N t) (h1 : 1 ≤ N) (h2 : N ≤ 20) : Tb N t := by
  refine ⟨⟨by have := h.len; omega, by have := h.len; omega, fun n hn => by have := h.pos n hn; omega⟩, h.len, h.ok, fun x a b => ?_⟩
  have hm := tabF_mem (t := t) a (by rw [h.len]; exact b)
  have := h.pos _ hm
  exact ⟨by omega, h.hi _ hm⟩
def minZ (a b : List Int) : List Int := (a.zip b).map fun p => if p.2 < p.1 then p.2 else p.1
theorem minZ_le {N : Int} {a b : List Int} (ha : (a.length : Int) = N) (hb : (b.length : Int) = N) {x : Int} (h1 : 1 ≤ x) (h2 : x ≤ N) : tabF (minZ a b) x ≤ tabF a x ∧ tabF (minZ a b) x ≤ tabF b x := by
  obtain ⟨i, rfl⟩ : ∃ i : Nat, x = (i : Int) + 1 := ⟨(x - 1).toNat, by omega⟩
  have hl : (minZ a b).length = a.length := by unfold minZ; rw [List.length_map, List.length_zip]; omega
  rw [tabF_get (by omega), tabF_get (by omega), tabF_get (by omega)]
  have e : (minZ a b)[i]'(by omega) = if b[i]'(by omega) < a[i]'(by omega) then b[i]'(by omega) else a[i]'(by omega) := by unfold minZ; simp
  rw [e]
  split <;> omega
theorem both_tb {N : Int} {a b : List Int} (A : Tb N a) (B : Tb N b) : NumOk (minZ a b) ∧ Tb N (belowM (minZ a b)) ∧ ∀ x, 1 ≤ x → x ≤ N → tabF (belowM (minZ a b)) x ≤ tabF a x ∧ tabF (belowM (minZ a b)) x ≤ tabF b x := by
  have hl : (minZ a b).length = a.length := by unfold minZ; rw [List.length_map, List.length_zip]; have := A.len; have := B.len; omega
  have hn : NumOk (minZ a b) := by
    refine ⟨by rw [hl]; exact A.nu.1, by rw [hl]; exact A.nu.2.1, fun n hn => ?_⟩
    unfold minZ at hn
    obtain ⟨p, hp, rfl⟩ := List.mem_map.mp hn
    have h1 := A.nu.2.2 p.1 (List.of_mem_zip hp).1
    have h2 := B.nu.2.2 p.2 (List.of_mem_zip hp).2
    show 0 ≤ if p.2 < p.1 then p.2 else p.1
    split <;> omega
  have le : ∀ x, 1 ≤ x → x ≤ N → tabF (belowM (minZ a b)) x ≤ tabF a x ∧ tabF (belowM (minZ a b)) x ≤ tabF b x := fun x h1 h2 => by
    have h3 := below_le (ns := minZ a b) h1 (by rw [hl, A.len]; exact h2)
    obtain ⟨h4, h5⟩ := minZ_le A.len B.len h1 h2
    omega
  have ok := below_ok hn.2.2
  refine ⟨hn, ⟨below_num hn, by rw [below_len, hl]; exact A.len, ok, fun x h1 h2 => ⟨ok.nn x h1 (by rw [below_len, hl, A.len]; exact h2), ?_⟩⟩, le⟩
  have := (le x h1 h2).1
  have := (A.bd x h1 h2).2
  omega
theorem wrAll_len {q : Int} {dds : List Dd} (C : CoOk q dds) : (wrAll q 0 [] dds).length ≤ 62 * 802 := by
  rw [wr_course]
  refine Nat.le_trans (flat_len _ 802 _ fun y hy => wr_len (C.st y hy).L) ?_
  rw [course_len]
  exact Nat.mul_le_mul_right _ C.len
theorem mine_sumf (t : List Int) (dds : List Dd) : mineM t dds = sumf (tabF t) (dds.map (sizeI dds)) := by unfold mineM sumf; rw [List.map_map]; rfl
theorem HisA.mineZ {q N : Int} {dds : List Dd} (H : HisA q N dds) : ∀ z ∈ dds.map (sizeI dds), 1 ≤ z ∧ z ≤ N := by
  intro z hz
  obtain ⟨d, hd, rfl⟩ := List.mem_map.mp hz
  cases d with
  | put z => exact H.puts z (put_mem hd)
  | drop s =>
    obtain ⟨i, hi, e⟩ := List.getElem_of_mem hd
    obtain ⟨_, b⟩ := H.drops i s (by rw [List.getElem?_eq_getElem hi, e])
    exact H.puts _ (szOf_mem (Nat.lt_of_lt_of_le b (putsM_le dds i)))
/-- what is told of a table -/
theorem HisA.tell {q N : Int} {dds : List Dd} {t : List Int} (H : HisA q N dds) (B : Tb N t) : toldM t q dds = sumf (tabF t) (wrAll q 0 [] dds) ∧ (toldM t q dds).natAbs < 10 ^ 18 ∧ (mineM t dds).natAbs < 10 ^ 18 ∧ toldM t q dds ≤ kap q (logQ q) * mineM t dds := by
  have e := H.told t
  have b1 := sum_bd (f := tabF t) (B := 2000000000) fun x hx => B.bd x (H.wr x hx).1 (H.wr x hx).2
  have b2 := sum_bd (f := tabF t) (B := 2000000000) fun x hx => B.bd x (H.mineZ x hx).1 (H.mineZ x hx).2
  have l1 := wrAll_len H.co
  have l2 := H.len
  rw [List.length_map] at b2
  rw [mine_sumf]
  have c1 : ((wrAll q 0 [] dds).length : Int) * 2000000000 ≤ (62 * 802) * 2000000000 := Int.mul_le_mul_of_nonneg_right (by omega) (by omega)
  have c2 : (dds.length : Int) * 2000000000 ≤ 62 * 2000000000 := Int.mul_le_mul_of_nonneg_right (by omega) (by omega)
  have e18 : (10 : Nat) ^ 18 = 1000000000000000000 := by decide
  have hb := H.bound B.ok (by rw [B.len]; exact Int.le_refl _)
  rw [mine_sumf] at hb
  rw [e, e18]
  exact ⟨rfl, by omega, by omega, hb⟩
theorem DearOk.his {q N : Int} {dds : List Dd} (D : DearOk N dds) (q1 : 2 ≤ q) (q2 : q ≤ 64) (hN : N ≤ 20) : HisA q N dds := by
  obtain ⟨g, sm, times, n, rfl, g1, g2, s1, s2, t1, t2, hn⟩ := D.ex
  have hl := dearM_len g sm times n
  refine ⟨?_, q1, q2, by rw [hl]; omega, by omega⟩
  have hv : LiveFrom N 0 [] (dearM g sm times n) := live_dear g1 g2 s1 s2 t1
  exact live_run (by omega) (by omega) (dearM g sm times n) 0 [] [] (lawful_nil q 0) (by omega) (by rw [hl]; show 0 + _ ≤ _; omega) (List.Perm.refl _) hv
section
variable {P : Program} {w : World} {K : PySem.W.Frag} {mg : Str → Option Value} {base : Heap}
theorem sc_law : FnScope ["_law_script", "_law_purse_here", "_law_deeds_here", "_law_both", "_law_table", "_law_q_here", "_law_greatest", "_law_told", "_law_history", "_law_one_here", "_law_other", "_law_due", "_law_mine", "_law_its"] ["_law_script"] (defScope (top 117)) := ⟨rfl, rfl, rfl, by decide +kernel, rfl, by decide +kernel, by decide +kernel⟩
/-- what the law calls -/
structure LawK (P : Program) (w : World) (K : PySem.W.Frag) (mg : Str → Option Value) (base : Heap) : Prop where
  purse : KnF P w K mg base "_law_purse" 1 R_Lpurse
  penny : KnX P w K mg base "_law_penny" 1 Pre_penny Post_penny
  one : KnX P w K mg base "_law_one" 2 Pre_one Post_one
  q : KnX P w K mg base "_law_q" 3 Pre_q Post_q
  dear : KnX P w K mg base "_law_dear" 2 Pre_dear Post_dear
  deeds : KnX P w K mg base "_law_deeds" 4 Pre_deeds Post_deeds
  prices : KnX P w K mg base "_law_prices" 3 Pre_prices Post_prices
  his : KnI P w K mg base "History" 6 R_history
  below : Kn P w K mg base "below" 6 R_below
  cost : Kn P w K mg base "cost" 14 R_cost
  costs : Kn P w K mg base "_law_costs" 5 R_Lcosts
  most : Kn P w K mg base "most" 5 R_most
abbrev CxL (P : Program) (w : World) (K : PySem.W.Frag) (mg : Str → Option Value) (base : Heap) (f : Addr) (cdv : Value) (A : Around) (outer : List PySem.Env) (s : Shared) (H : Hp) (E : XK) : Cx := Cxf P w K mg base ["_law_script", "_law_purse_here", "_law_deeds_here", "_law_both", "_law_table", "_law_q_here", "_law_greatest", "_law_told", "_law_history", "_law_one_here", "_law_other", "_law_due", "_law_mine", "_law_its"] "law" (defScope (top 117)) f cdv A outer s H E
@[reducible] def prT (q : Int) (dds : List Dd) (t : List Int) : D := .tup [.int (toldM t q dds), .int (mineM t dds)]
/-- the tail: tables, told, the compares -/
theorem law_tail (T : Tx mg) (L : LawK P w K mg base) (CH : ClsF K mg "History" ["q", "deeds"]) (CP : ClsF K mg "Prices" ["table"]) {f : Addr} {cdv : Value} {A : Around} {outer : List PySem.Env} {s : Shared} {H : Hp} {E : XK} (hgd : (CxL P w K mg base f cdv A outer s H E).A.guards = some []) (hr : Room 15 (CxL P w K mg base f cdv A outer s H E).A)
    {cs : List Int} {pu : List D} {q N : Int} {dds : List Dd} {k : Nat} (hp : Pu k pu) (hk : k < 90000) (N1 : 1 ≤ N) (N2 : N ≤ 20) (HH : HisA q N dds) :
    DSs (CxL P w K mg base f cdv A outer s H E) ((defBody (top 117)).drop 4) [some (.val (.kls (cs.map D.int))), some (.ml pu), some (.val (.lst (dds.map dDd))), none, none, some (.val (.int q)), some (.val (.int N)), some (.ml []), none, none, none, none, none, none] (retK (.bl true)) := by
  have nd := sc_law.nd
  have q1 := HH.q1
  have q2 := HH.q2
  have len := HH.len
  refine ss_cons (xs_par3 8 9 10 nd (xa_cons (x_pure (d_make L.his hr (a_cons (d_var 5) (a_cons (d_var 2) a_nil)) ⟨q, dds, rfl, q1, q2, by omega, HH.deeds, HH.hist, rfl⟩) (xa_cons (x_call 1 L.prices hr (xa_pure (a_cons (d_var 6) a_nil) ⟨_, _, _, rfl, .ml _, ⟨N, k, rfl, N1, N2, by omega, hp⟩, fun s1 d1 post1 => ?_⟩))))))
  obtain ⟨tk1, t1, rfl, A1⟩ := post1 N rfl
  have p1 := tk1 k hp
  refine xa_cons (x_call 1 L.prices hr (xa_pure (a_cons (d_var 6) a_nil) ⟨_, _, _, rfl, .ml _, ⟨N, _, rfl, N1, N2, by omega, p1⟩, fun s2 d2 post2 => ?_⟩))
  obtain ⟨tk2, t2, rfl, A2⟩ := post2 N rfl
  refine xa_nil ⟨rfl, ?_⟩
  have B1 := A1.tb N1 N2
  have B2 := A2.tb N1 N2
  obtain ⟨nz, B3, hle⟩ := both_tb B1 B2
  have zl : (t1.zip t2).length ≤ 400 := by rw [List.length_zip]; have := B1.nu.2.1; omega
  refine ss_cons (s_set 3 nd (d := .lst ((belowM (minZ t1 t2)).map D.int)) (DF.de (f_listS T.list (d_fld (d_call L.below hr (a_cons (DE.eq (y := .lst ((minZ t1 t2).map D.int)) (DF.de (f_lc (p := .tp [.nm 12, .nm 13]) (xs := t1.zip t2) (enc := dZp D.int D.int) (f := fun p => .int (if p.2 < p.1 then p.2 else p.1)) [("_law_mine", 12), ("_law_its", 13)] nd (i_zipLL T.zip (d_var 9) (d_var 10)) (blkOk_by (by kernel_rfl)) (fun _ _ _ _ _ => g_tp (gs_cons (g_nm 12 nd) (gs_cons (g_nm 13 nd) gs_nil))) (by decide) (by omega) (fun p hpm => ⟨_, rfl, fun _ _ _ _ _ => (d_min2 T.min (d_var 12) (d_var 13))⟩))) (by unfold minZ; rw [List.map_map]; rfl)) a_nil) ⟨minZ t1 t2, rfl, nz, rfl⟩) CP.at) (.tup _))) ?_)
  have hT : ∀ t ∈ [t1, t2, belowM (minZ t1 t2)], Tb N t := fun t ht => by
    simp only [List.mem_cons, List.not_mem_nil, or_false] at ht
    rcases ht with rfl | rfl | rfl
    · exact B1
    · exact B2
    · exact B3
  have hL := log_le q1 q2
  have kb : -2 ^ 64 < kap q (logQ q) ∧ kap q (logQ q) < 2 ^ 64 := by
    unfold kap
    have h1 : 16 * q * (3 + (logQ q : Int)) ≤ 1024 * 9 := Int.mul_le_mul (by omega) (by omega) (by omega) (by omega)
    have h2 : 0 ≤ 16 * q * (3 + (logQ q : Int)) := Int.mul_nonneg (by omega) (by omega)
    omega
  refine ss_cons (s_for (xs := [t1, t2, belowM (minZ t1 t2)]) (enc := fun t => .lst (t.map D.int)) (p := .nm 4) (i_tup (d_tup (a_cons (d_var 9) (a_cons (d_var 10) (a_cons (d_var 3) a_nil))))) (g_nm 4 nd)
    (fun i ρ => ∃ (e4 e11 : Option Sl) (fs : List D), ρ = [some (.val (.kls (cs.map D.int))), some (.ml s2), some (.val (.lst (dds.map dDd))), some (.val (.lst ((belowM (minZ t1 t2)).map D.int))), e4, some (.val (.int q)), some (.val (.int N)), some (.ml fs), some (.val (dHis q dds)), some (.val (.lst (t1.map D.int))), some (.val (.lst (t2.map D.int))), e11, none, none] ∧ fs = ([t1, t2, belowM (minZ t1 t2)].take i).map (prT q dds)) ⟨_, _, _, rfl, rfl⟩ ?_ ?_)
  · rintro i t ρ hx ⟨e4, e11, fs, rfl, hf⟩
    have B := hT t (List.mem_of_getElem? hx)
    have hNl : N ≤ t.length := by rw [B.len]; exact Int.le_refl _
    obtain ⟨et, h1, h2, hb⟩ := HH.tell B
    have C := HH.cost B.nu hNl
    have fl : fs.length ≤ 3 := by rw [hf, List.length_map, List.length_take]; exact Nat.min_le_right _ _
    refine ⟨_, rfl, ?_⟩
    refine ss_cons (s_append 7 (d_call L.cost hr (a_cons (d_var 4) (a_cons (d_var 8) a_nil)) ⟨t, q, dds, rfl, C, rfl⟩) ?_ (Nat.lt_of_le_of_lt fl (by decide)))
    refine ss_cons (s_set 11 nd (d := prT q dds t) (DE.eq (d_call L.costs hr (a_cons (d_var 4) (a_cons (d_var 5) (a_cons (d_var 2) a_nil))) ⟨t, q, dds, rfl, C, HH.drops, fun z hz => ⟨(HH.wr z hz).1, by have := (HH.wr z hz).2; omega⟩, rfl⟩) (by unfold prT; rw [et])) ?_)
    refine ss_cons (s_ifF0 (DT.eq (DW.t (w_or (t_neS (d_repr2 hgd hr T.repr (d_ixO 7 (z := prT q dds t) (d_neg d_int) atI_last) h1 h2) (d_repr2 hgd hr T.repr (d_var 11) h1 h2)) fun _ => (w_or1 (t_gt (d_ix (d_var 11) (.tup _)) (d_mul (d_call L.most hr (a_cons (d_var 5) a_nil) ⟨q, rfl, q1, q2, rfl⟩) (d_ix (d_var 11) (.tup _)) (.inl kb)))))) ?_) ?_)
    · rw [decide_eq_true rfl, Bool.not_true, Bool.false_or]
      exact decide_eq_false (by omega)
    · refine ss_nil ⟨_, _, _, rfl, ?_⟩
      rw [hf, take_get hx, List.map_append]; rfl
  · rintro ρ ⟨e4, e11, fs, rfl, hf⟩
    rw [List.take_length] at hf
    subst hf
    have le : ∀ (xs : List Int), (∀ x ∈ xs, 1 ≤ x ∧ x ≤ N) → sumf (tabF (belowM (minZ t1 t2))) xs ≤ sumf (tabF t1) xs ∧ sumf (tabF (belowM (minZ t1 t2))) xs ≤ sumf (tabF t2) xs := fun xs hxs => ⟨sumf_le fun x hx => (hle x (hxs x hx).1 (hxs x hx).2).1, sumf_le fun x hx => (hle x (hxs x hx).1 (hxs x hx).2).2⟩
    have g1 := le _ HH.wr
    have g2 := le _ HH.mineZ
    rw [← HH.told t1, ← HH.told t2, ← HH.told (belowM (minZ t1 t2))] at g1
    rw [← mine_sumf, ← mine_sumf, ← mine_sumf] at g2
    refine ss_frz 7 (ss_cons (s_ret (DE.eq (d_and (p := true) (q := true) (DE.eq (d_le (d_ix (n := 0) (z := .int (toldM (belowM (minZ t1 t2)) q dds)) (d_ix (n := 2) (z := prT q dds (belowM (minZ t1 t2))) (d_var (d := .lst ([t1, t2, belowM (minZ t1 t2)].map (prT q dds))) 7) (.lst _)) (.tup _)) (d_min2 T.min (d_ix (n := 0) (z := .int (toldM t1 q dds)) (d_ix (n := 0) (z := prT q dds t1) (d_var (d := .lst ([t1, t2, belowM (minZ t1 t2)].map (prT q dds))) 7) (.lst _)) (.tup _)) (d_ix (n := 0) (z := .int (toldM t2 q dds)) (d_ix (n := 1) (z := prT q dds t2) (d_var (d := .lst ([t1, t2, belowM (minZ t1 t2)].map (prT q dds))) 7) (.lst _)) (.tup _)))) ?_) fun _ => (d_one (DE.eq (d_le (d_ix (n := 1) (z := .int (mineM (belowM (minZ t1 t2)) dds)) (d_ix (n := 2) (z := prT q dds (belowM (minZ t1 t2))) (d_var (d := .lst ([t1, t2, belowM (minZ t1 t2)].map (prT q dds))) 7) (.lst _)) (.tup _)) (d_min2 T.min (d_ix (n := 1) (z := .int (mineM t1 dds)) (d_ix (n := 0) (z := prT q dds t1) (d_var (d := .lst ([t1, t2, belowM (minZ t1 t2)].map (prT q dds))) 7) (.lst _)) (.tup _)) (d_ix (n := 1) (z := .int (mineM t2 dds)) (d_ix (n := 1) (z := prT q dds t2) (d_var (d := .lst ([t1, t2, belowM (minZ t1 t2)].map (prT q dds))) 7) (.lst _)) (.tup _)))) ?_))) rfl) rfl))
    · congr 1
      refine decide_eq_true ?_
      split <;> omega
    · congr 1
      refine decide_eq_true ?_
      split <;> omega
end
end K76
set_option maxRecDepth 100000
set_option maxHeartbeats 4000000
namespace K76
open PySem PySem.Spec PyProof.Rows L2
section
variable {P : Program} {w : World} {K : PySem.W.Frag} {mg : Str → Option Value} {base : Heap}
theorem law_body (T : Tx mg) (L : LawK P w K mg base) (CH : ClsF K mg "History" ["q", "deeds"]) (CP : ClsF K mg "Prices" ["table"]) {f : Addr} {cdv : Value} {A : Around} {outer : List PySem.Env} {s : Shared} {H : Hp} {E : XK} (hgd : (CxL P w K mg base f cdv A outer s H E).A.guards = some []) (hr : Room 15 (CxL P w K mg base f cdv A outer s H E).A)
    {cs : List Int} (hcs : cs.length ≤ 63) :
    DSs (CxL P w K mg base f cdv A outer s H E) (defBody (top 117)) (start0 ["_law_script", "_law_purse_here", "_law_deeds_here", "_law_both", "_law_table", "_law_q_here", "_law_greatest", "_law_told", "_law_history", "_law_one_here", "_law_other", "_law_due", "_law_mine", "_law_its"] [.kls (cs.map D.int)]) (retK (.bl true)) := by
  have nd := sc_law.nd
  have hp0 : Pu 0 [.lst (cs.map D.int), .int 0, .int 0] := ⟨cs, 0, 0, rfl, hcs, by omega, by omega, by omega⟩
  refine ss_cons (s_own 1 nd (f_callF L.purse hr (a_cons (d_var 0) a_nil) ⟨cs, rfl, hcs, rfl⟩) ?_)
  refine ss_cons (xs_par3o 5 6 7 nd (x_call 1 L.q hr (xa_nil ⟨_, _, _, rfl, .ml _, ⟨0, rfl, by omega, hp0⟩, fun s1 d1 post1 => ?_⟩)))
  obtain ⟨p1, q, rfl, q1, q2⟩ := post1 0 hp0
  refine x_call 1 L.one hr (xa_pure (a_cons (DF.de (f_lst (a_cons d_int (a_cons d_int (a_cons d_int (a_cons d_int a_nil)))))) a_nil) ⟨_, _, _, rfl, .ml _, ⟨_, _, rfl, List.cons_ne_nil _ _, Nat.le_of_ble_eq_true rfl, by omega, p1⟩, fun s2 d2 post2 => ?_⟩)
  obtain ⟨p2, hd2⟩ := post2 _ _ rfl p1
  have hN : ∃ N : Int, d2 = .int N ∧ 1 ≤ N ∧ N ≤ 20 := by
    simp only [List.mem_cons, List.not_mem_nil, or_false] at hd2
    rcases hd2 with rfl | rfl | rfl | rfl
    · exact ⟨1, rfl, by omega, by omega⟩
    · exact ⟨4, rfl, by omega, by omega⟩
    · exact ⟨7, rfl, by omega, by omega⟩
    · exact ⟨20, rfl, by omega, by omega⟩
  obtain ⟨N, rfl, N1, N2⟩ := hN
  refine ⟨[], f_lst a_nil, ?_⟩
  refine ss_cons (xs_set 2 nd (x_call 1 L.dear hr (xa_pure (a_cons (d_var 6) a_nil) ⟨_, _, _, rfl, .ml _, ⟨N, _, rfl, N1, N2, by omega, p2⟩, fun s3 d3 post3 => ?_⟩)))
  obtain ⟨p3, dds, rfl, hD⟩ := post3 N _ rfl N1 p2
  refine ss_cons (xs_if (xt_eqI (x_call 1 L.penny hr (xa_pure (a_cons d_int a_nil) ⟨_, _, _, rfl, .ml _, ⟨3, _, rfl, by omega, by omega, by omega, p3⟩, fun s4 d4 post4 => ?_⟩))))
  obtain ⟨p4, v4, rfl, _, _⟩ := post4 3 _ rfl p3
  refine ⟨v4, 0, rfl, d_int, ?_⟩
  by_cases hv : v4 = 0
  · rw [decide_eq_true hv, if_pos rfl]
    refine ss_cons (xs_set 2 nd (x_call 1 L.deeds hr (xa_cons (x_pure (d_var 5) (xa_cons (x_call 1 L.one hr (xa_cons (x_lst (xa_cons (x_pure d_int (xa_cons (x_pure d_int (xa_cons (x_pure d_int (xa_cons (x_if (xt_eqI (x_call 1 L.penny hr (xa_pure (a_cons d_int a_nil) ⟨_, _, _, rfl, .ml _, ⟨9, _, rfl, by omega, by omega, by omega, p4⟩, fun s5 d5 post5 => ?_⟩)))))))))))))))))))
    obtain ⟨p5, v5, rfl, _, _⟩ := post5 9 _ rfl p4
    refine ⟨v5, 0, rfl, d_int, ?_⟩
    have last : ∀ (m : Int), 0 ≤ m → m ≤ 60 → ∀ s6 s7 d7, Pu (0 + 2 + 1 + 4 + 1 + 1 + 1) s6 → Post_deeds [.int q, .int m, .int N] s6 s7 d7 → DSs (CxL P w K mg base f cdv A outer s H E) ((defBody (top 117)).drop 4) [some (.val (.kls (cs.map D.int))), some (.ml s7), some (.val d7), none, none, some (.val (.int q)), some (.val (.int N)), some (.ml []), none, none, none, none, none, none] (retK (.bl true)) := fun m m0 m1 s6 s7 d7 p6 post => by
      obtain ⟨tk, ds, rfl, R, hl⟩ := post q m N rfl
      exact law_tail T L CH CP hgd hr (tk _ p6) (by omega) N1 N2 ⟨R, q1, q2, by omega, by omega⟩
    have one : ∀ (z : Int), z = 60 ∨ z = 12 → ∀ s6 d6, Post_one [.lst [.int 8, .int 16, .int 30, .int z]] s5 s6 d6 → Pu (0 + 2 + 1 + 4 + 1 + 1 + 1) s6 ∧ ∃ m : Int, d6 = .int m ∧ 0 ≤ m ∧ m ≤ 60 := fun z hz s6 d6 post => by
      obtain ⟨p6, hd⟩ := post _ _ rfl p5
      refine ⟨p6, ?_⟩
      simp only [List.mem_cons, List.not_mem_nil, or_false] at hd
      rcases hd with rfl | rfl | rfl | rfl
      · exact ⟨8, rfl, by omega, by omega⟩
      · exact ⟨16, rfl, by omega, by omega⟩
      · exact ⟨30, rfl, by omega, by omega⟩
      · exact ⟨z, rfl, by omega, by omega⟩
    by_cases hv5 : v5 = 0
    · rw [decide_eq_true hv5, if_pos rfl]
      refine x_pure d_int (xa_nil ⟨Nat.le_of_ble_eq_true rfl, xa_nil ⟨_, _, _, rfl, .ml _, ⟨_, _, rfl, List.cons_ne_nil _ _, Nat.le_of_ble_eq_true rfl, by omega, p5⟩, fun s6 d6 post6 => ?_⟩⟩)
      obtain ⟨p6, m, rfl, m0, m1⟩ := one 60 (.inl rfl) s6 d6 post6
      refine xa_pure (a_cons (d_var 6) a_nil) ⟨_, _, _, rfl, .ml _, ⟨q, m, N, _, rfl, q1, q2, m0, m1, N1, N2, by omega, p6⟩, fun s7 d7 post7 => ?_⟩
      exact ss_nil (last m m0 m1 s6 s7 d7 p6 post7)
    · rw [decide_eq_false hv5, if_neg Bool.false_ne_true]
      refine x_pure d_int (xa_nil ⟨Nat.le_of_ble_eq_true rfl, xa_nil ⟨_, _, _, rfl, .ml _, ⟨_, _, rfl, List.cons_ne_nil _ _, Nat.le_of_ble_eq_true rfl, by omega, p5⟩, fun s6 d6 post6 => ?_⟩⟩)
      obtain ⟨p6, m, rfl, m0, m1⟩ := one 12 (.inr rfl) s6 d6 post6
      refine xa_pure (a_cons (d_var 6) a_nil) ⟨_, _, _, rfl, .ml _, ⟨q, m, N, _, rfl, q1, q2, m0, m1, N1, N2, by omega, p6⟩, fun s7 d7 post7 => ?_⟩
      exact ss_nil (last m m0 m1 s6 s7 d7 p6 post7)
  · rw [decide_eq_false hv, if_neg Bool.false_ne_true]
    exact ss_nil (law_tail T L CH CP hgd hr p4 (by omega) N1 N2 (hD.his q1 q2 N2))
end
end K76
set_option maxRecDepth 100000
set_option maxHeartbeats 4000000
namespace K76
open PySem PySem.Spec PyProof.Rows L2
section
variable {P : Program} {w : World} {K : PySem.W.Frag} {mg : Str → Option Value} {base : Heap}
/-- what the law's end wants -/
def wantT (Hb H : Hp) : VK := fun v H2 => v = .bl true ∧ ∃ Hb2, Nw Hb H Hb2 H2
/-- the law is called, by its caller -/
theorem law_run {f : Addr} {fd : FuncData} (F : FunD K "law" "law" (defArgs (top 117)) (defBody (top 117)) (defScope (top 117)) [] [] f fd) (T : Tx mg) (L : LawK P w K mg base) (CH : ClsF K mg "History" ["q", "deeds"]) (CP : ClsF K mg "Prices" ["table"])
    {s : Shared} {Hb H : Hp} {a : Addr} {cs : List Int} (z : Env0 P w K mg base callerA [] s H) (gd : Gd Hb H) (rp : Rep K mg Hb (.ref a) (.kls (cs.map D.int))) (hcs : cs.length ≤ 63) :
    codeAny (model P w) callerA (.call (.ref f) ⟨[.ref a], []⟩) (CR CX0 [] P w H s (wantT Hb H) fun _ _ _ => False) s := by
  have bt := F.bindsA (ps := ["_law_script"]) (fun _ _ _ _ _ _ us hl => match us, hl with | [_], _ => rfl) s [.ref a] rfl
  have room : Room 16 callerA := ⟨rfl, by decide, by decide⟩
  obtain ⟨oc, od, dV, kV, doc, pm, an, cdv, ct, osl, rfl, at_f, isCode, _, _⟩ := F.ex
  have inK : K.In s.heap := z.mod.kin.keeps fun b o q => (z.bs b o q).1
  have noLim : s.heap.NoLimit := z.mod.nolimit.keeps fun b o q => (z.bs b o q).1
  have S := sc_law
  have kinds : ∀ y ∈ (["_law_script"] : List Str).zip [Value.ref a], (defScope (top 117)).names.lookup y.1 = some .local ∨ ((defScope (top 117)).names.lookup y.1 = some .cell ∧ ((cellsFrom (s.heap.objs.size + 1) (defScope (top 117)).names []).lookup y.1).isSome = true) := fun y hy =>
    (S.par y.1 (List.of_mem_zip hy).1).imp id fun q => ⟨q, PySem.W.cellsFrom_some _ _ _ (.inl q)⟩
  refine codeAny_call_function room.depth (inK _ _ at_f) rfl S.co S.gen rfl (PySem.W.codeRec_of inK isCode) (bt _ _ _ _ ?_)
  refine wpAny_newFunctionEnv_cells S.kind kinds fun env he s1 x => ?_
  cases he
  refine ⟨noLim.keeps x.toInCall.keep, codeAny_func ?_⟩
  have I := inv_start (CX := CX0) (E := fun _ _ _ => False) S room.hd z (vs := [.ref a]) rfl (.cons rfl .nil) x
  have body := law_body T L CH CP (f := f) (cdv := cdv) (A := callerA) (outer := []) (s := s) (H := H) (E := fun _ _ _ => False) rfl (room.deeper _) hcs
  have E0 : En K mg (start0 ["_law_script", "_law_purse_here", "_law_deeds_here", "_law_both", "_law_table", "_law_q_here", "_law_greatest", "_law_told", "_law_history", "_law_one_here", "_law_other", "_law_due", "_law_mine", "_law_its"] [.kls (cs.map D.int)])
      (L2.start ["_law_script", "_law_purse_here", "_law_deeds_here", "_law_both", "_law_table", "_law_q_here", "_law_greatest", "_law_told", "_law_history", "_law_one_here", "_law_other", "_law_due", "_law_mine", "_law_its"] [.ref a]) Hb H := en_start gd (.cons rp .nil)
  have ht : ∃ t, PSs (cxOf CX0 P w K mg base ["_law_script", "_law_purse_here", "_law_deeds_here", "_law_both", "_law_table", "_law_q_here", "_law_greatest", "_law_told", "_law_history", "_law_one_here", "_law_other", "_law_due", "_law_mine", "_law_its"] "law" (defScope (top 117)) f cdv callerA [] s H fun _ _ _ => False) (defBody (top 117)) t ∧
      t { nx := fun _ H' => wantT Hb H .non H', rt := wantT Hb H } (L2.start ["_law_script", "_law_purse_here", "_law_deeds_here", "_law_both", "_law_table", "_law_q_here", "_law_greatest", "_law_told", "_law_history", "_law_one_here", "_law_other", "_law_due", "_law_mine", "_law_its"] [.ref a]) H := by
    refine ⟨_, PSs.nox peSs, ?_⟩
    refine body Hb H _ Hb H ⟨E0, Nw.refl gd.s, fun i y l hi hy => ?_⟩ _ fun o ho => ?_
    · obtain ⟨d, rfl⟩ := start_nv hi
      exact absurd rfl (hy d)
    · cases o with
      | rt e => cases (show e = .bl true from ho); exact fun v Hb2 H2 n rv => ⟨rv.bl_inv, Hb2, n⟩
      | nx ρ => exact nomatch (show D.bl true = .non from ho)
      | bk ρ => exact ho.elim
      | ct ρ => exact ho.elim
      | rte e ρ => exact ho.elim
      | rtf ds => exact ho.elim
  obtain ⟨t, ht, hq⟩ := ht
  refine wpAny_mono (ht.run [] s1 _ H _ I hq) (fun fl s' q => ?_) fun e s' q => q
  cases fl with
  | ret u => exact let ⟨v, _, H', J, rv, qv⟩ := q; ⟨v, H', J.os, J.bare, J.base, J.hok, rv, qv⟩
  | next => exact let ⟨_, _, _, qv⟩ := q; nomatch qv.1
  | brk => exact let ⟨_, _, _, qv⟩ := q; qv.elim
  | cont => exact let ⟨_, _, _, qv⟩ := q; qv.elim
end
end K76
set_option maxRecDepth 100000
set_option maxHeartbeats 4000000
namespace K76
open PySem PySem.Spec PyProof.Rows L2
abbrev tabO : Obj := { cls := .none, data := .fields #[] }
abbrev scrO (vs : List Value) : Obj := { cls := .type "list", data := .seq vs.toArray }
/-- what the caller's heap tells: the script, if no object of the module, and nothing else -/
def capB (K : PySem.W.Frag) (a : Addr) (vs : List Value) (xs : List V) : Hp := fun b => if b = a ∧ K.lookup a = none then some (.frz (scrO vs) (.lst xs)) else none
/-- .. and the table -/
def capH (K : PySem.W.Frag) (a : Addr) (vs : List Value) (xs : List V) : Hp := fun b => if b = tabP then some (.tbl #[]) else capB K a vs xs b
section
variable {P : Program} {w : World} {K : PySem.W.Frag} {mg mb : Str → Option Value} {a c fa : Addr} {vs : List Value} {ns : List Int} {xs : List V} {s : Shared}
theorem cap_cases (b : Addr) : capH K a vs xs b = none ∧ b ≠ tabP ∧ ¬(b = a ∧ K.lookup a = none) ∨ b = tabP ∧ capH K a vs xs b = some (.tbl #[]) ∨ (b = a ∧ b ≠ tabP ∧ K.lookup a = none ∧ capH K a vs xs b = some (.frz (scrO vs) (.lst xs))) := by
  unfold capH capB
  by_cases h1 : b = tabP
  · exact .inr (.inl ⟨h1, if_pos h1⟩)
  · rw [if_neg h1]
    by_cases h2 : b = a ∧ K.lookup a = none
    · exact .inr (.inr ⟨h2.1, h1, h2.2, if_pos h2⟩)
    · exact .inl ⟨if_neg h2, h1, h2⟩
theorem law_end {fd : FuncData} (KX : K.In s.heap) (hns : s.heap.Ns mainGlobals mg) (hb : s.heap.Ns builtinsNs mb) (hbb : ∀ x : Str, x ≠ "__name__" → mb x = bootBuiltins x) (lim : s.heap.NoLimit) (hg : s.gens = #[])
    (tb : s.heap.get? tabP = some tabO) (nt : K.lookup tabP = none) (C : PySem.W.CodeHd s.heap c tabP) (bm : ∃ (m : Addr) (o : Obj), mg "__builtins__" = some (.ref m) ∧ m ≠ builtinsNs ∧ s.heap.get? m = some o ∧ o.cls = .type "module" ∧ o.dict = some builtinsNs ∧ o.data = .plain)
    (ha : s.heap.get? a = some (scrO vs)) (hi : IntsAre vs ns) (hl : ns.length ≤ 63)
    (F : FunD K "law" "law" (defArgs (top 117)) (defBody (top 117)) (defScope (top 117)) [] [] fa fd) (T : Tx mg) (L : ∀ base : Heap, K.In base → base.Ns mainGlobals mg → LamX.TabB base mg c tabP → LawK P w K mg base)
    (CH : ClsF K mg "History" ["q", "deeds"]) (CP : ClsF K mg "Prices" ["table"]) :
    codeAny (model P w) callerA (.call (.ref fa) ⟨[.ref a], []⟩) (fun r s' => r = .ok (.ret (.bool true)) ∧ OldK s.heap s'.heap ∧ s'.os = s.os ∧ AllBare s'.gens) s := by
  have small : ns.length ≤ sizeLine := Nat.le_trans hl (by decide)
  have rv := vals_ints hi
  have len := hi.length
  have apart : a ≠ tabP := fun z => by
    rw [z, tb] at ha
    have bad : Data.fields #[] = Data.seq vs.toArray 0 := congrArg Obj.data (Option.some.inj ha)
    cases bad
  -- what is not the script's, not the table's
  have out : ∀ {b : Addr} {o : Obj}, s.heap.get? b = some o → (∀ us n, o.data ≠ .seq us n) → o.data ≠ .fields #[] → capH K a vs (ns.map V.int) b = none := fun {b o} q n1 n2 => by
    rcases cap_cases (K := K) (a := a) (vs := vs) (xs := ns.map V.int) b with z | ⟨z, _⟩ | ⟨z, _, _, _⟩
    · exact z.1
    · rw [z, tb] at q
      exact absurd (congrArg Obj.data (Option.some.inj q)).symm n2
    · rw [z, ha] at q
      exact absurd (congrArg Obj.data (Option.some.inj q)).symm (n1 _ _)
  have hid : ∀ {b : Addr} {o : Obj}, s.heap.get? b = some o → (∀ us n, o.data ≠ .seq us n) → o.data ≠ .fields #[] → (hidT s.heap (capH K a vs (ns.map V.int))).get? b = some o := fun q n1 n2 => hidT_get q (out q n1 n2)
  have spc : ∀ {b : Addr} {m : Str → Option Value}, s.heap.Ns b m → (hidT s.heap (capH K a vs (ns.map V.int))).Ns b m := fun ⟨o, es, ep, q, d, r⟩ =>
    ⟨o, es, ep, hid q (fun us n y => nomatch d.symm.trans y) (fun y => nomatch d.symm.trans y), d, r⟩
  have inB : K.In (hidT s.heap (capH K a vs (ns.map V.int))) := fun b o q => by
    refine hidT_get (KX b o q) ?_
    rcases cap_cases (K := K) (a := a) (vs := vs) (xs := ns.map V.int) b with z | ⟨z, _⟩ | ⟨z, _, y, _⟩
    · exact z.1
    · rw [z, nt] at q; cases q
    · rw [z, y] at q; cases q
  have md : L2.Mod K mg (hidT s.heap (capH K a vs (ns.map V.int))) := ⟨inB, spc hns, ⟨mb, spc hb, hbb⟩, let ⟨mc, y1, y2⟩ := lim; ⟨mc, spc y1, y2⟩⟩
  have gdif : ∀ {b : Addr} {o : Obj} {m : Str → Option Value}, s.heap.Ns b m → s.heap.get? b = some o → (∀ es ep, o.data ≠ .dict es ep) → False := fun ⟨o', es, ep, q', d, _⟩ q n => by
    rw [q] at q'
    cases q'
    exact n _ _ d
  have TB : LamX.TabB (hidT s.heap (capH K a vs (ns.map V.int))) mg c tabP := by
    refine ⟨?_, ?_, fun z => ?_⟩
    · obtain ⟨o, us, file, tf, flags, tg, inF, text, tt, q, r1, r2, r3, rest⟩ := C
      refine ⟨o, us, file, tf, flags, tg, inF, text, tt, hid q (fun us' n y => nomatch r2.symm.trans y) (fun y => ?_), r1, r2, r3, rest⟩
      have e : us = #[] := Data.fields.inj (r2.symm.trans y)
      rw [e] at r3
      exact nomatch r3
    · obtain ⟨m, o, b1, b2, b3, b4, b5, b6⟩ := bm
      refine ⟨m, o, b1, b2, fun z => ?_, fun z => ?_, hid b3 (fun us n y => nomatch b6.symm.trans y) (fun y => nomatch b6.symm.trans y), b4, b5, b6⟩
      · rw [z] at b3
        exact gdif hns b3 fun es ep y => nomatch b6.symm.trans y
      · rw [z, tb] at b3
        cases b3
        cases b6
    · rw [← z] at tb
      exact gdif hns tb fun es ep y => nomatch y
  have ok : HOk P w (capH K a vs (ns.map V.int)) s.heap := fun b u q => by
    rcases cap_cases (K := K) (a := a) (vs := vs) (xs := ns.map V.int) b with z | ⟨z, y⟩ | ⟨z, _, _, y⟩
    · rw [z.1] at q; cases q
    · rw [y] at q
      cases q
      rw [z]
      exact tb
    · rw [y] at q
      cases q
      rw [z]
      exact ⟨ha, by rw [List.length_map]; exact small, vs, _, rv, ha⟩
  have env : Env0 P w K mg (hidT s.heap (capH K a vs (ns.map V.int))) callerA [] s (capH K a vs (ns.map V.int)) := ⟨rfl, md, fun _ _ q => of_hidT q, Nat.le_of_eq (hidT_size _ _), trivial, (fun b q => absurd q (List.not_mem_nil (a := b))), ok, .of_eq hg⟩
  have tabAt : capH K a vs (ns.map V.int) tabP = some (.tbl #[]) := if_pos rfl
  have gd : Gd (capB K a vs (ns.map V.int)) (capH K a vs (ns.map V.int)) := by
    have nb : capB K a vs (ns.map V.int) tabP = none := if_neg fun z => apart z.1.symm
    refine ⟨fun b o q => ?_, nb, #[], tabAt, ?_, fun pos cv q => ?_⟩
    · have nbt : b ≠ tabP := fun z => by rw [z, nb] at q; cases q
      exact (if_neg nbt : capH K a vs (ns.map V.int) b = capB K a vs (ns.map V.int) b).trans q
    · show TriplesOk []
      unfold TriplesOk
      trivial
    · have q2 : codeAmong pos [] = some cv := q
      unfold codeAmong at q2
      cases q2
  have rp : Rep K mg (capB K a vs (ns.map V.int)) (.ref a) (.kls (ns.map D.int)) := by
    refine .kls ?_ (Reps.ints ns)
    cases q : K.lookup a with
    | none => exact .inl (.inr ⟨scrO vs, if_pos ⟨rfl, q⟩⟩)
    | some o =>
      have e := KX a o q
      rw [ha] at e
      cases e
      exact .inr ⟨_, vs.toArray, _, q, rfl, rfl, rfl, by rw [List.size_toArray, len]; exact small, by simpa using rv⟩
  refine codeAny_mono (law_run F T (L _ inB (spc hns) TB) CH CP env gd rp hl) fun r s' h => ?_
  cases r with
  | error e => exact (h : CX0 [] _ s (fun _ _ _ => False) e s').elim
  | ok fl =>
    cases fl with
    | next => exact (show False from h).elim
    | brk => exact (show False from h).elim
    | cont => exact (show False from h).elim
    | ret u =>
      obtain ⟨v, H', os, bare, un, ok', rel, rfl, _⟩ := h
      have hu : u = Value.bool true := rel
      cases hu
      obtain ⟨more, hm⟩ := un.tbls tabP #[] tabAt
      have grown := ok' tabP _ hm
      have stay : ∀ b o, b ≠ tabP → s.heap.get? b = some o → s'.heap.get? b = some o := fun b o nb q => by
        rcases cap_cases (K := K) (a := a) (vs := vs) (xs := ns.map V.int) b with z | ⟨z, _⟩ | ⟨z, _, _, y⟩
        · exact un.keep b o q z.1 (fun y => absurd y (List.not_mem_nil (a := b))) (fun y => absurd y (List.not_mem_nil (a := b)))
        · exact absurd z nb
        · have y2 := un.frzs b _ _ y
          have e1 := (ok b _ y).1
          have e2 := (ok' b _ y2).1
          rw [q] at e1
          cases e1
          exact e2
      refine ⟨rfl, ⟨fun b o q => ?_, fun b o q => ?_⟩, os, bare⟩
      · by_cases hbt : b = tabP
        · rw [hbt, tb] at q
          cases q
          rw [hbt]
          exact .inr (.inl ⟨(C.tab tb).isCodeTable, rfl, #[], more, rfl, by rw [Array.empty_append]; rw [Array.empty_append] at grown; exact grown⟩)
        · exact .inl (stay b o hbt q)
      · by_cases hbt : b = tabP
        · rw [hbt]; exact ⟨_, grown⟩
        · exact ⟨o, stay b o hbt q⟩
end
end K76
set_option maxRecDepth 100000
set_option maxHeartbeats 0
namespace K76
open PySem PySem.Spec PyProof.Rows L2
/-! ### what the head's heap must tell -/
/-- a def of the top, an __init__ of a class of the top -/
def dTop (i : Nat) (x : Str) (dfl : List He.Dv := []) : He.DefD := { at_ := (x, none), name := x, qual := x, params := defArgs (top i), body := defBody (top i), scope := defScope (top i), dfl := dfl, kwd := [] }
def dIni (i j : Nat) (c qual : Str) : He.DefD := { at_ := (c, some "__init__"), name := "__init__", qual := qual, params := defArgs (inClass (top i) j), body := defBody (inClass (top i) j), scope := defScope (inClass (top i) j), dfl := [], kwd := [] }
def fnL0 : List He.DefD := [dTop 15 "is_integer", dTop 16 "is_within", dTop 17 "need_number", dTop 18 "need_q", dTop 19 "need_size" [.str "size"], dTop 21 "fixed", dTop 34 "rank_in", dTop 35 "cells_of", dTop 36 "room_of", dTop 37 "free_in", dTop 38 "things_in", dTop 39 "are_things"]
def fnL1 : List He.DefD := [dTop 40 "is_region", dTop 41 "are_regions", dTop 42 "are_ranked", dTop 43 "are_apart", dTop 44 "are_later", dTop 45 "have_passed", dTop 46 "is_lawful", dTop 49 "need_layout" [.str "layout"], dTop 50 "laid", dTop 51 "end_of", dTop 52 "spot_for", dTop 53 "with_thing"]
def fnL2 : List He.DefD := [dTop 54 "size_in", dTop 55 "with_word", dTop 56 "rank_of", dTop 57 "empty", dTop 58 "places", dTop 59 "length", dTop 60 "room_for", dTop 61 "put_in", dTop 62 "dropped", dTop 65 "is_deed", dTop 66 "seat_of", dTop 67 "lesser_things"]
def fnL3 : List He.DefD := [dTop 68 "falls_of", dTop 69 "rank_drawn", dTop 70 "volume", dTop 71 "laid_anew", dTop 72 "led", dTop 73 "copies_of", dTop 74 "tidying", dTop 78 "need_history" [.str "history"], dTop 79 "done", dTop 80 "course_of", dTop 81 "sizes_of", dTop 82 "writes"]
def fnL4 : List He.DefD := [dTop 87 "are_numbers", dTop 88 "need_numbers" [.int 0], dTop 89 "fault_in", dTop 90 "least_costs", dTop 91 "log_of", dTop 93 "below", dTop 94 "cost", dTop 95 "most", dTop 97 "_law_purse", dTop 98 "_law_penny", dTop 99 "_law_one", dTop 100 "_law_rank"]
def fnL5 : List He.DefD := [dTop 101 "_law_free", dTop 102 "_law_laid", dTop 103 "_law_begin", dTop 104 "_law_anew", dTop 105 "_law_gone", dTop 106 "_law_done", dTop 107 "_law_files", dTop 108 "_law_spots", dTop 109 "_law_copied", dTop 110 "_law_written", dTop 111 "_law_costs", dTop 112 "_law_deeds"]
def fnL6 : List He.DefD := [dTop 113 "_law_dear", dTop 114 "_law_q", dTop 115 "_law_below", dTop 116 "_law_prices", dTop 117 "law", dIni 47 0 "Layout" "Layout.__init__", dIni 77 0 "History" "History.__init__", dIni 92 0 "Prices" "Prices.__init__", dIni 22 0 "Paper" "Paper.__init__"]
def fnL : List He.DefD := fnL0 ++ fnL1 ++ fnL2 ++ fnL3 ++ fnL4 ++ fnL5 ++ fnL6
def faL0 : List He.Fa := [.glo "is_integer", .glo "is_within", .glo "need_number", .glo "need_q", .glo "need_size", .glo "fixed", .glo "rank_in", .glo "cells_of", .glo "room_of", .glo "free_in", .glo "things_in", .glo "are_things"]
def faL1 : List He.Fa := [.glo "is_region", .glo "are_regions", .glo "are_ranked", .glo "are_apart", .glo "are_later", .glo "have_passed", .glo "is_lawful", .glo "need_layout", .glo "laid", .glo "end_of", .glo "spot_for", .glo "with_thing"]
def faL2 : List He.Fa := [.glo "size_in", .glo "with_word", .glo "rank_of", .glo "empty", .glo "places", .glo "length", .glo "room_for", .glo "put_in", .glo "dropped", .glo "is_deed", .glo "seat_of", .glo "lesser_things"]
def faL3 : List He.Fa := [.glo "falls_of", .glo "rank_drawn", .glo "volume", .glo "laid_anew", .glo "led", .glo "copies_of", .glo "tidying", .glo "need_history", .glo "done", .glo "course_of", .glo "sizes_of", .glo "writes"]
def faL4 : List He.Fa := [.glo "are_numbers", .glo "need_numbers", .glo "fault_in", .glo "least_costs", .glo "log_of", .glo "below", .glo "cost", .glo "most", .glo "_law_purse", .glo "_law_penny", .glo "_law_one", .glo "_law_rank"]
def faL5 : List He.Fa := [.glo "_law_free", .glo "_law_laid", .glo "_law_begin", .glo "_law_anew", .glo "_law_gone", .glo "_law_done", .glo "_law_files", .glo "_law_spots", .glo "_law_copied", .glo "_law_written", .glo "_law_costs", .glo "_law_deeds"]
def faL6 : List He.Fa := [.glo "_law_dear", .glo "_law_q", .glo "_law_below", .glo "_law_prices", .glo "law", .glo "Layout", .glo "History", .glo "Prices", .glo "Paper", .glo "Tidying", .glo "PAYLOAD_WORDS", .glo "ROOM_WORDS"]
def faL7 : List He.Fa := [.free "sum", .free "len", .free "all", .free "any", .free "min", .free "max", .free "sorted", .free "tuple", .free "list", .free "dict", .free "set", .free "zip"]
def faL8 : List He.Fa := [.free "enumerate", .free "range", .free "abs", .free "int", .free "bool", .free "repr", .free "isinstance", .free "super", .int "LEAST_Q" 2, .int "MOST_Q" 64, .int "MOST_SIZE" 4096, .int "MOST_RANK" 12]
def faL9 : List He.Fa := [.int "MOST_DEEDS" 2000, .int "MOST_NUMBERS" 400, .str "FILE" "file", .str "HOLE" "hole", .str "GONE" "gone", .str "SHADE" "shade", .cls "Layout", .noat "Layout" "q", .noat "Layout" "puts", .noat "Layout" "regions", .cls "History", .noat "History" "q"]
def faL10 : List He.Fa := [.noat "History" "deeds", .cls "Prices", .noat "Prices" "table", .cls "Tidying", .noat "Tidying" "word", .noat "Tidying" "parts", .noat "Tidying" "rank", .noat "Tidying" "layout", .noat "Tidying" "far", .noat "Tidying" "copies", .mkr "Layout", .mkr "History"]
def faL11 : List He.Fa := [.mkr "Prices", .mkr "Tidying"]
def faL : List He.Fa := faL0 ++ faL1 ++ faL2 ++ faL3 ++ faL4 ++ faL5 ++ faL6 ++ faL7 ++ faL8 ++ faL9 ++ faL10 ++ faL11
/-- an own class, as isinstance asks -/
def insB (K : PySem.W.Frag) (x : Str) : Bool := He.eqO (PySem.W.findIn K (.ref (He.ga K x)) "__class__") (some (some (.builtin "object.__class__"))) && (He.eqO (PySem.W.specialIn K (.builtin "object.__class__") "__get__") (some (some (.builtin "getset_descriptor.__get__"))) &&
  (decide (PySem.W.takesIn K (.builtin "object.__class__") = some true) && (decide (PySem.W.mroIn K (He.ga K x) (.type "object") = some true) && decide (PySem.W.kitOne K (.ref (He.ga K x)) (.ref (He.ga K x)) = some true))))
def kdV : Value → Nat
  | .str _ _ => 1
  | .int _ _ => 2
  | .bool _ => 3
  | _ => 0
/-- the code object of copies_of, its table -/
def cdB (K : PySem.W.Frag) (c : Addr) : Bool := match K.lookup c with
  | some ⟨.type t, _, .fields vs, _⟩ => decide (t = "code") && (decide ((vs[11]? : Option Value) = some (.ref tabP)) && (decide (kdV (vs.getD 18 .none) = 1) && (decide (kdV (vs.getD 7 .none) = 2) && (decide (kdV (vs.getD 9 .none) = 3) && decide (kdV (vs.getD 10 .none) = 2)))))
  | _ => false
def ofB (K : PySem.W.Frag) : Bool := match K.lookup (He.fAd K ("copies_of", none)) with
  | some ⟨_, _, .func fd, _⟩ => (match fd.code with
    | .ref c => !(c == tabP) && cdB K c
    | _ => false)
  | _ => false
/-- Tidying's __init__: what cannot be asked by a Bool, then the rest -/
abbrev TiV : Type := Option (Str × Str × Arguments × FuncBody × Scope × Addr × List Str × Addr)
def tiF (K : PySem.W.Frag) : Addr := He.fAd K ("Tidying", some "__init__")
def tiO (K : PySem.W.Frag) : TiV := match K.lookup (tiF K) with
  | some ⟨_, _, .func fd, _⟩ => some (fd.name, fd.qualname, fd.params, fd.body, fd.scope, fd.globals, fd.closure.map (·.1), fd.builtins)
  | _ => none
def tiW : TiV := some ("__init__", "Tidying.__init__", defArgs (inClass (top 64) 0), .stmts (defBody (inClass (top 64) 0)), defScope (inClass (top 64) 0), mainGlobals, ["__class__"], builtinsNs)
def nonB : Value → Bool
  | .none => true
  | _ => false
def mainF : Str := PySem.Challenge.pw_priceblind_k76_whole_thrifty_by_every_pr.main.file
def filB (K : PySem.W.Frag) (c : Addr) : Bool := match K.lookup c with
  | some ⟨_, _, .fields vs, _⟩ => (match (vs[2]? : Option Value) with
    | some (.str file _) => mainF == file
    | _ => false)
  | _ => false
/-- the class in the cell; the __init__ that super() finds -/
def celB (K : PySem.W.Frag) (cc : Addr) : Bool := match K.lookup cc with
  | some ⟨_, _, .cell (some (.ref D)), _⟩ => (PySem.W.clsIn K D).isSome && (decide (PySem.W.mroIn K (He.ga K "Tidying") (.ref D) = some true) && He.eqO (PySem.W.ks_superIn K (He.ga K "Tidying") D "__init__") (some (some (.ref (He.fAd K ("Paper", some "__init__"))))))
  | _ => false
def tiB (K : PySem.W.Frag) : Bool := match K.lookup (tiF K) with
  | some ⟨_, _, .func fd, _⟩ => nonB fd.defaults && (nonB fd.kwdefaults && (match fd.code with
    | .ref cda => PySem.W.codeIn K (.ref cda) "Tidying.__init__" && (filB K cda && (match fd.closure with
      | [p] => celB K p.2
      | _ => false))
    | _ => false))
  | _ => false
def xtB (K : PySem.W.Frag) : Bool := insB K "Layout" && (insB K "History" && (decide (PySem.W.kitAny K (.ref (He.ga K "Layout")) [.type "list", .type "tuple"] = some false) && (ofB K && (tiB K &&
  (decide (PySem.W.typeIn K (.ref (He.fAd K ("Paper", some "__init__"))) = some (.type "function")) && (PySem.W.fnIn K (He.fAd K ("Paper", some "__init__")) && (He.eqO (PySem.W.nsIn K cStatics "thirdparty.any") (some none) &&
  (He.tupB K "PAYLOAD_WORDS" [.str "file", .str "hole"] && He.tupB K "ROOM_WORDS" [.str "file", .str "gone", .str "shade"]))))))))
/-- the table is empty as yet -/
def emB (o : Option Obj) : Bool := match o with
  | some ⟨.none, none, .fields vs, sl⟩ => decide (vs.size = 0) && decide (sl.size = 0)
  | _ => false
/-- what the objects at these places name (of a code object: nothing), step by step -/
def nxO (o : Obj) : List Addr := match o.data with
  | .fields _ => []
  | _ => He.refsD o
def lvQ (g : Addr → Option Obj) (as : List Addr) : List Addr := as.flatMap fun a => match g a with
  | some o => nxO o
  | none => []
def lvN (g : Addr → Option Obj) : Nat → List Addr → List Addr
  | 0, as => as
  | n + 1, as => as ++ lvN g n (lvQ g as)
def asQ (g : Addr → Option Obj) : List Addr := (cStatics :: lvN g 4 [mainGlobals]).filter fun b => !(b == tabP)
abbrev AlQ : Type := He.AlD × Bool × TiV
def obK (K : PySem.W.Frag) (o : Option Obj) : AlQ := (He.obsD faL fnL K, xtB K && emB o, tiO K)
def obQ (g : Addr → Option Obj) : AlQ := obK (He.frG g (asQ g)) (g tabP)
def vaQ : AlQ := (He.valD fnL, true, tiW)
structure SaysQ (K : PySem.W.Frag) (h : Heap) : Prop where
  inn : K.In h
  says : He.SaysD faL fnL K
  xt : xtB K = true
  ti : tiO K = tiW
  no : K.lookup tabP = none
  tab : h.get? tabP = some tabO
theorem frG_no {g : Addr → Option Obj} {a : Addr} : ∀ as : List Addr, a ∉ as → (He.frG g as).lookup a = none
  | [], _ => rfl
  | b :: r, h => by
    have h2 : a ∉ r := fun z => h (List.mem_cons_of_mem _ z)
    have h3 : (a == b) = false := beq_eq_false_iff_ne.mpr fun z => h (by rw [z]; exact List.mem_cons_self ..)
    have ih := frG_no (g := g) r h2
    unfold He.frG at ih ⊢
    rw [List.filterMap_cons]
    cases q : g b with
    | none => exact ih
    | some o => exact (by simp only [Option.map_some, List.lookup_cons, h3]; exact ih)
theorem emB_ok {o : Option Obj} (h : emB o = true) : o = some tabO := by
  unfold emB at h
  split at h
  · next vs sl =>
    obtain ⟨h1, h2⟩ := Bool.and_eq_true_iff.mp h
    have e1 : vs = #[] := Array.eq_empty_of_size_eq_zero (of_decide_eq_true h1)
    have e2 : sl = #[] := Array.eq_empty_of_size_eq_zero (of_decide_eq_true h2)
    rw [e1, e2]
  · cases h
theorem saysQ_of {h : Heap} (e : obQ h.get? = vaQ) : SaysQ (He.frG h.get? (asQ h.get?)) h := by
  have e1 : He.obsD faL fnL (He.frG h.get? (asQ h.get?)) = He.valD fnL := congrArg (fun z : AlQ => z.1) e
  have e2 : (xtB (He.frG h.get? (asQ h.get?)) && emB (h.get? tabP)) = true := congrArg (fun z : AlQ => z.2.1) e
  have e3 : tiO (He.frG h.get? (asQ h.get?)) = tiW := congrArg (fun z : AlQ => z.2.2) e
  obtain ⟨x1, x2⟩ := Bool.and_eq_true_iff.mp e2
  refine ⟨He.frG_in, e1, x1, e3, frG_no _ fun z => ?_, emB_ok x2⟩
  have := (List.mem_filter.mp z).2
  simp at this
def hkQ : PySem.W.Hook where
  α := AlQ
  obs := fun s => obQ s.heap.get?
  val := fun _ => vaQ
  says := fun _ h => ∃ K : PySem.W.Frag, SaysQ K h
  of := fun _ _ e => ⟨_, saysQ_of e⟩
  keeps := fun _ _ _ ⟨K, c⟩ k => ⟨K, c.inn.keeps k, c.says, c.xt, c.ti, c.no, k _ _ c.tab⟩
def obS (s : PySem.W.SharedT) : AlQ := obQ (HandSHeadRun.getT s)
theorem obS_eq (s : PySem.W.SharedT) : obS s = hkQ.obs s.abs := by
  have e : HandSHeadRun.getT s = s.abs.heap.get? := funext (HandSHeadRun.getT_eq s)
  show obQ (HandSHeadRun.getT s) = obQ s.abs.heap.get?
  rw [e]
end K76
set_option maxRecDepth 1000000
set_option maxHeartbeats 0
namespace K76
open PySem PySem.Spec PyProof.Rows L2
abbrev RWr : PySem.W.OpenRow := PySem.W.OpenLaw.row PySem.Challenge.rw_priceblind_k76_whole_thrifty_by_every_pr
def loo0 : List Str := ["__name__", "StripError", "BadNumber", "BadLayout", "BadDeeds", "BadPrices", "Misfit", "Missing", "NoFile", "TooMany", "Impossible", "LEAST_Q", "MOST_Q", "MOST_SIZE"]
def loo1 : List Str := ["is_integer", "is_within", "need_number", "need_q", "need_size", "fixed", "Paper", "Denial", "MOST_RANK", "FILE", "HOLE", "GONE", "SHADE", "PAYLOAD_WORDS"]
def loo2 : List Str := ["ROOM_WORDS", "ROOM", "BAR", "rank_in", "cells_of", "room_of", "free_in", "things_in", "are_things", "is_region", "are_regions", "are_ranked", "are_apart", "are_later"]
def loo3 : List Str := ["have_passed", "is_lawful", "Layout", "things_items", "need_layout", "laid", "end_of", "spot_for", "with_thing", "size_in", "with_word", "rank_of", "empty", "places"]
def loo4 : List Str := ["length", "room_for", "put_in", "dropped", "Tidying", "is_deed", "seat_of", "lesser_things", "falls_of", "rank_drawn", "volume", "laid_anew", "led", "copies_of"]
def loo5 : List Str := ["tidying", "MOST_DEEDS", "History", "need_history", "done", "course_of", "sizes_of", "writes", "MOST_NUMBERS", "Falls", "Tears", "are_numbers", "need_numbers", "fault_in"]
def loo6 : List Str := ["least_costs", "log_of", "Prices", "below", "cost", "most", "_law_purse", "_law_penny", "_law_one", "_law_rank", "_law_free", "_law_laid", "_law_begin", "_law_anew"]
def loo7 : List Str := ["_law_gone", "_law_done", "_law_files", "_law_spots", "_law_copied", "_law_written", "_law_costs", "_law_deeds", "_law_dear", "_law_q", "_law_below", "_law_prices"]
def looN : List Str := loo0 ++ (loo1 ++ (loo2 ++ (loo3 ++ (loo4 ++ (loo5 ++ (loo6 ++ loo7))))))
/-- the head's end -/
noncomputable abbrev endQ (w : World) (os : OsState) : Option PySem.W.SharedT := HandSHeadRun.endF (HandSHeadRun.stepQ (HandSHeadRun.denQ HandSHeadRun.tabQ) RWr.prog w) 8000 RWr.prog w os
/-- two looks at one end -/
theorem map_two {α β γ : Type} {o : Option α} {f : α → β} {g : α → γ} {b : β} {c : γ} (h1 : o.map f = some b) (h2 : o.map g = some c) : o.map (fun s => (f s, g s)) = some (b, c) := by
  cases o with
  | none => cases h1
  | some s => exact congrArg some (Prod.ext (Option.some.inj h1) (Option.some.inj h2))
theorem runA (w : World) (os : OsState) : (endQ w os).map (fun s => HandSHeadRun.looksF RWr.prog (PySem.W.boot_heap w.params) s.abs) = some true := by
  kernel_rfl
theorem runB (w : World) (os : OsState) : (endQ w os).map (fun s => HandSHeadRun.seenQ (PySem.W.view RWr.prog [117]) looN (importedModules RWr.prog.main.body) (fun s => PySem.W.xlAt (PySem.W.view RWr.prog [117]) [] s && PySem.W.recOk RWr.toRowW.records s) s.abs) = some (PySem.W.openGood (PySem.W.view RWr.prog [117]) looN) := by
  kernel_rfl
theorem runC (w : World) (os : OsState) : (endQ w os).map (fun s => obS s) = some vaQ := by
  kernel_rfl
theorem runQ (w : World) : HandSHeadRun.RunEq RWr (PySem.W.view RWr.prog [117]) hkQ obS 8000 looN w := fun os =>
  map_two (runA w os) (map_two (runB w os) (runC w os))
end K76
set_option maxRecDepth 100000
set_option maxHeartbeats 0
namespace K76
open PySem PySem.Spec PyProof.Rows L2
section
variable {w : World} {K : PySem.W.Frag} {h base : Heap} {mg : Str → Option Value}
abbrev Pg : Program := (PySem.Challenge.rw_priceblind_k76_whole_thrifty_by_every_pr).prog
theorem SaysQ.glo (c : SaysQ K h) (G : h.Ns mainGlobals mg) {x : Str} (k : Nat) (hk : faL[k]? = some (.glo x)) : mg x = some (.ref (He.ga K x)) := He.glo_ok c.inn G (c.says.fact k hk)
theorem SaysQ.fre (c : SaysQ K h) (G : h.Ns mainGlobals mg) {x : Str} (k : Nat) (hk : faL[k]? = some (.free x)) : mg x = none := He.free_ok c.inn G (c.says.fact k hk)
theorem SaysQ.fnT (c : SaysQ K h) (G : h.Ns mainGlobals mg) {i : Nat} {x : Str} (j k : Nat) (hj : fnL[j]? = some (dTop i x)) (hk : faL[k]? = some (.glo x)) : FnT K mg i x :=
  let ⟨fd, F⟩ := c.says.def_ j hj
  ⟨_, fd, F, c.glo G k hk⟩
theorem SaysQ.fnTD (c : SaysQ K h) (G : h.Ns mainGlobals mg) {i : Nat} {x : Str} {d : He.Dv} {v : V} (j k : Nat) (hj : fnL[j]? = some (dTop i x [d])) (hk : faL[k]? = some (.glo x)) (hv : d.v K = v) : FnTD K mg i x v := by
  obtain ⟨fd, F⟩ := c.says.def_ j hj
  subst hv
  exact ⟨_, fd, F, c.glo G k hk⟩
theorem SaysQ.ini (c : SaysQ K h) (G : h.Ns mainGlobals mg) {i n : Nat} {x q : Str} (j k m : Nat) (hj : fnL[j]? = some (dIni i n x q)) (hk : faL[k]? = some (.glo x)) (hm : faL[m]? = some (.mkr x)) : IniT K mg i n x q :=
  let ⟨fd, F⟩ := c.says.def_ j hj
  ⟨_, _, fd, F, c.glo G k hk, He.mkr_ok (c.says.fact m hm)⟩
theorem SaysQ.numK (c : SaysQ K h) (G : h.Ns mainGlobals mg) {x : Str} {i : Int} (k : Nat) (hk : faL[k]? = some (.int x i)) : GlK K mg x (.int i) :=
  let ⟨t, e⟩ := He.int_ok c.inn G (c.says.fact k hk)
  ⟨_, .int i, e, ⟨t, rfl⟩, fun _ => .int i⟩
theorem SaysQ.strK (c : SaysQ K h) (G : h.Ns mainGlobals mg) {x z : Str} (k : Nat) (hk : faL[k]? = some (.str x z)) : GlK K mg x (.str z) :=
  let ⟨t, e⟩ := He.str_ok c.inn G (c.says.fact k hk)
  ⟨_, .str z, e, ⟨t, rfl⟩, fun _ => .str z⟩
theorem SaysQ.bits (c : SaysQ K h) : insB K "Layout" = true ∧ insB K "History" = true ∧ PySem.W.kitAny K (.ref (He.ga K "Layout")) [.type "list", .type "tuple"] = some false ∧ ofB K = true ∧ tiB K = true ∧ PySem.W.typeIn K (.ref (He.fAd K ("Paper", some "__init__"))) = some (.type "function") ∧
    PySem.W.fnIn K (He.fAd K ("Paper", some "__init__")) = true ∧ PySem.W.nsIn K cStatics "thirdparty.any" = some none ∧ He.tupB K "PAYLOAD_WORDS" [.str "file", .str "hole"] = true ∧ He.tupB K "ROOM_WORDS" [.str "file", .str "gone", .str "shade"] = true := by
  have x := c.xt
  unfold xtB at x
  simp only [Bool.and_eq_true] at x
  obtain ⟨x1, x2, x3, x4, x5, x6, x7, x8, x9, x10⟩ := x
  exact ⟨x1, x2, of_decide_eq_true x3, x4, x5, of_decide_eq_true x6, x7, He.eqO_ok x8, x9, x10⟩
theorem insC_of {x : Str} (h1 : insB K x = true) (h2 : Cls K (He.ga K x)) : C8.InsC K (He.ga K x) := by
  unfold insB at h1
  simp only [Bool.and_eq_true] at h1
  obtain ⟨a1, a2, a3, a4, a5⟩ := h1
  exact ⟨h2, He.eqO_ok a1, He.eqO_ok a2, of_decide_eq_true a3, of_decide_eq_true a4, of_decide_eq_true a5⟩
theorem SaysQ.tx (c : SaysQ K h) (G : h.Ns mainGlobals mg) : Tx mg := ⟨c.fre G 84 rfl, c.fre G 85 rfl, c.fre G 86 rfl, c.fre G 87 rfl, c.fre G 88 rfl, c.fre G 89 rfl, c.fre G 90 rfl, c.fre G 91 rfl, c.fre G 92 rfl, c.fre G 93 rfl, c.fre G 94 rfl, c.fre G 95 rfl, c.fre G 96 rfl, c.fre G 97 rfl, c.fre G 98 rfl, c.fre G 99 rfl, c.fre G 100 rfl, c.fre G 101 rfl, c.fre G 102 rfl, c.fre G 103 rfl⟩
theorem SaysQ.clLayout (c : SaysQ K h) (G : h.Ns mainGlobals mg) : ClsF K mg "Layout" ["q", "puts", "regions"] := ⟨fun f hf C e => by
  cases (c.glo G 77 rfl).symm.trans e
  refine ⟨He.cls_ok (c.says.fact 114 (f := .cls "Layout") rfl), ?_⟩
  simp only [List.mem_cons, List.not_mem_nil, or_false] at hf
  rcases hf with rfl | rfl | rfl
  · exact He.noat_ok (c.says.fact 115 (f := .noat "Layout" "q") rfl)
  · exact He.noat_ok (c.says.fact 116 (f := .noat "Layout" "puts") rfl)
  · exact He.noat_ok (c.says.fact 117 (f := .noat "Layout" "regions") rfl)⟩
theorem SaysQ.clHistory (c : SaysQ K h) (G : h.Ns mainGlobals mg) : ClsF K mg "History" ["q", "deeds"] := ⟨fun f hf C e => by
  cases (c.glo G 78 rfl).symm.trans e
  refine ⟨He.cls_ok (c.says.fact 118 (f := .cls "History") rfl), ?_⟩
  simp only [List.mem_cons, List.not_mem_nil, or_false] at hf
  rcases hf with rfl | rfl
  · exact He.noat_ok (c.says.fact 119 (f := .noat "History" "q") rfl)
  · exact He.noat_ok (c.says.fact 120 (f := .noat "History" "deeds") rfl)⟩
theorem SaysQ.clPrices (c : SaysQ K h) (G : h.Ns mainGlobals mg) : ClsF K mg "Prices" ["table"] := ⟨fun f hf C e => by
  cases (c.glo G 79 rfl).symm.trans e
  refine ⟨He.cls_ok (c.says.fact 121 (f := .cls "Prices") rfl), ?_⟩
  simp only [List.mem_cons, List.not_mem_nil, or_false] at hf
  subst hf
  · exact He.noat_ok (c.says.fact 122 (f := .noat "Prices" "table") rfl)⟩
theorem SaysQ.clTidying (c : SaysQ K h) (G : h.Ns mainGlobals mg) : ClsF K mg "Tidying" ["word", "parts", "rank", "layout", "far", "copies"] := ⟨fun f hf C e => by
  cases (c.glo G 81 rfl).symm.trans e
  refine ⟨He.cls_ok (c.says.fact 123 (f := .cls "Tidying") rfl), ?_⟩
  simp only [List.mem_cons, List.not_mem_nil, or_false] at hf
  rcases hf with rfl | rfl | rfl | rfl | rfl | rfl
  · exact He.noat_ok (c.says.fact 124 (f := .noat "Tidying" "word") rfl)
  · exact He.noat_ok (c.says.fact 125 (f := .noat "Tidying" "parts") rfl)
  · exact He.noat_ok (c.says.fact 126 (f := .noat "Tidying" "rank") rfl)
  · exact He.noat_ok (c.says.fact 127 (f := .noat "Tidying" "layout") rfl)
  · exact He.noat_ok (c.says.fact 128 (f := .noat "Tidying" "far") rfl)
  · exact He.noat_ok (c.says.fact 129 (f := .noat "Tidying" "copies") rfl)⟩
theorem SaysQ.cs (c : SaysQ K h) (G : h.Ns mainGlobals mg) : Cs K mg := ⟨c.numK G 104 rfl,
  c.numK G 105 rfl,
  c.numK G 106 rfl,
  c.numK G 107 rfl,
  c.strK G 110 rfl,
  c.strK G 111 rfl,
  c.strK G 112 rfl,
  c.strK G 113 rfl,
  ⟨_, .ref _, c.glo G 82 rfl, rfl, fun H => .kst (He.tupB_ok c.bits.2.2.2.2.2.2.2.2.1 H) (.cons (.str _) (.cons (.str _) .nil))⟩,
  ⟨_, .ref _, c.glo G 83 rfl, rfl, fun H => .kst (He.tupB_ok c.bits.2.2.2.2.2.2.2.2.2 H) (.cons (.str _) (.cons (.str _) (.cons (.str _) .nil)))⟩,
  c.numK G 108 rfl,
  c.numK G 109 rfl⟩
theorem SaysQ.isLay (c : SaysQ K h) (G : h.Ns mainGlobals mg) (X : Cx) (e1 : X.K = K) (e2 : X.mg = mg) : IsC X "Layout" := by
  subst e1 e2
  exact ⟨_, c.glo G 77 rfl, insC_of c.bits.1 (He.cls_ok (c.says.fact 114 (f := .cls "Layout") rfl))⟩
theorem SaysQ.isHis (c : SaysQ K h) (G : h.Ns mainGlobals mg) (X : Cx) (e1 : X.K = K) (e2 : X.mg = mg) : IsC X "History" := by
  subst e1 e2
  exact ⟨_, c.glo G 78 rfl, insC_of c.bits.2.1 (He.cls_ok (c.says.fact 118 (f := .cls "History") rfl))⟩
theorem SaysQ.noLay (c : SaysQ K h) (G : h.Ns mainGlobals mg) (X : Cx) (e1 : X.K = K) (e2 : X.mg = mg) : IsNo X "Layout" := by
  subst e1 e2
  have q := insC_of c.bits.1 (He.cls_ok (c.says.fact 114 (f := .cls "Layout") rfl))
  exact ⟨_, c.glo G 77 rfl, c.bits.2.2.1, fun H l dx fvs e => .base (.ins e q.cl q.ha q.hn q.htk q.hm)⟩
theorem nonB_ok {v : Value} (h : nonB v = true) : v = .none := by cases v <;> first | rfl | cases h
theorem filB_ok {c : Addr} (h : filB K c = true) : ∃ ccl cdd vs ccs file tf, K.lookup c = some ⟨ccl, cdd, .fields vs, ccs⟩ ∧ (vs[2]? : Option Value) = some (.str file tf) ∧ (mainF == file) = true := by
  unfold filB at h
  split at h
  · next e => split at h
              · next e2 => exact ⟨_, _, _, _, _, _, e, e2, h⟩
              · cases h
  · cases h
theorem celB_ok {c : Addr} (h : celB K c = true) : ∃ cl cld D csl, K.lookup c = some ⟨cl, cld, .cell (some (.ref D)), csl⟩ ∧ (∃ cdD, PySem.W.clsIn K D = some cdD) ∧ PySem.W.mroIn K (He.ga K "Tidying") (.ref D) = some true ∧
    PySem.W.ks_superIn K (He.ga K "Tidying") D "__init__" = some (some (.ref (He.fAd K ("Paper", some "__init__")))) := by
  unfold celB at h
  split at h
  · next e =>
    simp only [Bool.and_eq_true] at h
    exact ⟨_, _, _, _, e, Option.isSome_iff_exists.mp h.1, of_decide_eq_true h.2.1, He.eqO_ok h.2.2⟩
  · cases h
theorem SaysQ.tid (c : SaysQ K h) (G : h.Ns mainGlobals mg) : TidT Pg K mg := by
  obtain ⟨_, _, _, _, b, b6, b7, b8, _⟩ := c.bits
  have t := c.ti
  unfold tiB at b
  unfold tiO at t
  cases lk : K.lookup (tiF K) with
  | none => rw [lk] at t; cases t
  | some ob =>
    obtain ⟨oc, od, dt, osl⟩ := ob
    rw [lk] at t b
    cases dt with
    | func fd =>
      obtain ⟨n1, n2, n3, n4, n5, n6, n7, n8, n9, n10, n11, n12, n13, n14, n15⟩ := fd
      have t2 : (some (n1, n2, n3, n4, n5, n6, n7.map (·.1), n15) : TiV) = tiW := t
      unfold tiW at t2
      simp only [Option.some.injEq, Prod.mk.injEq] at t2
      obtain ⟨h1, h2, h3, h4, h5, h6, h7, h8⟩ := t2
      subst h1 h2 h3 h4 h5 h6 h8
      simp only [Bool.and_eq_true] at b
      obtain ⟨d1, d2, b⟩ := b
      cases nonB_ok d1
      cases nonB_ok d2
      cases n13 with
      | ref cda =>
        have b : (PySem.W.codeIn K (.ref cda) "Tidying.__init__" && (filB K cda && (match (generalizing := false) n7 with
          | [p] => celB K p.2
          | _ => false))) = true := b
        simp only [Bool.and_eq_true] at b
        obtain ⟨k1, k2, k3⟩ := b
        cases n7 with
        | nil => cases k3
        | cons p r =>
          cases r with
          | nil =>
            obtain ⟨pn, cc⟩ := p
            have hp : pn = "__class__" := (List.cons.inj h7).1
            subst hp
            obtain ⟨cl, cld, D, csl, s1, s2, s3, s4⟩ := celB_ok (show celB K cc = true from k3)
            obtain ⟨fdP, FP⟩ := c.says.def_ 80 (d := dIni 22 0 "Paper" "Paper.__init__") rfl
            refine ⟨He.ga K "Tidying", D, tiF K, cc, cda, _, oc, od, n10, n11, n14, n12, osl, lk, k1, ⟨⟨_, _, _, _, _, lk, rfl, rfl⟩, filB_ok k2, ⟨_, _, _, s1⟩, s2, s3, by kernel_rfl, c.fre G 103 rfl, s4, b6, b7, b8⟩, ⟨fdP, FP⟩, c.glo G 81 rfl, He.mkr_ok (c.says.fact 133 (f := .mkr "Tidying") rfl)⟩
          | cons _ _ => cases k3
      | _ => cases b
    | _ => cases t
theorem cdB_ok {c : Addr} (X : K.In h) (n : c ≠ tabP) (b : cdB K c = true) : PySem.W.CodeHd h c tabP := by
  unfold cdB at b
  split at b
  · next t od vs osl lk =>
    simp only [Bool.and_eq_true, decide_eq_true_eq] at b
    obtain ⟨b1, b2, b3, b4, b5, b6⟩ := b
    have st : ∀ v : Value, kdV v = 1 → ∃ x t, v = .str x t := fun v z => by cases v <;> first | exact ⟨_, _, rfl⟩ | cases z
    have nu : ∀ v : Value, kdV v = 2 → ∃ x t, v = .int x t := fun v z => by cases v <;> first | exact ⟨_, _, rfl⟩ | cases z
    have bo : ∀ v : Value, kdV v = 3 → ∃ x, v = .bool x := fun v z => by cases v <;> first | exact ⟨_, rfl⟩ | cases z
    obtain ⟨f1, f2, e1⟩ := st _ b3
    obtain ⟨g1, g2, e2⟩ := nu _ b4
    obtain ⟨i1, e3⟩ := bo _ b5
    obtain ⟨j1, j2, e4⟩ := nu _ b6
    subst b1
    exact ⟨_, vs, f1, f2, g1, g2, i1, j1, j2, X _ _ lk, rfl, rfl, b2, by rw [Array.getD_eq_getD_getElem?, b2]; rfl, e1, e2, e3, e4, n⟩
  · cases b
/-- copies_of's code object -/
theorem SaysQ.ofC (c : SaysQ K h) : ∃ (fd : FuncData) (ca : Addr) (oc : Value) (od : Option Addr) (osl : Array (Option Value)), K.lookup (He.fAd K ("copies_of", none)) = some ⟨oc, od, .func fd, osl⟩ ∧ fd.code = .ref ca ∧ ca ≠ tabP ∧ cdB K ca = true := by
  have b := c.bits.2.2.2.1
  unfold ofB at b
  split at b
  · next fd osl lk =>
    split at b
    · next ca hc =>
      simp only [Bool.and_eq_true, Bool.not_eq_true', beq_eq_false_iff_ne] at b
      exact ⟨fd, ca, _, _, osl, lk, hc, b.1, b.2⟩
    · cases b
  · cases b
theorem SaysQ.code (c : SaysQ K h) : ∃ ca : Addr, PySem.W.CodeHd h ca tabP ∧ ∀ (h' : Heap) (mg' : Str → Option Value) (base : Heap), h'.Ns mainGlobals mg' → K.In h' → LamX.TabB base mg' ca tabP → LamT K mg' base := by
  obtain ⟨fd, ca, oc, od, osl, lk, hc, n, cb⟩ := c.ofC
  refine ⟨ca, cdB_ok c.inn n cb, fun h' mg' base G X TB => ?_⟩
  obtain ⟨fd2, F⟩ := c.says.def_ 41 (d := dTop 73 "copies_of") rfl
  have same : fd2 = fd := by
    obtain ⟨_, _, _, _, _, _, _, _, _, _, e, l2, _⟩ := F.ex
    have l3 := l2.symm.trans (show K.lookup (He.fAd K (dTop 73 "copies_of").at_) = some ⟨oc, od, .func fd, osl⟩ from lk)
    simp only [Option.some.injEq, Obj.mk.injEq, Data.func.injEq] at l3
    exact l3.2.2.1
  subst same
  exact ⟨_, fd2, ca, F, He.glo_ok X G (c.says.fact 41 (f := .glo "copies_of") rfl), hc, TB⟩
theorem SaysQ.lawK (c : SaysQ K h) (G : h.Ns mainGlobals mg) (LT : LamT K mg base) : LawK Pg w K mg base := by
  have T := c.tx G
  have k_is_integer : Kn Pg w K mg base "is_integer" 1 (fun ds d => ∃ i, ds = [.int i] ∧ d = .bl true) := ok_is_integer T (c.fnT G 0 0 rfl rfl)
  have k_is_within : Kn Pg w K mg base "is_within" 2 R_within := ok_is_within (c.fnT G 1 1 rfl rfl) k_is_integer
  have k_need_number : Kn Pg w K mg base "need_number" 3 R_number := ok_need_number (c.fnT G 2 2 rfl rfl) k_is_within
  have k_need_q : Kn Pg w K mg base "need_q" 4 R_q := ok_need_q (c.cs G) (c.fnT G 3 3 rfl rfl) k_need_number
  have k_need_size : Kn Pg w K mg base "need_size" 4 R_size := ok_need_size (c.cs G) (c.fnTD G (d := .str "size") 4 4 rfl rfl rfl) k_need_number
  have kfixed : ∀ n, Kn Pg w K mg base "fixed" (n + 1) (R_fixed n) := ok_fixed T (c.fnT G 5 5 rfl rfl) (c.noLay G)
  have k_rank_in : Kn Pg w K mg base "rank_in" 1 R_rank := ok_rank_in (c.fnT G 6 6 rfl rfl)
  have k_cells_of : Kn Pg w K mg base "cells_of" 1 R_cells := ok_cells_of T (c.fnT G 7 7 rfl rfl)
  have k_room_of : Kn Pg w K mg base "room_of" 2 R_room := ok_room_of (c.fnT G 8 8 rfl rfl) k_cells_of
  have k_free_in : Kn Pg w K mg base "free_in" 3 R_free := ok_free_in (c.fnT G 9 9 rfl rfl) k_cells_of k_room_of
  have k_things_in : Kn Pg w K mg base "things_in" 1 R_things := ok_things_in (c.fnT G 10 10 rfl rfl)
  have k_are_things : Kn Pg w K mg base "are_things" 3 R_arethings := ok_are_things T (c.cs G) (c.fnT G 11 11 rfl rfl) k_is_within
  have k_is_region : Kn Pg w K mg base "is_region" 4 R_isregion := ok_is_region T (c.cs G) (c.fnT G 12 12 rfl rfl) k_is_within k_are_things
  have k_are_regions : Kn Pg w K mg base "are_regions" 5 R_areregions := ok_are_regions T (c.fnT G 13 13 rfl rfl) k_is_region
  have k_are_ranked : Kn Pg w K mg base "are_ranked" 4 R_areranked := ok_are_ranked T (c.fnT G 14 14 rfl rfl) k_rank_in k_free_in
  have k_are_apart : Kn Pg w K mg base "are_apart" 2 R_areapart := ok_are_apart T (c.cs G) (c.fnT G 15 15 rfl rfl) k_things_in
  have k_are_later : Kn Pg w K mg base "are_later" 2 R_areapart := ok_are_later T (c.cs G) (c.fnT G 16 16 rfl rfl) k_rank_in
  have k_have_passed : Kn Pg w K mg base "have_passed" 4 R_passed := ok_have_passed T (c.fnT G 17 17 rfl rfl) k_rank_in k_free_in
  have k_is_lawful : Kn Pg w K mg base "is_lawful" 6 R_lawful := ok_is_lawful T (c.fnT G 18 18 rfl rfl) k_are_regions k_are_ranked k_are_apart k_are_later k_have_passed
  have k_Layout : KnI Pg w K mg base "Layout" 7 R_layout := ok_Layout (c.ini G 77 77 130 rfl rfl rfl) (c.clLayout G) k_need_q k_need_number k_is_lawful (kfixed 5)
  have k_need_layout : Kn Pg w K mg base "need_layout" 1 R_needlay := ok_need_layout T (c.fnTD G (d := .str "layout") 19 19 rfl rfl rfl) (c.isLay G)
  have k_laid : Kn Pg w K mg base "laid" 3 R_laid := ok_laid (c.fnT G 20 20 rfl rfl) (c.clLayout G) k_room_of
  have k_end_of : Kn Pg w K mg base "end_of" 3 R_endof := ok_end_of T (c.fnT G 21 21 rfl rfl) k_cells_of k_room_of
  have k_spot_for : Kn Pg w K mg base "spot_for" 4 R_spot := ok_spot_for T (c.fnT G 22 22 rfl rfl) (c.clLayout G) k_rank_in k_free_in
  have k_with_thing : Kn Pg w K mg base "with_thing" 5 R_withthing := ok_with_thing T (c.fnT G 23 23 rfl rfl) k_spot_for
  have k_with_word : Kn Pg w K mg base "with_word" 1 R_withword := ok_with_word T (c.cs G) (c.fnT G 25 25 rfl rfl)
  have k_rank_of : Kn Pg w K mg base "rank_of" 5 R_rankof := ok_rank_of (c.fnT G 26 26 rfl rfl) k_need_size k_rank_in
  have k_size_in : Kn Pg w K mg base "size_in" 2 R_sizein := ok_size_in (c.cs G) (c.fnT G 24 24 rfl rfl) (c.clLayout G) k_things_in k_is_integer
  have k_empty : Kn Pg w K mg base "empty" 9 R_empty := ok_empty (c.fnT G 27 27 rfl rfl) k_Layout
  have k_places : Kn Pg w K mg base "places" 4 R_places := ok_places T (c.cs G) (c.fnT G 28 28 rfl rfl) k_need_layout k_laid
  have k_length : Kn Pg w K mg base "length" 4 R_length := ok_length (c.fnT G 29 29 rfl rfl) (c.clLayout G) k_need_layout k_end_of
  have k_room_for : Kn Pg w K mg base "room_for" 5 R_roomfor := ok_room_for (c.fnT G 30 30 rfl rfl) (c.clLayout G) k_need_layout k_need_size k_spot_for
  have k_put_in : Kn Pg w K mg base "put_in" 9 R_putin := ok_put_in (c.cs G) (c.fnT G 31 31 rfl rfl) (c.clLayout G) k_need_layout k_need_size k_with_thing k_Layout
  have k_dropped : Kn Pg w K mg base "dropped" 9 R_dropped := ok_dropped T (c.cs G) (c.fnT G 32 32 rfl rfl) (c.clLayout G) k_need_layout k_size_in k_with_word k_things_in k_with_thing k_Layout
  have k_is_deed : Kn Pg w K mg base "is_deed" 3 R_isdeed := ok_is_deed T (c.cs G) (c.fnT G 33 33 rfl rfl) k_is_within
  have k_seat_of : Kn Pg w K mg base "seat_of" 1 R_seat := ok_seat_of (c.fnT G 34 34 rfl rfl) (c.clLayout G)
  have k_lesser_things : Kn Pg w K mg base "lesser_things" 6 R_lesser := ok_lesser_things (c.fnT G 35 35 rfl rfl) (c.clLayout G) k_rank_of
  have k_falls_of : Kn Pg w K mg base "falls_of" 7 R_falls := ok_falls_of T (c.fnT G 36 36 rfl rfl) k_rank_of k_lesser_things
  have k_rank_drawn : Kn Pg w K mg base "rank_drawn" 8 R_drawn := ok_rank_drawn (c.fnT G 37 37 rfl rfl) k_falls_of k_rank_of
  have k_volume : Kn Pg w K mg base "volume" 1 R_volume := ok_volume T (c.fnT G 38 38 rfl rfl)
  have k_led : Kn Pg w K mg base "led" 1 R_led := ok_led T (c.fnT G 40 40 rfl rfl)
  have k_laid_anew : Kn Pg w K mg base "laid_anew" 9 R_anew := ok_laid_anew T (c.fnT G 39 39 rfl rfl) (c.clLayout G) k_rank_of k_Layout
  have k_Tidying : KnI Pg w K mg base "Tidying" 8 R_tid := ok_Tidying (c.tid G) (c.clTidying G) (kfixed 4)
  have k_copies_of : Kn Pg w K mg base "copies_of" 6 R_copies := ok_copies_of T LT (c.clLayout G) k_places k_seat_of k_volume k_led
  have k_tidying : Kn Pg w K mg base "tidying" 10 R_tidying := ok_tidying T (c.fnT G 42 42 rfl rfl) k_need_layout k_is_deed k_seat_of k_room_for k_rank_drawn k_laid_anew k_length k_copies_of k_Tidying
  have k_History : KnI Pg w K mg base "History" 6 R_history := ok_History T (c.cs G) (c.ini G 78 78 131 rfl rfl rfl) (c.clHistory G) k_need_q k_is_deed (kfixed 4)
  have k_need_history : Kn Pg w K mg base "need_history" 1 R_needhis := ok_need_history T (c.fnTD G (d := .str "history") 43 43 rfl rfl rfl) (c.isHis G)
  have k_done : Kn Pg w K mg base "done" 11 R_done := ok_done T (c.fnT G 44 44 rfl rfl) (c.clTidying G) k_room_for k_put_in k_seat_of k_dropped k_tidying
  have k_course_of : Kn Pg w K mg base "course_of" 12 R_course := ok_course_of (c.fnT G 45 45 rfl rfl) (c.clHistory G) k_empty k_done
  have k_sizes_of : Kn Pg w K mg base "sizes_of" 1 R_sizes := ok_sizes_of (c.fnT G 46 46 rfl rfl) (c.clHistory G)
  have k_writes : Kn Pg w K mg base "writes" 13 R_writes := ok_writes T (c.fnT G 47 47 rfl rfl) (c.clHistory G) (c.clTidying G) k_need_history k_sizes_of k_course_of
  have k_are_numbers : Kn Pg w K mg base "are_numbers" 2 R_arenum := ok_are_numbers T (c.cs G) (c.fnT G 48 48 rfl rfl) k_is_integer
  have k_need_numbers : Kn Pg w K mg base "need_numbers" 3 R_neednum := ok_need_numbers (c.fnTD G (d := .int 0) 49 49 rfl rfl rfl) k_are_numbers
  have k_fault_in : Kn Pg w K mg base "fault_in" 1 R_fault := ok_fault_in T (c.fnT G 50 50 rfl rfl)
  have k_least_costs : Kn Pg w K mg base "least_costs" 4 R_least := ok_least_costs T (c.fnT G 51 51 rfl rfl)
  have k_log_of : Kn Pg w K mg base "log_of" 1 R_log := ok_log_of (c.fnT G 52 52 rfl rfl)
  have k_most : Kn Pg w K mg base "most" 5 R_most := ok_most (c.fnT G 55 55 rfl rfl) k_need_q k_log_of
  have k_Prices : KnI Pg w K mg base "Prices" 4 R_prices := ok_Prices T (c.ini G 79 79 132 rfl rfl rfl) (c.clPrices G) k_need_numbers k_fault_in
  have k_below : Kn Pg w K mg base "below" 6 R_below := ok_below (c.fnT G 53 53 rfl rfl) k_need_numbers k_least_costs k_Prices
  have k_cost : Kn Pg w K mg base "cost" 14 R_cost := ok_cost T (c.fnT G 54 54 rfl rfl) (c.clHistory G) k_need_numbers k_need_history k_sizes_of k_writes
  have k__law_rank : Kn Pg w K mg base "_law_rank" 1 R_Lrank := ok_L_rank (c.fnT G 59 59 rfl rfl)
  have k__law_free : Kn Pg w K mg base "_law_free" 1 R_Lfree := ok_L_free T (c.fnT G 60 60 rfl rfl)
  have k__law_laid : Kn Pg w K mg base "_law_laid" 2 R_Llaid := ok_L_laid T (c.fnT G 61 61 rfl rfl) k__law_rank k__law_free
  have k__law_begin : Kn Pg w K mg base "_law_begin" 2 R_Lbegin := ok_L_begin T (c.fnT G 62 62 rfl rfl) k__law_rank
  have k__law_anew : Kn Pg w K mg base "_law_anew" 2 R_Lanew := ok_L_anew T (c.fnT G 63 63 rfl rfl) k__law_rank
  have k__law_files : Kn Pg w K mg base "_law_files" 1 R_Lfiles := ok_L_files (c.fnT G 66 66 rfl rfl)
  have k__law_spots : Kn Pg w K mg base "_law_spots" 1 R_Lspots := ok_L_spots T (c.fnT G 67 67 rfl rfl)
  have k__law_gone : Kn Pg w K mg base "_law_gone" 2 R_Lgone := ok_L_gone T (c.fnT G 64 64 rfl rfl)
  have k__law_done : Kn Pg w K mg base "_law_done" 3 R_Ldone := ok_L_done (c.fnT G 65 65 rfl rfl) k__law_laid k__law_anew k__law_begin k__law_gone
  have k__law_copied : Kn Pg w K mg base "_law_copied" 2 R_Lcopied := ok_L_copied T (c.fnT G 68 68 rfl rfl) k__law_spots
  have k__law_written : Kn Pg w K mg base "_law_written" 4 R_Lwritten := ok_L_written (c.fnT G 69 69 rfl rfl) k__law_done k__law_laid k__law_gone k__law_begin k__law_copied
  have k__law_costs : Kn Pg w K mg base "_law_costs" 5 R_Lcosts := ok_L_costs T (c.fnT G 70 70 rfl rfl) k__law_written
  have k__law_penny : KnX Pg w K mg base "_law_penny" 1 Pre_penny Post_penny := ok_L_penny T (c.fnT G 57 57 rfl rfl)
  have k__law_one : KnX Pg w K mg base "_law_one" 2 Pre_one Post_one := ok_L_one T (c.fnT G 58 58 rfl rfl) k__law_penny
  have k__law_purse : KnF Pg w K mg base "_law_purse" 1 R_Lpurse := ok_L_purse T (c.fnT G 56 56 rfl rfl)
  have k__law_q : KnX Pg w K mg base "_law_q" 3 Pre_q Post_q := ok_L_q T (c.fnT G 73 73 rfl rfl) k__law_penny k__law_one
  have k__law_dear : KnX Pg w K mg base "_law_dear" 2 Pre_dear Post_dear := ok_L_dear T (c.fnT G 72 72 rfl rfl) k__law_penny
  have k__law_deeds : KnX Pg w K mg base "_law_deeds" 4 Pre_deeds Post_deeds := ok_L_deeds T (c.fnT G 71 71 rfl rfl) k__law_penny k__law_one k__law_files k__law_done
  have k__law_below : Kn Pg w K mg base "_law_below" 1 R_Lbelow := ok_L_below T (c.fnT G 74 74 rfl rfl)
  have k__law_prices : KnX Pg w K mg base "_law_prices" 3 Pre_prices Post_prices := ok_L_prices T (c.fnT G 75 75 rfl rfl) k__law_penny k__law_one k__law_below
  exact ⟨k__law_purse, k__law_penny, k__law_one, k__law_q, k__law_dear, k__law_deeds, k__law_prices, k_History, k_below, k_cost, k__law_costs, k_most⟩
end
end K76
set_option maxRecDepth 1000000
set_option maxHeartbeats 0
namespace K76
open PySem PySem.Spec PyProof.Rows L2
/-- the walk -/
theorem law_walk : PySem.W.WalkO (PySem.W.view (PySem.W.OpenLaw.row PySem.Challenge.rw_priceblind_k76_whole_thrifty_by_every_pr).prog [117]) looN (PySem.W.XL (PySem.W.view (PySem.W.OpenLaw.row PySem.Challenge.rw_priceblind_k76_whole_thrifty_by_every_pr).prog [117]) []) hkQ.says (PySem.W.OpenLaw.row PySem.Challenge.rw_priceblind_k76_whole_thrifty_by_every_pr).toRowW (HandSHeadRun.topDef (PySem.W.OpenLaw.row PySem.Challenge.rw_priceblind_k76_whole_thrifty_by_every_pr).prog 117) [] (fun f vs => PySem.call f vs) := by
  refine Att.attach_callB (l := PySem.Challenge.rw_priceblind_k76_whole_thrifty_by_every_pr) (n := 63) rfl (by kernel_rfl) fun w s₀ s mg mb fa o pm cd doc a vs ns G Y ho hd hcd hmg hobj hints hlen hbits hg => ?_
  obtain ⟨K, c⟩ := Y
  have Ns := G.T.g
  have e : (HandSHeadRun.topDef (PySem.W.OpenLaw.row PySem.Challenge.rw_priceblind_k76_whole_thrifty_by_every_pr).prog 117).name = ("law" : Str) := by kernel_rfl
  rw [e] at hmg
  cases hmg.symm.trans (c.glo Ns 76 rfl)
  obtain ⟨fd, F⟩ := c.says.def_ 76 (d := dTop 117 "law") rfl
  obtain ⟨ca, hd2, LT⟩ := c.code
  exact law_end c.inn Ns G.T.b G.T.builtins G.T.nolimit hg c.tab c.no hd2 G.T.bmain hobj hints hlen F (c.tx Ns) (fun base X N TB => c.lawK Ns (LT _ mg base N X TB)) (c.clHistory Ns) (c.clPrices Ns)
end K76
open PySem PySem.W PySem.Calls PyProof.Rows
theorem PySem.Challenge.cw_priceblind_k76_whole_thrifty_by_every_pr_holds : PySem.Challenge.rw_priceblind_k76_whole_thrifty_by_every_pr.Holds := by
  w_on; o_law
  refine HandSHeadRun.head_any (r := OpenLaw.row PySem.Challenge.rw_priceblind_k76_whole_thrifty_by_every_pr) (q := view (OpenLaw.row PySem.Challenge.rw_priceblind_k76_whole_thrifty_by_every_pr).prog [117]) (H := K76.hkQ) (ob := K76.obS) (M := 8000) (loose := K76.looN)
    (d := HandSHeadRun.topDef (OpenLaw.row PySem.Challenge.rw_priceblind_k76_whole_thrifty_by_every_pr).prog 117) (kwd := []) K76.obS_eq (by kernel_rfl) (fun s => by kernel_rfl) K76.runQ (by kernel_rfl) (by kernel_rfl) (by kernel_rfl) (by rfl) (by first | assumption | decide +kernel) (by decide +kernel) ⟨rfl, rfl, rfl, rfl, rfl, by decide +kernel⟩ ?hw ?hc
  case hw => w_witness2
  case hc => exact K76.law_walk
