import PyProof.Rows.All
import Wide.All
import OpenK.AllK
import Wide.FinOn
import PySem.Challenge.RW_heardtrue_k47_whole_openings_found
import HandS.ForMost
import HandS.ForExc
import HandS.ExcInit
import HandS.ExcField
import HandS.RaiseFrom
import HandS.TryMany
import HandS.Rev
import HandS.RevRange
import HandS.Zip
import HandS.DictComp
import HandS.Conv
import HandS.Wide
import HandS.Deep
import HandS.Defaults
import HandS.IsInst
import KE.DataCmp
import KE.SortData
import KE.DataFind
import HandS.Style
import HandS.TupAny
import HandS.Flow
import HandS.TupMul
import HandS.TupSets
import HandS.SetFor
import HandS.Strs
import HandS.TupLen
import KE.DataMinMax
import HandS.Dict
import HandS.SortKw
import PyProof.ReprLen
import PyProof.ReprRoads
import HandS.Walk
import HandS.ExcIs
import KE.KExcIs
import KE.GoesMore
import KE.GoesEnum
import HandS.WordsExc
import HandS.HeadHook1
import HandS.HeadHook2
import HandS.HeadEnd
import HandS.Head0
import HandS.Head1
import HandS.Head2
import KE.LtData
import KE.KStateDown
import Lean
set_option Elab.async false
set_option linter.all false
set_option maxRecDepth 100000
set_option maxHeartbeats 4000000
namespace PL
open PySem PySem.Spec PyProof.Rows L2

/-! # The pure layer: values as data -/
/-- a value, as data. g: a guarded thing that may change (its number, its kind) -/
inductive D where
  | non | bl (b : Bool) | int (i : Int) | str (x : Str)
  | lst (xs : List D) | tup (xs : List D) | scr (ns : List Int)
  | dic (t : Bool) (kvs : List (D × D))
  | obj (c : Str) (fs : List (Str × D))
  | g (i k : Nat)
  deriving Inhabited

/-- what stands at a law's source of numbers: the cells, a seed -/
def StInv (s c : Addr) (H : Hp) : Prop := ∃ (cs : List Int) (seed : Int), H s = some (.lst [.ref c, .int seed]) ∧ H c = some (.lst (cs.map V.int)) ∧ (∀ x ∈ cs, 0 ≤ x) ∧ 0 ≤ seed ∧ seed < 2147483647
/-- what stands at a law's row of numbers, read from left to right -/
def RwInv (r : Addr) (H : Hp) : Prop := ∃ (n : Int) (xs : List Int), H r = some (.lst ((n :: xs).map V.int)) ∧ 1 ≤ n ∧ n ≤ xs.length + 1 ∧ ∀ x ∈ xs, 0 ≤ x
/-- a guarded region: what stands at root and fp, of which inv is kept (it may lean on the frozen part) -/
structure Gd where
  kind : Nat
  root : Addr
  fp : List Addr
  inv : Hp → Hp → Prop
  loc : ∀ F H H', (∀ a ∈ fp, H' a = H a) → inv F H → inv F H'
  mono : ∀ F F' H, Same F F' → inv F H → inv F' H
  there : ∀ F H, inv F H → ∀ a ∈ fp, H a ≠ none
  wf : (kind = 0 ∧ ∃ c, root ≠ c ∧ fp = [root, c] ∧ ∀ F H, inv F H ↔ StInv root c H) ∨ (kind = 1 ∧ fp = [root] ∧ ∀ F H, inv F H ↔ RwInv root H)

/-- the world: the frozen part, the guarded regions -/
structure Wd where
  fz : Hp
  gs : List Gd

def kD : Key → D
  | .inl i => .int i
  | .inr x => .str x

mutual
inductive Den (K : PySem.W.Frag) (mg : Str → Option Value) (W : Wd) : V → D → Prop
  | non : Den K mg W .non .non
  | bl (b : Bool) : Den K mg W (.bl b) (.bl b)
  | int (i : Int) : Den K mg W (.int i) (.int i)
  | str (x : Str) : Den K mg W (.str x) (.str x)
  | lst {a : Addr} {vs : List V} {ds : List D} : W.fz a = some (.lst vs) → DenAll K mg W vs ds → Den K mg W (.ref a) (.lst ds)
  | scr {a : Addr} {ns : List Int} : SqL K W.fz a (ns.map V.int) → Den K mg W (.ref a) (.scr ns)
  | tup {a : Addr} {vs : List V} {ds : List D} : W.fz a = some (.tup vs) → DenAll K mg W vs ds → Den K mg W (.ref a) (.tup ds)
  | dic {a : Addr} {kvs : List (Key × V)} {ds : List (D × D)} : W.fz a = some (.dK kvs) → DenK K mg W kvs ds → Den K mg W (.ref a) (.dic false ds)
  | dit {a : Addr} {kvs : List (List Key × V)} {ds : List (D × D)} : W.fz a = some (.dT kvs) → DenT K mg W kvs ds → Den K mg W (.ref a) (.dic true ds)
  | obj {a C dx : Addr} {c : Str} {fs : List (Str × V)} {ds : List (Str × D)} : W.fz a = some (.ins C dx fs) → mg c = some (.ref C) → DenF K mg W fs ds → Den K mg W (.ref a) (.obj c ds)
  | g {i k : Nat} {G : Gd} : W.gs[i]? = some G → G.kind = k → Den K mg W (.ref G.root) (.g i k)
inductive DenAll (K : PySem.W.Frag) (mg : Str → Option Value) (W : Wd) : List V → List D → Prop
  | nil : DenAll K mg W [] []
  | cons {v : V} {vs : List V} {d : D} {ds : List D} : Den K mg W v d → DenAll K mg W vs ds → DenAll K mg W (v :: vs) (d :: ds)
inductive DenK (K : PySem.W.Frag) (mg : Str → Option Value) (W : Wd) : List (Key × V) → List (D × D) → Prop
  | nil : DenK K mg W [] []
  | cons {k : Key} {v : V} {vs : List (Key × V)} {d : D} {ds : List (D × D)} : Den K mg W v d → DenK K mg W vs ds → DenK K mg W ((k, v) :: vs) ((kD k, d) :: ds)
inductive DenT (K : PySem.W.Frag) (mg : Str → Option Value) (W : Wd) : List (List Key × V) → List (D × D) → Prop
  | nil : DenT K mg W [] []
  | cons {k : List Key} {v : V} {vs : List (List Key × V)} {d : D} {ds : List (D × D)} : Den K mg W v d → DenT K mg W vs ds → DenT K mg W ((k, v) :: vs) ((.tup (k.map kD), d) :: ds)
inductive DenF (K : PySem.W.Frag) (mg : Str → Option Value) (W : Wd) : List (Str × V) → List (Str × D) → Prop
  | nil : DenF K mg W [] []
  | cons {k : Str} {v : V} {vs : List (Str × V)} {d : D} {ds : List (Str × D)} : Den K mg W v d → DenF K mg W vs ds → DenF K mg W ((k, v) :: vs) ((k, d) :: ds)
end

/-- the world grows -/
structure Wd.Le (W W' : Wd) : Prop where
  fz : Same W.fz W'.fz
  gs : ∃ more, W'.gs = W.gs ++ more
theorem Wd.Le.refl (W : Wd) : W.Le W := ⟨Same.refl _, [], by simp⟩
theorem Wd.Le.trans {A B C : Wd} (h : A.Le B) (k : B.Le C) : A.Le C := by
  obtain ⟨m, e⟩ := h.gs
  obtain ⟨n, e'⟩ := k.gs
  exact ⟨h.fz.trans k.fz, m ++ n, by rw [e', e, List.append_assoc]⟩
theorem Wd.Le.at {A B : Wd} (h : A.Le B) {i : Nat} {G : Gd} (e : A.gs[i]? = some G) : B.gs[i]? = some G := by
  obtain ⟨m, em⟩ := h.gs
  rw [em]
  obtain ⟨hi, _⟩ := List.getElem?_eq_some_iff.mp e
  rw [List.getElem?_append_left hi]
  exact e
theorem sqL_same {K : PySem.W.Frag} {H H' : Hp} {a : Addr} {xs : List V} (e : Same H H') (h : SqL K H a xs) : SqL K H' a xs := by
  rcases h with (h | ⟨o, h⟩) | h
  · exact .inl (.inl (e _ _ h))
  · exact .inl (.inr ⟨o, e _ _ h⟩)
  · exact .inr h
theorem sqT_same {K : PySem.W.Frag} {H H' : Hp} {a : Addr} {xs : List V} (e : Same H H') (h : SqT K H a xs) : SqT K H' a xs := by
  rcases h with (h | ⟨o, h⟩) | h
  · exact .inl (.inl (e _ _ h))
  · exact .inl (.inr ⟨o, e _ _ h⟩)
  · exact .inr h

section
variable {K : PySem.W.Frag} {mg : Str → Option Value} {W W' : Wd}
mutual
theorem Den.le (h : W.Le W') : ∀ {v : V} {d : D}, Den K mg W v d → Den K mg W' v d
  | _, _, .non => .non
  | _, _, .bl b => .bl b
  | _, _, .int i => .int i
  | _, _, .str x => .str x
  | _, _, .lst e t => .lst (h.fz _ _ e) (DenAll.le h t)
  | _, _, .tup e t => .tup (h.fz _ _ e) (DenAll.le h t)
  | _, _, .scr e => .scr (sqL_same h.fz e)
  | _, _, .dic e t => .dic (h.fz _ _ e) (DenK.le h t)
  | _, _, .dit e t => .dit (h.fz _ _ e) (DenT.le h t)
  | _, _, .obj e m t => .obj (h.fz _ _ e) m (DenF.le h t)
  | _, _, .g e k => .g (h.at e) k
theorem DenAll.le (h : W.Le W') : ∀ {v : List V} {d : List D}, DenAll K mg W v d → DenAll K mg W' v d
  | _, _, .nil => .nil
  | _, _, .cons a b => .cons (Den.le h a) (DenAll.le h b)
theorem DenK.le (h : W.Le W') : ∀ {v : List (Key × V)} {d : List (D × D)}, DenK K mg W v d → DenK K mg W' v d
  | _, _, .nil => .nil
  | _, _, .cons a b => .cons (Den.le h a) (DenK.le h b)
theorem DenT.le (h : W.Le W') : ∀ {v : List (List Key × V)} {d : List (D × D)}, DenT K mg W v d → DenT K mg W' v d
  | _, _, .nil => .nil
  | _, _, .cons a b => .cons (Den.le h a) (DenT.le h b)
theorem DenF.le (h : W.Le W') : ∀ {v : List (Str × V)} {d : List (Str × D)}, DenF K mg W v d → DenF K mg W' v d
  | _, _, .nil => .nil
  | _, _, .cons a b => .cons (Den.le h a) (DenF.le h b)
end
theorem DenAll.length : ∀ {vs : List V} {ds : List D}, DenAll K mg W vs ds → vs.length = ds.length
  | _, _, .nil => rfl
  | _, _, .cons _ b => congrArg Nat.succ b.length
theorem DenAll.append : ∀ {vs ws : List V} {ds es : List D}, DenAll K mg W vs ds → DenAll K mg W ws es → DenAll K mg W (vs ++ ws) (ds ++ es)
  | _, _, _, _, .nil, k => k
  | _, _, _, _, .cons a b, k => .cons a (b.append k)
theorem DenAll.get : ∀ {vs : List V} {ds : List D} {i : Nat} {d : D}, DenAll K mg W vs ds → ds[i]? = some d → ∃ v, vs[i]? = some v ∧ Den K mg W v d
  | _, _, _, _, .nil, e => by simp at e
  | _, _, 0, _, .cons a _, e => by simp at e; subst e; exact ⟨_, rfl, a⟩
  | _, _, i + 1, _, .cons _ b, e => by
    obtain ⟨v, h1, h2⟩ := b.get (i := i) (by simpa using e)
    exact ⟨v, by simpa using h1, h2⟩
theorem DenAll.get' : ∀ {vs : List V} {ds : List D} {i : Nat} {v : V}, DenAll K mg W vs ds → vs[i]? = some v → ∃ d, ds[i]? = some d ∧ Den K mg W v d
  | _, _, _, _, .nil, e => by simp at e
  | _, _, 0, _, .cons a _, e => by simp at e; subst e; exact ⟨_, rfl, a⟩
  | _, _, i + 1, _, .cons _ b, e => by
    obtain ⟨v, h1, h2⟩ := b.get' (i := i) (by simpa using e)
    exact ⟨v, by simpa using h1, h2⟩
theorem DenAll.take : ∀ {vs : List V} {ds : List D} (n : Nat), DenAll K mg W vs ds → DenAll K mg W (vs.take n) (ds.take n)
  | _, _, 0, _ => .nil
  | _, _, _ + 1, .nil => .nil
  | _, _, n + 1, .cons a b => .cons a (b.take n)
theorem DenAll.drop : ∀ {vs : List V} {ds : List D} (n : Nat), DenAll K mg W vs ds → DenAll K mg W (vs.drop n) (ds.drop n)
  | _, _, 0, h => h
  | _, _, _ + 1, .nil => .nil
  | _, _, n + 1, .cons _ b => b.drop n
theorem DenAll.set {v : V} {d : D} (h : Den K mg W v d) : ∀ {vs : List V} {ds : List D} (i : Nat), DenAll K mg W vs ds → DenAll K mg W (vs.set i v) (ds.set i d)
  | _, _, _, .nil => .nil
  | _, _, 0, .cons _ b => .cons h b
  | _, _, i + 1, .cons a b => .cons a (b.set h i)
theorem DenAll.eraseIdx : ∀ {vs : List V} {ds : List D} (i : Nat), DenAll K mg W vs ds → DenAll K mg W (vs.eraseIdx i) (ds.eraseIdx i)
  | _, _, _, .nil => .nil
  | _, _, 0, .cons _ b => b
  | _, _, i + 1, .cons a b => .cons a (b.eraseIdx i)
theorem DenAll.rep {vs : List V} {ds : List D} (h : DenAll K mg W vs ds) : ∀ k : Nat, DenAll K mg W (List.replicate k vs).flatten (List.replicate k ds).flatten
  | 0 => .nil
  | k + 1 => by
    rw [List.replicate_succ, List.replicate_succ, List.flatten_cons, List.flatten_cons]
    exact h.append (h.rep k)
theorem DenAll.reverse : ∀ {vs : List V} {ds : List D}, DenAll K mg W vs ds → DenAll K mg W vs.reverse ds.reverse
  | _, _, .nil => .nil
  | _, _, .cons a b => by
    rw [List.reverse_cons, List.reverse_cons]
    exact b.reverse.append (.cons a .nil)
theorem DenAll.dropLast {vs : List V} {ds : List D} (h : DenAll K mg W vs ds) : DenAll K mg W vs.dropLast ds.dropLast := by
  rw [List.dropLast_eq_take, List.dropLast_eq_take, h.length]
  exact h.take _
theorem DenAll.ints : ∀ (ns : List Int), DenAll K mg W (ns.map V.int) (ns.map D.int)
  | [] => .nil
  | n :: r => .cons (.int n) (DenAll.ints r)
end
end PL

namespace PL
open PySem PySem.Spec PyProof.Rows L2

/-- what a name holds, what an expression gives: data, or a list | a dict that is its own (it may change) -/
inductive Sl where
  | val (d : D) | own (xs : List D) | ownd (t : Bool) (kvs : List (D × D))
  deriving Inhabited
def Sl.d : Sl → D
  | .val d => d
  | .own xs => .lst xs
  | .ownd t kvs => .dic t kvs
def Sl.isOwn : Sl → Bool
  | .val _ => false
  | _ => true
abbrev Env := List (Option Sl)

structure Wd.Ok (W : Wd) (H : Hp) : Prop where
  sub : Same W.fz H
  inv : ∀ g ∈ W.gs, g.inv W.fz H
  dj : ∀ g ∈ W.gs, ∀ a ∈ g.fp, W.fz a = none
  pw : W.gs.Pairwise fun g g' => ∀ a ∈ g.fp, a ∉ g'.fp
def Wd.free (W : Wd) (a : Addr) : Prop := W.fz a = none ∧ ∀ g ∈ W.gs, a ∉ g.fp

structure Grow (W : Wd) (H : Hp) (W' : Wd) (H' : Hp) : Prop where
  le : W.Le W'
  same : ∀ a o, H a = some o → (∀ g ∈ W.gs, a ∉ g.fp) → H' a = some o
  newf : ∀ a, W'.fz a ≠ none → W.fz a = none → H a = none
  newg : ∀ g ∈ W'.gs.drop W.gs.length, ∀ a ∈ g.fp, H a = none
theorem Grow.refl (W : Wd) (H : Hp) : Grow W H W H := ⟨.refl _, fun _ _ h _ => h, fun _ h k => absurd k h, fun g hg => by simp at hg⟩
theorem Grow.split {W W' : Wd} {H H' : Hp} (h : Grow W H W' H') : W'.gs = W.gs ++ W'.gs.drop W.gs.length := by
  obtain ⟨m, e⟩ := h.le.gs
  rw [e, List.drop_left]
theorem Grow.old {W W' : Wd} {H H' : Hp} (h : Grow W H W' H') {g : Gd} (hg : g ∈ W.gs) : g ∈ W'.gs := by
  rw [h.split]
  exact List.mem_append_left _ hg
theorem Grow.here {W W' : Wd} {H H' : Hp} (h : Grow W H W' H') (ok : W'.Ok H') {a : Addr} (e : H a ≠ none) : H' a ≠ none := by
  by_cases hx : ∃ g ∈ W.gs, a ∈ g.fp
  · obtain ⟨g, hg, ha⟩ := hx
    exact g.there _ _ (ok.inv g (h.old hg)) a ha
  · cases q : H a with
    | none => exact absurd q e
    | some o =>
      rw [h.same a o q fun g hg ha => hx ⟨g, hg, ha⟩]
      intro z; cases z
theorem Grow.trans {A B C : Wd} {H H1 H2 : Hp} (h : Grow A H B H1) (k : Grow B H1 C H2) (ok : B.Ok H1) : Grow A H C H2 where
  le := h.le.trans k.le
  same := fun a o e hg => by
    have e1 := h.same a o e hg
    refine k.same a o e1 fun g hg' ha => ?_
    rw [h.split] at hg'
    rcases List.mem_append.mp hg' with z | z
    · exact hg g z ha
    · rw [h.newg g z a ha] at e; cases e
  newf := fun a h1 h2 => by
    by_cases hb : B.fz a = none
    · have q := k.newf a h1 hb
      cases z : H a with
      | none => rfl
      | some o => exact absurd q (h.here ok (by rw [z]; intro y; cases y))
    · exact h.newf a hb h2
  newg := fun g hg a ha => by
    have e : C.gs.drop A.gs.length = B.gs.drop A.gs.length ++ C.gs.drop B.gs.length := by
      have e1 := k.split
      have hl : A.gs.length ≤ B.gs.length := by
        obtain ⟨m, e⟩ := h.le.gs
        rw [e, List.length_append]
        exact Nat.le_add_right _ _
      conv => lhs; rw [e1]
      rw [List.drop_append_of_le_length hl]
    rw [e] at hg
    rcases List.mem_append.mp hg with z | z
    · exact h.newg g z a ha
    · have q := k.newg g z a ha
      cases y : H a with
      | none => rfl
      | some o => exact absurd q (h.here ok (by rw [y]; intro x; cases x))
theorem Grow.free {W W' : Wd} {H H' : Hp} (h : Grow W H W' H') {a : Addr} (f : W.free a) (e : H a ≠ none) : W'.free a := by
  refine ⟨?_, fun g hg ha => ?_⟩
  · by_cases z : W'.fz a = none
    · exact z
    · exact absurd (h.newf a z f.1) e
  · rw [h.split] at hg
    rcases List.mem_append.mp hg with y | y
    · exact f.2 g y ha
    · exact e (h.newg g y a ha)

section
variable (K : PySem.W.Frag) (mg : Str → Option Value)
def SlOk (W : Wd) (H : Hp) (v : V) : Sl → Prop
  | .val d => Den K mg W v d
  | .own xs => ∃ o vs, v = .ref o ∧ H o = some (.lst vs) ∧ W.free o ∧ DenAll K mg W vs xs
  | .ownd false kvs => ∃ o vs, v = .ref o ∧ H o = some (.dK vs) ∧ W.free o ∧ DenK K mg W vs kvs
  | .ownd true kvs => ∃ o vs, v = .ref o ∧ H o = some (.dT vs) ∧ W.free o ∧ DenT K mg W vs kvs
structure EnvOk (W : Wd) (H : Hp) (σ : L2.St) (ρ : Env) : Prop where
  at_ : ∀ (i : Nat) (s : Sl), ρ[i]? = some (some s) → ∃ v, σ[i]? = some (some v) ∧ SlOk K mg W H v s
  dj : ∀ (i j : Nat) (s t : Sl) (a : Addr), i ≠ j → ρ[i]? = some (some s) → s.isOwn = true → ρ[j]? = some (some t) → t.isOwn = true → σ[i]? = some (some (.ref a)) → σ[j]? = some (some (.ref a)) → False
  len : σ.length = ρ.length
/-- a result that is its own stands at a new place -/
def Fr (H : Hp) (v : V) (r : Sl) : Prop := r.isOwn = true → ∀ a, v = .ref a → H a = none
/-- read as data: data, or what a name holds as its own -/
def BDen (W : Wd) (H : Hp) (v : V) (d : D) : Prop := ∃ s, SlOk K mg W H v s ∧ s.d = d
def Out (W : Wd) (H : Hp) (Q : Sl → Prop) (v : V) (H' : Hp) : Prop := ∃ W' r, W'.Ok H' ∧ Grow W H W' H' ∧ SlOk K mg W' H' v r ∧ Fr H v r ∧ Q r
def OutD (W : Wd) (H : Hp) (Q : D → Prop) (v : V) (H' : Hp) : Prop := ∃ W' d, W'.Ok H' ∧ Grow W H W' H' ∧ Den K mg W' v d ∧ Q d
def OutB (W : Wd) (H : Hp) (Q : D → Prop) (v : V) (H' : Hp) : Prop := ∃ W' d, W'.Ok H' ∧ Grow W H W' H' ∧ BDen K mg W' H' v d ∧ Q d
inductive BAll (W : Wd) (H : Hp) : List V → List D → Prop
  | nil : BAll W H [] []
  | cons {v : V} {vs : List V} {d : D} {ds : List D} : BDen K mg W H v d → BAll W H vs ds → BAll W H (v :: vs) (d :: ds)
end
section
variable {K : PySem.W.Frag} {mg : Str → Option Value} {W W' : Wd} {H H' : Hp} {v : V} {σ : L2.St} {ρ : Env}
theorem own_ne {o : Addr} {u : HO} (e : H o = some u) : H o ≠ none := by rw [e]; intro z; cases z
theorem SlOk.grow (g : Grow W H W' H') : ∀ {s : Sl}, SlOk K mg W H v s → SlOk K mg W' H' v s
  | .val _, h => Den.le g.le h
  | .own _, ⟨o, vs, e, h1, h2, h3⟩ => ⟨o, vs, e, g.same _ _ h1 h2.2, g.free h2 (own_ne h1), h3.le g.le⟩
  | .ownd false _, ⟨o, vs, e, h1, h2, h3⟩ => ⟨o, vs, e, g.same _ _ h1 h2.2, g.free h2 (own_ne h1), h3.le g.le⟩
  | .ownd true _, ⟨o, vs, e, h1, h2, h3⟩ => ⟨o, vs, e, g.same _ _ h1 h2.2, g.free h2 (own_ne h1), h3.le g.le⟩
theorem BDen.grow (g : Grow W H W' H') {d : D} : BDen K mg W H v d → BDen K mg W' H' v d
  | ⟨s, h, e⟩ => ⟨s, h.grow g, e⟩
theorem BDen.of {d : D} (h : Den K mg W v d) : BDen K mg W H v d := ⟨.val d, h, rfl⟩
theorem BAll.grow (g : Grow W H W' H') : ∀ {vs : List V} {ds : List D}, BAll K mg W H vs ds → BAll K mg W' H' vs ds
  | _, _, .nil => .nil
  | _, _, .cons a b => .cons (a.grow g) (b.grow g)
theorem BAll.of : ∀ {vs : List V} {ds : List D}, DenAll K mg W vs ds → BAll K mg W H vs ds
  | _, _, .nil => .nil
  | _, _, .cons a b => .cons (.of a) (BAll.of b)
theorem EnvOk.grow (h : EnvOk K mg W H σ ρ) (g : Grow W H W' H') : EnvOk K mg W' H' σ ρ where
  at_ := fun i s e => by
    obtain ⟨v, h1, h2⟩ := h.at_ i s e
    exact ⟨v, h1, h2.grow g⟩
  dj := h.dj
  len := h.len
/-- a free list | dict of a frozen content is frozen -/
theorem Wd.Ok.freeze (ok : W.Ok H) {o : Addr} {u : HO} (e : H o = some u) (f : W.free o) : (Wd.mk (upd W.fz o u) W.gs).Ok H where
  sub := fun b x q => by
    by_cases hb : b = o
    · subst hb
      have q2 : upd W.fz b u b = some x := q
      rw [upd_same] at q2
      rw [e, q2]
    · have q2 : upd W.fz o u b = some x := q
      rw [upd_ne hb] at q2
      exact ok.sub b x q2
  inv := fun g hg => g.mono _ _ _ (fun b x q => by
    by_cases hb : b = o
    · subst hb; rw [f.1] at q; cases q
    · show upd W.fz o u b = some x
      rw [upd_ne hb]
      exact q) (ok.inv g hg)
  dj := fun g hg a ha => by
    have hn : a ≠ o := fun z => f.2 g hg (z ▸ ha)
    show upd W.fz o u a = none
    rw [upd_ne hn]
    exact ok.dj g hg a ha
  pw := ok.pw
theorem Wd.le_freeze {o : Addr} {u : HO} (f : W.fz o = none) : W.Le ⟨upd W.fz o u, W.gs⟩ := ⟨fun b x q => by
  have hb : b ≠ o := fun z => by rw [z, f] at q; cases q
  show upd W.fz o u b = some x
  rw [upd_ne hb]
  exact q, [], by simp⟩
theorem Grow.freeze (g : Grow W H W' H') {o : Addr} {u : HO} (f : W'.fz o = none) (n : H o = none) : Grow W H ⟨upd W'.fz o u, W'.gs⟩ H' where
  le := g.le.trans (Wd.le_freeze f)
  same := g.same
  newf := fun a h1 h2 => by
    by_cases ha : a = o
    · rw [ha]; exact n
    · refine g.newf a (fun z => h1 ?_) h2
      show upd W'.fz o u a = none
      rw [upd_ne ha]
      exact z
  newg := g.newg
theorem upd_at {F : Hp} {o : Addr} {u : HO} : (Wd.mk (upd F o u) W.gs).fz o = some u := upd_same
/-- an own result becomes data -/
theorem SlOk.frozen (ok : W'.Ok H') (g : Grow W H W' H') : ∀ {s : Sl}, SlOk K mg W' H' v s → Fr H v s → ∃ W2, W2.Ok H' ∧ Grow W H W2 H' ∧ Den K mg W2 v s.d
  | .val d, h, _ => ⟨W', ok, g, h⟩
  | .own xs, ⟨o, vs, e, h1, h2, h3⟩, fr => by
    subst e
    exact ⟨_, ok.freeze h1 h2, g.freeze h2.1 (fr rfl _ rfl), .lst upd_same (h3.le (Wd.le_freeze h2.1))⟩
  | .ownd false xs, ⟨o, vs, e, h1, h2, h3⟩, fr => by
    subst e
    exact ⟨_, ok.freeze h1 h2, g.freeze h2.1 (fr rfl _ rfl), .dic upd_same (h3.le (Wd.le_freeze h2.1))⟩
  | .ownd true xs, ⟨o, vs, e, h1, h2, h3⟩, fr => by
    subst e
    exact ⟨_, ok.freeze h1 h2, g.freeze h2.1 (fr rfl _ rfl), .dit upd_same (h3.le (Wd.le_freeze h2.1))⟩
theorem Out.toD {Q : D → Prop} (h : Out K mg W H (fun r => Q r.d) v H') : OutD K mg W H Q v H' := by
  obtain ⟨W', r, ok, g, s, f, q⟩ := h
  obtain ⟨W2, ok2, g2, d⟩ := s.frozen ok g f
  exact ⟨W2, r.d, ok2, g2, d, q⟩
theorem OutD.toB {Q : D → Prop} (h : OutD K mg W H Q v H') : OutB K mg W H Q v H' := by
  obtain ⟨W', d, ok, g, s, q⟩ := h
  exact ⟨W', d, ok, g, .of s, q⟩
theorem OutD.toOut {Q : Sl → Prop} (h : OutD K mg W H (fun d => Q (.val d)) v H') : Out K mg W H Q v H' := by
  obtain ⟨W', d, ok, g, s, q⟩ := h
  exact ⟨W', .val d, ok, g, s, (fun z => by cases z), q⟩
/-- nothing has changed -/
theorem Out.now {Q : Sl → Prop} {d : D} (ok : W.Ok H) (h : Den K mg W v d) (q : Q (.val d)) : Out K mg W H Q v H := ⟨W, .val d, ok, .refl _ _, h, (fun z => by cases z), q⟩
/-- a new object, its own -/
theorem Wd.Ok.new (ok : W.Ok H) {p : Addr} {o : HO} (n : H p = none) : W.Ok (upd H p o) where
  sub := fun b x q => by
    have hb : b ≠ p := fun z => by
      have := ok.sub b x q
      rw [z, n] at this; cases this
    rw [upd_ne hb]
    exact ok.sub b x q
  inv := fun g hg => g.loc _ _ _ (fun a ha => upd_ne fun z => g.there _ _ (ok.inv g hg) a ha (z ▸ n)) (ok.inv g hg)
  dj := ok.dj
  pw := ok.pw
theorem Grow.new {p : Addr} {o : HO} (n : H p = none) : Grow W H W (upd H p o) where
  le := .refl _
  same := fun a x e _ => by
    have ha : a ≠ p := fun z => by rw [z, n] at e; cases e
    rw [upd_ne ha]
    exact e
  newf := fun _ h k => absurd k h
  newg := fun g hg => by simp at hg
theorem Wd.Ok.free_new (ok : W.Ok H) {p : Addr} (n : H p = none) : W.free p := by
  refine ⟨?_, fun g hg ha => g.there _ _ (ok.inv g hg) p ha n⟩
  cases z : W.fz p with
  | none => rfl
  | some o =>
    have := ok.sub p o z
    rw [n] at this; cases this
theorem Out.newL {Q : Sl → Prop} {p : Addr} {vs : List V} {xs : List D} (ok : W.Ok H) (n : H p = none) (h : DenAll K mg W vs xs) (q : Q (.own xs)) : Out K mg W H Q (.ref p) (upd H p (.lst vs)) :=
  ⟨W, .own xs, ok.new n, .new n, ⟨p, vs, rfl, upd_same, ok.free_new n, h⟩, (fun _ a e => by cases e; exact n), q⟩
/-- a new tuple, frozen at once -/
theorem Out.newT {Q : Sl → Prop} {p : Addr} {vs : List V} {xs : List D} (ok : W.Ok H) (n : H p = none) (h : DenAll K mg W vs xs) (q : Q (.val (.tup xs))) : Out K mg W H Q (.ref p) (upd H p (.tup vs)) := by
  have f := ok.free_new n
  refine ⟨⟨upd W.fz p (.tup vs), W.gs⟩, .val (.tup xs), (ok.new n).freeze upd_same f, (Grow.new n).freeze f.1 n, ?_, (fun z => by cases z), q⟩
  exact .tup upd_same (h.le (Wd.le_freeze f.1))
/-- after an earlier growth -/
theorem Out.after {W0 : Wd} {H0 : Hp} {Q : Sl → Prop} (ok : W.Ok H) (g : Grow W0 H0 W H) (h : Out K mg W H Q v H') : Out K mg W0 H0 Q v H' := by
  obtain ⟨W', r, ok', g', s, f, q⟩ := h
  refine ⟨W', r, ok', g.trans g' ok, s, fun z a e => ?_, q⟩
  have n := f z a e
  cases y : H0 a with
  | none => rfl
  | some o => exact absurd n (g.here ok (by rw [y]; intro x; cases x))
theorem OutD.after {W0 : Wd} {H0 : Hp} {Q : D → Prop} (ok : W.Ok H) (g : Grow W0 H0 W H) (h : OutD K mg W H Q v H') : OutD K mg W0 H0 Q v H' := by
  obtain ⟨W', d, ok', g', s, q⟩ := h
  exact ⟨W', d, ok', g.trans g' ok, s, q⟩
theorem Out.imp {Q Q' : Sl → Prop} (h : Out K mg W H Q v H') (k : ∀ r, Q r → Q' r) : Out K mg W H Q' v H' := by
  obtain ⟨W', r, ok', g', s, f, q⟩ := h
  exact ⟨W', r, ok', g', s, f, k _ q⟩
end
end PL

namespace PL
open PySem PySem.Spec PyProof.Rows L2

/-! ## plain data: equality, order -/
mutual
def D.py : D → Option PyData
  | .non => some .none
  | .bl b => some (.bool b)
  | .int i => some (.int i)
  | .str x => some (.str x)
  | .lst xs => (D.pys xs).map PyData.list
  | .tup xs => (D.pys xs).map PyData.tuple
  | .scr _ => none
  | .dic _ _ => none
  | .obj _ _ => none
  | .g _ _ => none
def D.pys : List D → Option (List PyData)
  | [] => some []
  | x :: xs => match D.py x, D.pys xs with
    | some p, some ps => some (p :: ps)
    | _, _ => none
end
/-- plain data, not too deep -/
def pl (d : D) : Bool := match d.py with
  | some p => SeqAt.shaped p
  | none => false
mutual
def eqD : D → D → Bool
  | .non, .non => true
  | .bl a, .bl b => a == b
  | .bl a, .int j => (if a then 1 else 0) == j
  | .int i, .bl b => i == (if b then 1 else 0)
  | .int i, .int j => i == j
  | .str a, .str b => a == b
  | .lst a, .lst b => eqDs a b
  | .tup a, .tup b => eqDs a b
  | _, _ => false
def eqDs : List D → List D → Bool
  | [], [] => true
  | a :: as, b :: bs => eqD a b && eqDs as bs
  | _, _ => false
end
theorem pys_cons {x : D} {xs : List D} {ps : List PyData} (h : D.pys (x :: xs) = some ps) : ∃ p r, D.py x = some p ∧ D.pys xs = some r ∧ ps = p :: r := by
  rw [D.pys] at h
  cases h1 : D.py x with
  | none => rw [h1] at h; cases h
  | some p =>
    cases h2 : D.pys xs with
    | none => rw [h1, h2] at h; cases h
    | some r => rw [h1, h2] at h; exact ⟨p, r, rfl, rfl, (Option.some.inj h).symm⟩
mutual
theorem eqv_py : ∀ (x y : D) (p q : PyData), x.py = some p → y.py = some q → PyData.eqv p q = eqD x y := by
  intro x y p q hx hy
  cases x with
  | lst xs =>
    rw [D.py] at hx
    cases e : D.pys xs with
    | none => rw [e] at hx; cases hx
    | some ps =>
      rw [e] at hx
      cases hx
      cases y with
      | lst ys =>
        rw [D.py] at hy
        cases e' : D.pys ys with
        | none => rw [e'] at hy; cases hy
        | some qs =>
          rw [e'] at hy
          cases hy
          rw [PyData.eqv, eqD]
          exact eqvs_py xs ys ps qs e e'
      | tup ys =>
        rw [D.py] at hy
        cases e' : D.pys ys with
        | none => rw [e'] at hy; cases hy
        | some qs => rw [e'] at hy; cases hy; rfl
      | scr _ => rw [D.py] at hy; cases hy
      | dic _ _ => rw [D.py] at hy; cases hy
      | obj _ _ => rw [D.py] at hy; cases hy
      | g _ _ => rw [D.py] at hy; cases hy
      | _ => rw [D.py] at hy; cases hy; rfl
  | tup xs =>
    rw [D.py] at hx
    cases e : D.pys xs with
    | none => rw [e] at hx; cases hx
    | some ps =>
      rw [e] at hx
      cases hx
      cases y with
      | tup ys =>
        rw [D.py] at hy
        cases e' : D.pys ys with
        | none => rw [e'] at hy; cases hy
        | some qs =>
          rw [e'] at hy
          cases hy
          rw [PyData.eqv, eqD]
          exact eqvs_py xs ys ps qs e e'
      | lst ys =>
        rw [D.py] at hy
        cases e' : D.pys ys with
        | none => rw [e'] at hy; cases hy
        | some qs => rw [e'] at hy; cases hy; rfl
      | scr _ => rw [D.py] at hy; cases hy
      | dic _ _ => rw [D.py] at hy; cases hy
      | obj _ _ => rw [D.py] at hy; cases hy
      | g _ _ => rw [D.py] at hy; cases hy
      | _ => rw [D.py] at hy; cases hy; rfl
  | scr _ => rw [D.py] at hx; cases hx
  | dic _ _ => rw [D.py] at hx; cases hx
  | obj _ _ => rw [D.py] at hx; cases hx
  | g _ _ => rw [D.py] at hx; cases hx
  | _ =>
    rw [D.py] at hx
    cases hx
    cases y with
    | scr _ => rw [D.py] at hy; cases hy
    | dic _ _ => rw [D.py] at hy; cases hy
    | obj _ _ => rw [D.py] at hy; cases hy
    | g _ _ => rw [D.py] at hy; cases hy
    | lst ys =>
      rw [D.py] at hy
      cases e' : D.pys ys with
      | none => rw [e'] at hy; cases hy
      | some qs => rw [e'] at hy; cases hy; rfl
    | tup ys =>
      rw [D.py] at hy
      cases e' : D.pys ys with
      | none => rw [e'] at hy; cases hy
      | some qs => rw [e'] at hy; cases hy; rfl
    | _ => rw [D.py] at hy; cases hy; first | rfl | (rw [PyData.eqv, eqD])
theorem eqvs_py : ∀ (xs ys : List D) (ps qs : List PyData), D.pys xs = some ps → D.pys ys = some qs → PyData.eqvAll ps qs = eqDs xs ys := by
  intro xs ys ps qs hx hy
  cases xs with
  | nil =>
    rw [D.pys] at hx
    cases hx
    cases ys with
    | nil => rw [D.pys] at hy; cases hy; rfl
    | cons y r =>
      obtain ⟨q, t, _, _, rfl⟩ := pys_cons hy
      rfl
  | cons x r =>
    obtain ⟨p, t, h1, h2, rfl⟩ := pys_cons hx
    cases ys with
    | nil => rw [D.pys] at hy; cases hy; rfl
    | cons y r' =>
      obtain ⟨q, t', h1', h2', rfl⟩ := pys_cons hy
      rw [PyData.eqvAll, eqDs, eqv_py x y p q h1 h1', eqvs_py r r' t t' h2 h2']
end

section
variable {K : PySem.W.Frag} {mg : Str → Option Value} {W : Wd} {H : Hp}
mutual
theorem Den.dp (e : Same W.fz H) : ∀ {v : V} {d : D} {p : PyData}, Den K mg W v d → d.py = some p → Dp K H v p
  | _, _, _, .non, h => by rw [D.py] at h; cases h; exact .non
  | _, _, _, .bl b, h => by rw [D.py] at h; cases h; exact .bl b
  | _, _, _, .int i, h => by rw [D.py] at h; cases h; exact .int i
  | _, _, _, .str x, h => by rw [D.py] at h; cases h; exact .str x
  | _, .lst xs, _, .lst q t, h => by
    rw [D.py] at h
    cases z : D.pys xs with
    | none => rw [z] at h; cases h
    | some ps => rw [z] at h; cases h; exact .lst (.inl (.inl (e _ _ q))) (DenAll.dp e t z)
  | _, .tup xs, _, .tup q t, h => by
    rw [D.py] at h
    cases z : D.pys xs with
    | none => rw [z] at h; cases h
    | some ps => rw [z] at h; cases h; exact .tup (.inl (.inl (e _ _ q))) (DenAll.dp e t z)
  | _, _, _, .scr _, h => by rw [D.py] at h; cases h
  | _, _, _, .dic _ _, h => by rw [D.py] at h; cases h
  | _, _, _, .dit _ _, h => by rw [D.py] at h; cases h
  | _, _, _, .obj _ _ _, h => by rw [D.py] at h; cases h
  | _, _, _, .g _ _, h => by rw [D.py] at h; cases h
theorem DenAll.dp (e : Same W.fz H) : ∀ {vs : List V} {ds : List D} {ps : List PyData}, DenAll K mg W vs ds → D.pys ds = some ps → DpAll K H vs ps
  | _, _, _, .nil, h => by rw [D.pys] at h; cases h; exact .nil
  | _, _, _, .cons a b, h => by
    obtain ⟨p, r, h1, h2, rfl⟩ := pys_cons h
    exact .cons (Den.dp e a h1) (DenAll.dp e b h2)
end
theorem BDen.dp (ok : W.Ok H) {v : V} {d : D} {p : PyData} (h : BDen K mg W H v d) (e : d.py = some p) : Dp K H v p := by
  obtain ⟨s, h, rfl⟩ := h
  cases s with
  | val d => exact Den.dp ok.sub h e
  | own xs =>
    obtain ⟨o, vs, rfl, h1, _, h3⟩ := h
    have e2 : (D.lst xs).py = some p := e
    rw [D.py] at e2
    cases z : D.pys xs with
    | none => rw [z] at e2; cases e2
    | some ps => rw [z] at e2; cases e2; exact .lst (.inl (.inl h1)) (DenAll.dp ok.sub h3 z)
  | ownd t kvs =>
    have e2 : (D.dic t kvs).py = some p := e
    rw [D.py] at e2; cases e2

/-! ## what a value of some data is -/
theorem bd_int {v : V} {i : Int} : BDen K mg W H v (.int i) → v = .int i
  | ⟨.val _, h, rfl⟩ => by cases h; rfl
theorem bd_bl {v : V} {i : Bool} : BDen K mg W H v (.bl i) → v = .bl i
  | ⟨.val _, h, rfl⟩ => by cases h; rfl
theorem bd_str {v : V} {i : Str} : BDen K mg W H v (.str i) → v = .str i
  | ⟨.val _, h, rfl⟩ => by cases h; rfl
theorem bd_non {v : V} : BDen K mg W H v .non → v = .non
  | ⟨.val _, h, rfl⟩ => by cases h; rfl
theorem bd_scr (ok : W.Ok H) {v : V} {ns : List Int} : BDen K mg W H v (.scr ns) → ∃ o, v = .ref o ∧ SqL K H o (ns.map V.int)
  | ⟨.val _, h, rfl⟩ => by
    cases h with
    | scr e => exact ⟨_, rfl, sqL_same ok.sub e⟩
theorem bd_lst (ok : W.Ok H) {v : V} {xs : List D} : BDen K mg W H v (.lst xs) → ∃ o vs, v = .ref o ∧ H o = some (.lst vs) ∧ DenAll K mg W vs xs
  | ⟨.val _, h, rfl⟩ => by
    cases h with
    | lst e t => exact ⟨_, _, rfl, ok.sub _ _ e, t⟩
  | ⟨.own _, ⟨o, vs, e, h1, _, h3⟩, rfl⟩ => ⟨o, vs, e, h1, h3⟩
theorem bd_tup (ok : W.Ok H) {v : V} {xs : List D} : BDen K mg W H v (.tup xs) → ∃ o vs, v = .ref o ∧ H o = some (.tup vs) ∧ Den K mg W v (.tup xs) ∧ DenAll K mg W vs xs
  | ⟨.val _, h, rfl⟩ => by
    cases h with
    | tup e t => exact ⟨_, _, rfl, ok.sub _ _ e, .tup e t, t⟩
theorem bd_dK (ok : W.Ok H) {v : V} {kvs : List (D × D)} : BDen K mg W H v (.dic false kvs) → ∃ o vs, v = .ref o ∧ H o = some (.dK vs) ∧ DenK K mg W vs kvs
  | ⟨.val _, h, rfl⟩ => by
    cases h with
    | dic e t => exact ⟨_, _, rfl, ok.sub _ _ e, t⟩
  | ⟨.ownd false _, ⟨o, vs, e, h1, _, h3⟩, rfl⟩ => ⟨o, vs, e, h1, h3⟩
theorem bd_dT (ok : W.Ok H) {v : V} {kvs : List (D × D)} : BDen K mg W H v (.dic true kvs) → ∃ o vs, v = .ref o ∧ H o = some (.dT vs) ∧ DenT K mg W vs kvs
  | ⟨.val _, h, rfl⟩ => by
    cases h with
    | dit e t => exact ⟨_, _, rfl, ok.sub _ _ e, t⟩
  | ⟨.ownd true _, ⟨o, vs, e, h1, _, h3⟩, rfl⟩ => ⟨o, vs, e, h1, h3⟩
theorem bd_val {v : V} {d : D} (h : BDen K mg W H v d) (n : ∀ xs, d ≠ .lst xs) (m : ∀ t xs, d ≠ .dic t xs) : Den K mg W v d := by
  obtain ⟨s, h, rfl⟩ := h
  cases s with
  | val d => exact h
  | own xs => exact absurd rfl (n xs)
  | ownd t kvs => exact absurd rfl (m t kvs)
theorem den_int {ns : List Int} : ∀ {vs : List V}, DenAll K mg W vs (ns.map D.int) → vs = ns.map V.int := by
  induction ns with
  | nil => intro vs h; cases h; rfl
  | cons n r ih =>
    intro vs h
    cases h with
    | cons a b => cases a; rw [ih b]; rfl
theorem den_bl {ns : List Bool} : ∀ {vs : List V}, DenAll K mg W vs (ns.map D.bl) → vs = ns.map V.bl := by
  induction ns with
  | nil => intro vs h; cases h; rfl
  | cons n r ih =>
    intro vs h
    cases h with
    | cons a b => cases a; rw [ih b]; rfl
end
end PL

namespace PL
open PySem PySem.Spec PyProof.Rows L2

/-! ## operations on data -/
abbrev QS := Sl → Prop
abbrev LIM : Nat := 16777216
theorem lim_eq : sizeLine = LIM := sizeLine_eq
/-- a number that is not huge -/
structure Sm (i : Int) : Prop where
  lt : i.natAbs < 2 ^ 1000
theorem two64_lt : (2 : Nat) ^ 64 < 2 ^ 1000 := Nat.pow_lt_pow_right (by decide) (by decide)
theorem Sm.of {i : Int} (h1 : -18446744073709551616 ≤ i) (h2 : i ≤ 18446744073709551615) : Sm i := by
  refine ⟨?_⟩
  by_cases h : i.natAbs < 2 ^ 64
  · exact Nat.lt_trans h two64_lt
  · have e : (2 : Nat) ^ 64 = 18446744073709551616 := by decide
    rw [e] at h
    have h3 : i.natAbs = 18446744073709551616 := by omega
    rw [h3, ← e]
    exact two64_lt
theorem Sm.mul {i j : Int} (a : Sm i) (b : Sm j) : CMulW i j := wide_mul a.lt b.lt (by decide) (by decide) (by decide)

def sm2 (i j : Int) : Prop := Sm i ∧ Sm j
def addW : D → D → QS → Prop
  | .int i, .int j, Q => Q (.val (.int (i + j)))
  | .lst xs, .lst ys, Q => xs.length + ys.length ≤ LIM ∧ Q (.own (xs ++ ys))
  | .tup xs, .tup ys, Q => xs.length + ys.length ≤ LIM ∧ Q (.val (.tup (xs ++ ys)))
  | .str x, .str y, Q => x.length + y.length ≤ LIM ∧ Q (.val (.str (x ++ y)))
  | _, _, _ => False
def subW : D → D → QS → Prop
  | .int i, .int j, Q => Q (.val (.int (i - j)))
  | _, _, _ => False
def mulW : D → D → QS → Prop
  | .int i, .int j, Q => sm2 i j ∧ Q (.val (.int (i * j)))
  | .lst xs, .int k, Q => (k < 9223372036854775808 ∧ -9223372036854775808 ≤ k ∧ xs.length * k.toNat ≤ LIM) ∧ Q (.own (List.replicate k.toNat xs).flatten)
  | .tup xs, .int k, Q => ((xs ≠ [] ∧ xs.length ≤ 1000) ∧ (1 ≤ k ∧ k ≤ 1000)) ∧ Q (.val (.tup (List.replicate k.toNat xs).flatten))
  | _, _, _ => False
theorem tuple_mul1 (l : Addr) (items : Array Value) (n : Nat) (dd : Option Addr) (sl : Array (Option Value)) (u : Tok) :
    Meets (Builtin.«tuple.__mul__» ⟨[.ref l, .int 1 u], []⟩) (fun _ R s => s.heap.get? l = some { cls := .type "tuple", dict := dd, data := .seq items n, slots := sl } ∧ R (.ok (.ret (Value.ref l))) s) :=
  .of_wp fun prog w A R s h => by
    obtain ⟨hp, g, d, tk, os⟩ := s
    obtain ⟨hl, h⟩ := h
    have f1 := AutoSeq1.idx_int
    have c1 : (items.isEmpty || (1 : Int) == 1) = true := by simp
    wp_walk using wpAny_loadPart' hl
    repeat (first
      | (refine wpAny_ite_false (by decide) ?_; wp_walk using wpAny_loadPart' hl)
      | (refine wpAny_ite_true (decide_eq_true c1) ?_; wp_walk using wpAny_loadPart' hl)
      | (refine wpAny_ite_true (by decide) ?_; wp_walk using wpAny_loadPart' hl))
    all_goals exact ⟨_, rfl, h⟩
def rRep1 (K : PySem.W.Frag) : R2 := fun x y H Q => ∃ l xs, x = .ref l ∧ y = .int 1 ∧ SqT K H l xs ∧ Q (.ref l) H
theorem op_rep1 {X : Cx} : OpR X (binaryOp .Mult) (rRep1 X.K) := by
  intro pins s σ H x y v u Q I rx ry h
  obtain ⟨l, xs, rfl, rfl, hT, q⟩ := h
  cases rx
  obtain ⟨t, rfl⟩ := ry
  obtain ⟨its, r, ⟨⟨cls, dd, data, sl⟩, ho, hc, n, hd⟩, hs⟩ := I.tuple hT
  simp only at hc hd
  subst hc hd
  refine wpAny_binaryOp_repeat_ref (T := "tuple") (U := "int") (by decide) ⟨_, ho, rfl⟩ (fun s' => typeIs_int s' 1 t) noFill_tuple_mul F.fills_int_mul F.slot_int_rmul repeat_tuple F.slot_int_index.lookup
    (call_meets F.slot_int_rmul (typeIs_int s 1 t) F.entry_int_rmul (F.args_int_rmul_2 _ _) (int_rmul_tuple 1 t l its.toArray n dd sl)
      ⟨ho, rfl, ⟨_, ho, rfl⟩, call_meets F.slot_tuple_mul ⟨_, ho, rfl⟩ F.entry_tuple_mul (F.args_tuple_mul_2 _ _) (tuple_mul1 l its.toArray n dd sl t) ⟨ho, ?_⟩⟩)
  exact ⟨.ref l, H, I, rfl, q⟩
def fdivW : D → D → QS → Prop
  | .int i, .int j, Q => (0 < j ∧ Sm j) ∧ Q (.val (.int (i / j)))
  | _, _, _ => False
def modW : D → D → QS → Prop
  | .int i, .int j, Q => 0 < j ∧ Q (.val (.int (i % j)))
  | _, _, _ => False
def small64' (i : Int) : Prop := i < 18446744073709551616 ∧ -18446744073709551616 < i
def powW : D → D → QS → Prop
  | .int i, .int j, Q => ((0 ≤ j ∧ j ≤ 1000000) ∧ small64' i) ∧ Q (.val (.int (i ^ j.toNat)))
  | _, _, _ => False
def shlW : D → D → QS → Prop
  | .int i, .int j, Q => ((0 ≤ j ∧ j ≤ 1000000) ∧ small64' i) ∧ Q (.val (.int (i * 2 ^ j.toNat)))
  | _, _, _ => False
def shrW : D → D → QS → Prop
  | .int i, .int j, Q => 0 ≤ j ∧ Q (.val (.int (i / 2 ^ j.toNat)))
  | _, _, _ => False
def bitW (f : Int → Int → Int) : D → D → QS → Prop
  | .int i, .int j, Q => Q (.val (.int (f i j)))
  | _, _, _ => False
/-- the value of a dict's key -/
def getD? (kvs : List (D × D)) (k : D) : Option D := (kvs.find? fun p => eqD p.1 k).map (·.2)
/-- each of the pairs stands in the other dict -/
def hitsK : List (D × D) → List (D × D) → Bool
  | [], _ => true
  | (k, v) :: r, ls => match getD? ls k with
    | none => false
    | some y => eqD v y && hitsK r ls
def eqK (ks ls : List (D × D)) : Bool := (ks.length == ls.length) && hitsK ks ls
/-- two dicts of plain values, keys numbers or texts -/
def dicEq (x y : D) (P : Bool → Prop) : Prop := ∃ ks ls, x = .dic false ks ∧ y = .dic false ls ∧ (∀ p ∈ ks, pl p.2 = true) ∧ (∀ p ∈ ls, pl p.2 = true) ∧ P (eqK ks ls)
def eqW (x y : D) (Q : QS) : Prop := ((pl x = true ∧ pl y = true) ∧ Q (.val (.bl (eqD x y)))) ∨ dicEq x y fun b => Q (.val (.bl b))
def neW (x y : D) (Q : QS) : Prop := ((pl x = true ∧ pl y = true) ∧ Q (.val (.bl (!eqD x y)))) ∨ dicEq x y fun b => Q (.val (.bl (!b)))
/-- an order of alike data -/
def cmpP (x y : D) (f : PyData → PyData → Bool) (b : Bool) : Prop := ∃ p q, x.py = some p ∧ y.py = some q ∧ PySem.W.alike p q = true ∧ p ≠ .none ∧ p.depth ≤ 60 ∧ b = f p q
def ltW : D → D → QS → Prop
  | .int i, .int j, Q => Q (.val (.bl (decide (i < j))))
  | x, y, Q => ∃ b, cmpP x y PySem.W.dataLt b ∧ Q (.val (.bl b))
def leW : D → D → QS → Prop
  | .int i, .int j, Q => Q (.val (.bl (decide (i ≤ j))))
  | x, y, Q => ∃ b, cmpP x y (fun p q => !PySem.W.dataLt q p) b ∧ Q (.val (.bl b))
def gtW : D → D → QS → Prop
  | .int i, .int j, Q => Q (.val (.bl (decide (j < i))))
  | x, y, Q => ∃ b, cmpP x y (fun p q => PySem.W.dataLt q p) b ∧ Q (.val (.bl b))
def geW : D → D → QS → Prop
  | .int i, .int j, Q => Q (.val (.bl (decide (j ≤ i))))
  | x, y, Q => ∃ b, cmpP x y (fun p q => !PySem.W.dataLt p q) b ∧ Q (.val (.bl b))
def isNon : D → Bool
  | .non => true
  | _ => false
def isW : D → D → QS → Prop
  | x, .non, Q => Q (.val (.bl (isNon x)))
  | .bl a, .bl b, Q => Q (.val (.bl (decide (a = b))))
  | _, _, _ => False
def isntW : D → D → QS → Prop
  | x, .non, Q => Q (.val (.bl (!isNon x)))
  | .bl a, .bl b, Q => Q (.val (.bl (!decide (a = b))))
  | _, _, _ => False
def isKey : D → Bool
  | .int _ => true
  | .str _ => true
  | _ => false
def isKeyT : D → Bool
  | .tup xs => xs.all isKey
  | _ => false
/-- the key fits the dict (t: of tuples | of numbers and texts) -/
def keyFits (t : Bool) (k : D) : Bool := if t then isKeyT k else isKey k
def inW : D → D → QS → Prop
  | x, .lst xs, Q => (pl x = true ∧ pl (.lst xs) = true) ∧ Q (.val (.bl (xs.any fun z => eqD z x)))
  | x, .tup xs, Q => (pl x = true ∧ pl (.tup xs) = true) ∧ Q (.val (.bl (xs.any fun z => eqD z x)))
  | x, .dic t kvs, Q => keyFits t x = true ∧ Q (.val (.bl (getD? kvs x).isSome))
  | _, _, _ => False
def notinW : D → D → QS → Prop
  | x, .lst xs, Q => (pl x = true ∧ pl (.lst xs) = true) ∧ Q (.val (.bl (!xs.any fun z => eqD z x)))
  | x, .tup xs, Q => (pl x = true ∧ pl (.tup xs) = true) ∧ Q (.val (.bl (!xs.any fun z => eqD z x)))
  | x, .dic t kvs, Q => keyFits t x = true ∧ Q (.val (.bl (!(getD? kvs x).isSome)))
  | _, _, _ => False
def optW (o : Option D) (Q : QS) : Prop := match o with
  | some v => Q (.val v)
  | none => False
def idxW : D → D → QS → Prop
  | .lst xs, .int i, Q => optW (atI xs i) Q
  | .tup xs, .int i, Q => optW (atI xs i) Q
  | .dic t kvs, k, Q => keyFits t k = true ∧ optW (getD? kvs k) Q
  | .str x, .int i, Q => x.length ≤ LIM ∧ (match atI x.cps.toList i with | some c => Q (.val (.str ⟨#[c]⟩)) | none => False)
  | _, _, _ => False
def cutD (xs : List D) (lo hi : Option Int) : List D := (xs.drop (HT.sIx xs.length 0 lo)).take (HT.sIx xs.length xs.length hi - HT.sIx xs.length 0 lo)
def sliceW (d : D) (lo hi : Option Int) (Q : QS) : Prop := match d with
  | .lst xs => Q (.own (cutD xs lo hi))
  | .tup xs => Q (.val (.tup (cutD xs lo hi)))
  | .scr ns => Q (.own (cutD (ns.map D.int) lo hi))
  | _ => False
def negW : D → QS → Prop
  | .int i, Q => Q (.val (.int (-i)))
  | _, _ => False

section
variable {X : Cx}
def R2D (X : Cx) (fw : D → D → QS → Prop) : R2 := fun x y H Q => ∃ (W : Wd) (d e : D) (Qp : QS), W.Ok H ∧ BDen X.K X.mg W H x d ∧ BDen X.K X.mg W H y e ∧ fw d e Qp ∧ ∀ v H', Out X.K X.mg W H Qp v H' → Q v H'
def R1D (X : Cx) (fw : D → QS → Prop) : V → Hp → VK → Prop := fun x H Q => ∃ (W : Wd) (d : D) (Qp : QS), W.Ok H ∧ BDen X.K X.mg W H x d ∧ fw d Qp ∧ ∀ v H', Out X.K X.mg W H Qp v H' → Q v H'
def RnD (X : Cx) (fw : List D → QS → Prop) : List V → Hp → VK → Prop := fun xs H Q => ∃ (W : Wd) (ds : List D) (Qp : QS), W.Ok H ∧ BAll X.K X.mg W H xs ds ∧ fw ds Qp ∧ ∀ v H', Out X.K X.mg W H Qp v H' → Q v H'
def RsD (X : Cx) : V → Option Int → Option Int → Hp → VK → Prop := fun x lo hi H Q => ∃ (W : Wd) (d : D) (Qp : QS), W.Ok H ∧ BDen X.K X.mg W H x d ∧ sliceW d lo hi Qp ∧ ∀ v H', Out X.K X.mg W H Qp v H' → Q v H'

theorem o_add : OpR X (binaryOp .Add) (R2D X addW) := by
  intro pins s σ H x y v u Q I rx ry ⟨W, d, e, Qp, ok, hd, he, h, q⟩
  unfold addW at h
  split at h
  · cases bd_int hd; cases bd_int he
    exact op_add pins s σ H _ _ v u Q I rx ry ⟨_, _, rfl, rfl, q _ _ (.now ok (.int _) h)⟩
  · obtain ⟨a, vs, rfl, ha, ta⟩ := bd_lst ok hd
    obtain ⟨b, ws, rfl, hb, tb⟩ := bd_lst ok he
    exact op_cat pins s σ H _ _ v u Q I rx ry ⟨a, b, vs, ws, rfl, rfl, ha, hb, by rw [ta.length, tb.length, lim_eq]; exact h.1, fun p np => q _ _ (.newL ok np (ta.append tb) h.2)⟩
  · obtain ⟨a, vs, rfl, ha, _, ta⟩ := bd_tup ok hd
    obtain ⟨b, ws, rfl, hb, _, tb⟩ := bd_tup ok he
    obtain ⟨h1, h2⟩ := h
    refine op_catA pins s σ H _ _ v u Q I rx ry ⟨a, b, vs, ws, rfl, rfl, .of ha, .of hb, by rw [ta.length, tb.length, lim_eq]; exact h1, fun z => ?_, fun _ z => ?_, fun _ _ p np => q _ _ (.newT ok np (ta.append tb) h2)⟩
    · subst z
      cases ta
      exact q _ _ (.now ok (bd_val he (fun _ y => nomatch y) (fun _ _ y => nomatch y)) h2)
    · subst z
      cases tb
      rw [List.append_nil] at h2
      exact q _ _ (.now ok (bd_val hd (fun _ y => nomatch y) (fun _ _ y => nomatch y)) h2)
  · cases bd_str hd; cases bd_str he
    exact op_add_str pins s σ H _ _ v u Q I rx ry ⟨_, _, rfl, rfl, by rw [lim_eq]; exact h.1, q _ _ (.now ok (.str _) h.2)⟩
  · exact h.elim
theorem o_sub : OpR X (binaryOp .Sub) (R2D X subW) := by
  intro pins s σ H x y v u Q I rx ry ⟨W, d, e, Qp, ok, hd, he, h, q⟩
  unfold subW at h
  split at h
  · cases bd_int hd; cases bd_int he
    exact op_sub pins s σ H _ _ v u Q I rx ry ⟨_, _, rfl, rfl, q _ _ (.now ok (.int _) h)⟩
  · exact h.elim
theorem o_mul : OpR X (binaryOp .Mult) (R2D X mulW) := by
  intro pins s σ H x y v u Q I rx ry ⟨W, d, e, Qp, ok, hd, he, h, q⟩
  unfold mulW at h
  split at h
  · cases bd_int hd; cases bd_int he
    exact op_mulW pins s σ H _ _ v u Q I rx ry ⟨_, _, rfl, rfl, h.1.1.mul h.1.2, q _ _ (.now ok (.int _) h.2)⟩
  · rename_i xs k
    obtain ⟨a, vs, rfl, ha, ta⟩ := bd_lst ok hd
    cases bd_int he
    obtain ⟨⟨h1, h2, h3⟩, h4⟩ := h
    exact op_rep pins s σ H _ _ v u Q I rx ry ⟨a, k, vs, rfl, rfl, ha, h2, h1, by rw [ta.length, lim_eq]; exact h3, fun p np => q _ _ (.newL ok np (ta.rep _) h4)⟩
  · rename_i xs k
    obtain ⟨a, vs, rfl, ha, td, ta⟩ := bd_tup ok hd
    cases bd_int he
    obtain ⟨⟨⟨h1, h2⟩, h3, h4⟩, h5⟩ := h
    by_cases hk : k = 1
    · subst hk
      have e : (List.replicate (1 : Int).toNat xs).flatten = xs := by
        show (List.replicate 1 xs).flatten = xs
        simp
      rw [e] at h5
      exact op_rep1 pins s σ H _ _ v u Q I rx ry ⟨a, vs, rfl, rfl, .inl (.of ha), q _ _ (.now ok td h5)⟩
    · refine op_repT pins s σ H _ _ v u Q I rx ry ⟨a, k, vs, rfl, rfl, .inl (.of ha), ?_, by omega, h4, by rw [ta.length]; exact h2, fun p np => q _ _ (.newT ok np (ta.rep _) h5)⟩
      intro z
      apply h1
      have := ta.length
      rw [z] at this
      exact List.length_eq_zero_iff.mp this.symm
  · exact h.elim
theorem o_fdiv : OpR X (binaryOp .FloorDiv) (R2D X fdivW) := by
  intro pins s σ H x y v u Q I rx ry ⟨W, d, e, Qp, ok, hd, he, h, q⟩
  unfold fdivW at h
  split at h
  · cases bd_int hd; cases bd_int he
    exact op_fdivW pins s σ H _ _ v u Q I rx ry ⟨_, _, rfl, rfl, wide_div h.1.1 h.1.2.lt (by decide) (by decide), q _ _ (.now ok (.int _) h.2)⟩
  · exact h.elim
theorem o_mod : OpR X (binaryOp .Mod) (R2D X modW) := by
  intro pins s σ H x y v u Q I rx ry ⟨W, d, e, Qp, ok, hd, he, h, q⟩
  unfold modW at h
  split at h
  · cases bd_int hd; cases bd_int he
    exact op_mod pins s σ H _ _ v u Q I rx ry ⟨_, _, rfl, rfl, h.1, q _ _ (.now ok (.int _) h.2)⟩
  · exact h.elim
theorem cpow {i j : Int} (h : (0 ≤ j ∧ j ≤ 1000000) ∧ small64' i) : CPow i j := ⟨h.1.1, h.1.2, by
  have e : (2 : Nat) ^ 64 = 18446744073709551616 := by decide
  rw [e]
  have h1 := h.2.1
  have h2 := h.2.2
  omega⟩
theorem o_pow : OpR X (binaryOp .Pow) (R2D X powW) := by
  intro pins s σ H x y v u Q I rx ry ⟨W, d, e, Qp, ok, hd, he, h, q⟩
  unfold powW at h
  split at h
  · cases bd_int hd; cases bd_int he
    exact op_pow pins s σ H _ _ v u Q I rx ry ⟨_, _, rfl, rfl, cpow h.1, q _ _ (.now ok (.int _) h.2)⟩
  · exact h.elim
theorem o_shl : OpR X (binaryOp .LShift) (R2D X shlW) := by
  intro pins s σ H x y v u Q I rx ry ⟨W, d, e, Qp, ok, hd, he, h, q⟩
  unfold shlW at h
  split at h
  · cases bd_int hd; cases bd_int he
    exact op_shl pins s σ H _ _ v u Q I rx ry ⟨_, _, rfl, rfl, cpow h.1, q _ _ (.now ok (.int _) h.2)⟩
  · exact h.elim
theorem o_shr : OpR X (binaryOp .RShift) (R2D X shrW) := by
  intro pins s σ H x y v u Q I rx ry ⟨W, d, e, Qp, ok, hd, he, h, q⟩
  unfold shrW at h
  split at h
  · cases bd_int hd; cases bd_int he
    exact op_shr pins s σ H _ _ v u Q I rx ry ⟨_, _, rfl, rfl, h.1, q _ _ (.now ok (.int _) h.2)⟩
  · exact h.elim
theorem o_and : OpR X (binaryOp .BitAnd) (R2D X (bitW Builtin.bitAnd)) := by
  intro pins s σ H x y v u Q I rx ry ⟨W, d, e, Qp, ok, hd, he, h, q⟩
  unfold bitW at h
  split at h
  · cases bd_int hd; cases bd_int he
    exact op_and pins s σ H _ _ v u Q I rx ry ⟨_, _, rfl, rfl, q _ _ (.now ok (.int _) h)⟩
  · exact h.elim
theorem o_or : OpR X (binaryOp .BitOr) (R2D X (bitW Builtin.bitOr)) := by
  intro pins s σ H x y v u Q I rx ry ⟨W, d, e, Qp, ok, hd, he, h, q⟩
  unfold bitW at h
  split at h
  · cases bd_int hd; cases bd_int he
    exact op_or pins s σ H _ _ v u Q I rx ry ⟨_, _, rfl, rfl, q _ _ (.now ok (.int _) h)⟩
  · exact h.elim
theorem o_xor : OpR X (binaryOp .BitXor) (R2D X (bitW Builtin.bitXor)) := by
  intro pins s σ H x y v u Q I rx ry ⟨W, d, e, Qp, ok, hd, he, h, q⟩
  unfold bitW at h
  split at h
  · cases bd_int hd; cases bd_int he
    exact op_xor pins s σ H _ _ v u Q I rx ry ⟨_, _, rfl, rfl, q _ _ (.now ok (.int _) h)⟩
  · exact h.elim
/-- x op= y where y is data (numbers; no list) -/
def iaddW : D → D → QS → Prop
  | .int i, .int j, Q => Q (.val (.int (i + j)))
  | .str x, .str y, Q => x.length + y.length ≤ LIM ∧ Q (.val (.str (x ++ y)))
  | _, _, _ => False
theorem o_iadd : OpR X (inplaceOp .Add) (R2D X iaddW) := by
  intro pins s σ H x y v u Q I rx ry ⟨W, d, e, Qp, ok, hd, he, h, q⟩
  unfold iaddW at h
  split at h
  · cases bd_int hd; cases bd_int he
    exact iop_add pins s σ H _ _ v u Q I rx ry ⟨_, _, rfl, rfl, q _ _ (.now ok (.int _) h)⟩
  · cases bd_str hd; cases bd_str he
    exact iop_add_str pins s σ H _ _ v u Q I rx ry ⟨_, _, rfl, rfl, by rw [lim_eq]; exact h.1, q _ _ (.now ok (.str _) h.2)⟩
  · exact h.elim
theorem o_isub : OpR X (inplaceOp .Sub) (R2D X subW) := by
  intro pins s σ H x y v u Q I rx ry ⟨W, d, e, Qp, ok, hd, he, h, q⟩
  unfold subW at h
  split at h
  · cases bd_int hd; cases bd_int he
    exact iop_sub pins s σ H _ _ v u Q I rx ry ⟨_, _, rfl, rfl, q _ _ (.now ok (.int _) h)⟩
  · exact h.elim
def imulW : D → D → QS → Prop
  | .int i, .int j, Q => (small64' i ∨ small64' j) ∧ Q (.val (.int (i * j)))
  | _, _, _ => False
theorem o_imul : OpR X (inplaceOp .Mult) (R2D X imulW) := by
  intro pins s σ H x y v u Q I rx ry ⟨W, d, e, Qp, ok, hd, he, h, q⟩
  unfold imulW at h
  split at h
  · cases bd_int hd; cases bd_int he
    refine iop_mul pins s σ H _ _ v u Q I rx ry ⟨_, _, rfl, rfl, ?_, q _ _ (.now ok (.int _) h.2)⟩
    rcases h.1 with z | z
    · exact .inl ⟨by have := z.2; omega, by have := z.1; omega⟩
    · exact .inr ⟨by have := z.2; omega, by have := z.1; omega⟩
  · exact h.elim
def ifdivW : D → D → QS → Prop
  | .int i, .int j, Q => (0 < j ∧ j < 1073741824) ∧ Q (.val (.int (i / j)))
  | _, _, _ => False
theorem o_ifdiv : OpR X (inplaceOp .FloorDiv) (R2D X ifdivW) := by
  intro pins s σ H x y v u Q I rx ry ⟨W, d, e, Qp, ok, hd, he, h, q⟩
  unfold ifdivW at h
  split at h
  · cases bd_int hd; cases bd_int he
    exact iop_fdiv pins s σ H _ _ v u Q I rx ry ⟨_, _, rfl, rfl, h.1, q _ _ (.now ok (.int _) h.2)⟩
  · exact h.elim
theorem o_ishl : OpR X (inplaceOp .LShift) (R2D X shlW) := by
  intro pins s σ H x y v u Q I rx ry ⟨W, d, e, Qp, ok, hd, he, h, q⟩
  unfold shlW at h
  split at h
  · cases bd_int hd; cases bd_int he
    exact iop_shl pins s σ H _ _ v u Q I rx ry ⟨_, _, rfl, rfl, cpow h.1, q _ _ (.now ok (.int _) h.2)⟩
  · exact h.elim
theorem o_ishr : OpR X (inplaceOp .RShift) (R2D X shrW) := by
  intro pins s σ H x y v u Q I rx ry ⟨W, d, e, Qp, ok, hd, he, h, q⟩
  unfold shrW at h
  split at h
  · cases bd_int hd; cases bd_int he
    exact iop_shr pins s σ H _ _ v u Q I rx ry ⟨_, _, rfl, rfl, h.1, q _ _ (.now ok (.int _) h.2)⟩
  · exact h.elim
theorem o_ixor : OpR X (inplaceOp .BitXor) (R2D X (bitW Builtin.bitXor)) := by
  intro pins s σ H x y v u Q I rx ry ⟨W, d, e, Qp, ok, hd, he, h, q⟩
  unfold bitW at h
  split at h
  · cases bd_int hd; cases bd_int he
    exact iop_xor pins s σ H _ _ v u Q I rx ry ⟨_, _, rfl, rfl, q _ _ (.now ok (.int _) h)⟩
  · exact h.elim
/-- room for a call is room for a comparison -/
abbrev Rm (X : Cx) : Prop := X.A.units + 66 < cLine
theorem pl_some {d : D} (h : pl d = true) : ∃ p, d.py = some p ∧ SeqAt.shaped p = true := by
  unfold pl at h
  split at h
  · exact ⟨_, by assumption, h⟩
  · cases h
theorem BDen.reads {pins : List (Addr × Obj)} {s : Shared} {σ : L2.St} {H : Hp} {W : Wd} {x : V} {u : Value} {d : D} {p : PyData} (I : Inv X pins σ H s) (ok : W.Ok H) (h : BDen X.K X.mg W H x d) (r : RelV x u) (e : d.py = some p) : ∃ as, Reads s.heap u p as := Dp.reads I p x u (h.dp ok e) r
theorem o_lt (hu : Rm X) : OpR X (compareOp .Lt) (R2D X ltW) := by
  intro pins s σ H x y v u Q I rx ry ⟨W, d, e, Qp, ok, hd, he, h, q⟩
  unfold ltW at h
  split at h
  · cases bd_int hd; cases bd_int he
    exact op_lt pins s σ H _ _ v u Q I rx ry ⟨_, _, rfl, rfl, q _ _ (.now ok (.bl _) h)⟩
  · obtain ⟨b, ⟨p, r, ep, er, al, nn, dp, rfl⟩, h⟩ := h
    obtain ⟨as, r1⟩ := hd.reads I ok rx ep
    obtain ⟨bs, r2⟩ := he.reads I ok ry er
    exact PySem.W.lt_data r1 r2 al nn (by have : X.A.units + 66 < cLine := hu; have := Nat.min_le_left p.depth r.depth; omega) ⟨.bl _, H, I, rfl, q _ _ (.now ok (.bl _) h)⟩
theorem o_gt (hu : Rm X) : OpR X (compareOp .Gt) (R2D X gtW) := by
  intro pins s σ H x y v u Q I rx ry ⟨W, d, e, Qp, ok, hd, he, h, q⟩
  unfold gtW at h
  split at h
  · cases bd_int hd; cases bd_int he
    exact op_gt pins s σ H _ _ v u Q I rx ry ⟨_, _, rfl, rfl, q _ _ (.now ok (.bl _) h)⟩
  · obtain ⟨b, ⟨p, r, ep, er, al, nn, dp, rfl⟩, h⟩ := h
    obtain ⟨as, r1⟩ := hd.reads I ok rx ep
    obtain ⟨bs, r2⟩ := he.reads I ok ry er
    exact PySem.W.gt_data r1 r2 al nn (by have : X.A.units + 66 < cLine := hu; have := Nat.min_le_left p.depth r.depth; omega) ⟨.bl _, H, I, rfl, q _ _ (.now ok (.bl _) h)⟩
theorem o_le (hu : Rm X) : OpR X (compareOp .LtE) (R2D X leW) := by
  intro pins s σ H x y v u Q I rx ry ⟨W, d, e, Qp, ok, hd, he, h, q⟩
  unfold leW at h
  split at h
  · cases bd_int hd; cases bd_int he
    exact op_le pins s σ H _ _ v u Q I rx ry ⟨_, _, rfl, rfl, q _ _ (.now ok (.bl _) h)⟩
  · obtain ⟨b, ⟨p, r, ep, er, al, nn, dp, rfl⟩, h⟩ := h
    obtain ⟨as, r1⟩ := hd.reads I ok rx ep
    obtain ⟨bs, r2⟩ := he.reads I ok ry er
    exact PySem.W.le_data r1 r2 al nn (by have : X.A.units + 66 < cLine := hu; have := Nat.min_le_left p.depth r.depth; omega) ⟨.bl _, H, I, rfl, q _ _ (.now ok (.bl _) h)⟩
theorem o_ge (hu : Rm X) : OpR X (compareOp .GtE) (R2D X geW) := by
  intro pins s σ H x y v u Q I rx ry ⟨W, d, e, Qp, ok, hd, he, h, q⟩
  unfold geW at h
  split at h
  · cases bd_int hd; cases bd_int he
    exact op_ge pins s σ H _ _ v u Q I rx ry ⟨_, _, rfl, rfl, q _ _ (.now ok (.bl _) h)⟩
  · obtain ⟨b, ⟨p, r, ep, er, al, nn, dp, rfl⟩, h⟩ := h
    obtain ⟨as, r1⟩ := hd.reads I ok rx ep
    obtain ⟨bs, r2⟩ := he.reads I ok ry er
    exact PySem.W.ge_data r1 r2 al nn (by have : X.A.units + 66 < cLine := hu; have := Nat.min_le_left p.depth r.depth; omega) ⟨.bl _, H, I, rfl, q _ _ (.now ok (.bl _) h)⟩
theorem bd_isNon {K : PySem.W.Frag} {mg : Str → Option Value} {W : Wd} {H : Hp} {x : V} {d : D} (h : BDen K mg W H x d) : decide (x = .non) = isNon d := by
  obtain ⟨s, h, rfl⟩ := h
  cases s with
  | val d => cases h <;> rfl
  | own xs => obtain ⟨o, vs, rfl, _⟩ := h; rfl
  | ownd t kvs => cases t <;> (obtain ⟨o, vs, rfl, _⟩ := h; rfl)
theorem o_is : OpR X (compareOp .Is) (R2D X isW) := by
  intro pins s σ H x y v u Q I rx ry ⟨W, d, e, Qp, ok, hd, he, h, q⟩
  unfold isW at h
  split at h
  · cases bd_non he
    exact op_isN pins s σ H _ _ v u Q I rx ry ⟨rfl, by rw [bd_isNon hd]; exact q _ _ (.now ok (.bl _) h)⟩
  · cases bd_bl hd; cases bd_bl he
    exact op_isBl pins s σ H _ _ v u Q I rx ry ⟨_, _, rfl, rfl, q _ _ (.now ok (.bl _) h)⟩
  · exact h.elim
theorem o_isnt : OpR X (compareOp .IsNot) (R2D X isntW) := by
  intro pins s σ H x y v u Q I rx ry ⟨W, d, e, Qp, ok, hd, he, h, q⟩
  unfold isntW at h
  split at h
  · cases bd_non he
    exact op_notN pins s σ H _ _ v u Q I rx ry ⟨rfl, by rw [bd_isNon hd]; exact q _ _ (.now ok (.bl _) h)⟩
  · cases bd_bl hd; cases bd_bl he
    exact op_notBl pins s σ H _ _ v u Q I rx ry ⟨_, _, rfl, rfl, q _ _ (.now ok (.bl _) h)⟩
  · exact h.elim
end
end PL

namespace PL
open PySem PySem.Spec PyProof.Rows L2

/-! ## keys of dicts -/
theorem eqD_kD (a b : Key) : eqD (kD a) (kD b) = decide (a = b) := by
  cases a with
  | inl i =>
    cases b with
    | inl j => show (i == j) = _; rw [key_ll]
    | inr y => rw [key_lr]; rfl
  | inr x =>
    cases b with
    | inl j => rw [key_rl]; rfl
    | inr y =>
      show (x == y) = _
      rw [key_rr]
      exact Bool.beq_eq_decide_eq x y
theorem eqDs_kD : ∀ a b : List Key, eqDs (a.map kD) (b.map kD) = decide (a = b)
  | [], [] => rfl
  | [], _ :: _ => by rw [decide_eq_false (by intro z; cases z)]; rfl
  | _ :: _, [] => by rw [decide_eq_false (by intro z; cases z)]; rfl
  | a :: as, b :: bs => by
    rw [List.map_cons, List.map_cons, eqDs, eqD_kD, eqDs_kD as bs]
    by_cases h : a = b
    · by_cases h2 : as = bs
      · subst h h2; simp
      · rw [decide_eq_true h, decide_eq_false h2, decide_eq_false (show ¬ a :: as = b :: bs from fun z => h2 (List.cons.inj z).2)]; rfl
    · rw [decide_eq_false h, decide_eq_false (show ¬ a :: as = b :: bs from fun z => h (List.cons.inj z).1)]; rfl
theorem isKey_kD {d : D} (h : isKey d = true) : ∃ k : Key, d = kD k := by
  cases d with
  | int i => exact ⟨.inl i, rfl⟩
  | str x => exact ⟨.inr x, rfl⟩
  | _ => cases h
theorem isKeys_kD : ∀ {ds : List D}, ds.all isKey = true → ∃ ks : List Key, ds = ks.map kD
  | [], _ => ⟨[], rfl⟩
  | d :: r, h => by
    rw [List.all_cons, Bool.and_eq_true] at h
    obtain ⟨k, e⟩ := isKey_kD h.1
    obtain ⟨ks, e2⟩ := isKeys_kD h.2
    exact ⟨k :: ks, by rw [e, e2]; rfl⟩
theorem isKeyT_kD {d : D} (h : isKeyT d = true) : ∃ ks : List Key, d = .tup (ks.map kD) := by
  cases d with
  | tup xs =>
    obtain ⟨ks, e⟩ := isKeys_kD (show xs.all isKey = true from h)
    exact ⟨ks, by rw [e]⟩
  | _ => cases h
section
variable {K : PySem.W.Frag} {mg : Str → Option Value} {W : Wd} {H : Hp}
theorem den_kD {v : V} {k : Key} (h : BDen K mg W H v (kD k)) : v = kV k := by
  cases k with
  | inl i => exact bd_int h
  | inr x => exact bd_str h
theorem den_kDs (H : Hp) : ∀ {vs : List V} {ks : List Key}, DenAll K mg W vs (ks.map kD) → vs = ks.map kV
  | [], [], _ => rfl
  | _ :: _, [], h => by cases h
  | [], _ :: _, h => by cases h
  | v :: vs, k :: ks, h => by
    cases h with
    | cons a b => rw [den_kD (H := H) (.of a), den_kDs H b]; rfl
theorem denK_get : ∀ {vs : List (Key × V)} {kvs : List (D × D)} (k : Key), DenK K mg W vs kvs →
    (∃ v d, valV vs k = some v ∧ getD? kvs (kD k) = some d ∧ Den K mg W v d) ∨ (valV vs k = none ∧ getD? kvs (kD k) = none)
  | _, _, _, .nil => .inr ⟨rfl, rfl⟩
  | _, _, k, .cons (k := j) (v := v) (d := d) (vs := vs) (ds := ds) a b => by
    by_cases h : j = k
    · refine .inl ⟨v, d, valV_pos h, ?_, a⟩
      unfold getD?
      rw [List.find?_cons_of_pos (by show eqD (kD j) (kD k) = true; rw [eqD_kD, decide_eq_true h])]
      rfl
    · have e1 : valV ((j, v) :: vs) k = valV vs k := valV_neg h
      have e2 : getD? ((kD j, d) :: ds) (kD k) = getD? ds (kD k) := by
        unfold getD?
        rw [List.find?_cons_of_neg (by show ¬ eqD (kD j) (kD k) = true; rw [eqD_kD, decide_eq_false h]; decide)]
      rw [e1, e2]
      exact denK_get k b
theorem denT_get : ∀ {vs : List (List Key × V)} {kvs : List (D × D)} (k : List Key), DenT K mg W vs kvs →
    (∃ v d, valV vs k = some v ∧ getD? kvs (.tup (k.map kD)) = some d ∧ Den K mg W v d) ∨ (valV vs k = none ∧ getD? kvs (.tup (k.map kD)) = none)
  | _, _, _, .nil => .inr ⟨rfl, rfl⟩
  | _, _, k, .cons (k := j) (v := v) (d := d) (vs := vs) (ds := ds) a b => by
    by_cases h : j = k
    · refine .inl ⟨v, d, valV_pos h, ?_, a⟩
      unfold getD?
      rw [List.find?_cons_of_pos (by show eqDs (j.map kD) (k.map kD) = true; rw [eqDs_kD, decide_eq_true h])]
      rfl
    · have e1 : valV ((j, v) :: vs) k = valV vs k := valV_neg h
      have e2 : getD? ((.tup (j.map kD), d) :: ds) (.tup (k.map kD)) = getD? ds (.tup (k.map kD)) := by
        unfold getD?
        rw [List.find?_cons_of_neg (by show ¬ eqDs (j.map kD) (k.map kD) = true; rw [eqDs_kD, decide_eq_false h]; decide)]
      rw [e1, e2]
      exact denT_get k b
/-- what a dict holds at a key -/
theorem dic_get (ok : W.Ok H) {x y : V} {t : Bool} {kvs : List (D × D)} {k : D} (hd : BDen K mg W H x (.dic t kvs)) (hk : BDen K mg W H y k) (f : keyFits t k = true) :
    ∃ a, x = .ref a ∧ ((∃ v d, DGet H a y (some v) ∧ getD? kvs k = some d ∧ Den K mg W v d) ∨ (DGet H a y none ∧ getD? kvs k = none)) := by
  cases t with
  | false =>
    obtain ⟨a, vs, rfl, ha, ta⟩ := bd_dK ok hd
    obtain ⟨κ, rfl⟩ := isKey_kD f
    cases den_kD hk
    refine ⟨a, rfl, ?_⟩
    rcases denK_get κ ta with ⟨v, d, h1, h2, h3⟩ | ⟨h1, h2⟩
    · exact .inl ⟨v, d, by rw [← h1]; exact .k ha, h2, h3⟩
    · exact .inr ⟨by rw [← h1]; exact .k ha, h2⟩
  | true =>
    obtain ⟨a, vs, rfl, ha, ta⟩ := bd_dT ok hd
    obtain ⟨κ, rfl⟩ := isKeyT_kD f
    obtain ⟨b, ws, rfl, hb, _, tb⟩ := bd_tup ok hk
    cases den_kDs H tb
    refine ⟨a, rfl, ?_⟩
    rcases denT_get κ ta with ⟨v, d, h1, h2, h3⟩ | ⟨h1, h2⟩
    · exact .inl ⟨v, d, by rw [← h1]; exact .t ha hb, h2, h3⟩
    · exact .inr ⟨by rw [← h1]; exact .t ha hb, h2⟩
end
section
variable {X : Cx}
theorem pl_lst {xs : List D} (h : pl (.lst xs) = true) : ∃ ps, D.pys xs = some ps ∧ SeqAt.shaped (.list ps) = true := by
  obtain ⟨p, e, s⟩ := pl_some h
  rw [D.py] at e
  cases z : D.pys xs with
  | none => rw [z] at e; cases e
  | some ps => rw [z] at e; cases e; exact ⟨ps, rfl, s⟩
theorem pl_tup {xs : List D} (h : pl (.tup xs) = true) : ∃ ps, D.pys xs = some ps ∧ SeqAt.shaped (.tuple ps) = true := by
  obtain ⟨p, e, s⟩ := pl_some h
  rw [D.py] at e
  cases z : D.pys xs with
  | none => rw [z] at e; cases e
  | some ps => rw [z] at e; cases e; exact ⟨ps, rfl, s⟩
theorem any_py {x : D} {p : PyData} (e : x.py = some p) : ∀ {xs : List D} {ps : List PyData}, D.pys xs = some ps → (ps.any fun z => PyData.eqv z p) = xs.any fun z => eqD z x
  | [], _, h => by rw [D.pys] at h; cases h; rfl
  | y :: r, _, h => by
    obtain ⟨q, t, h1, h2, rfl⟩ := pys_cons h
    rw [List.any_cons, List.any_cons, eqv_py y x q p h1 e, any_py e h2]
theorem py_lst {xs : List D} {ps : List PyData} (h : D.pys xs = some ps) : (D.lst xs).py = some (.list ps) := by rw [D.py, h]; rfl
theorem py_tup {xs : List D} {ps : List PyData} (h : D.pys xs = some ps) : (D.tup xs).py = some (.tuple ps) := by rw [D.py, h]; rfl
theorem o_in (hu : Rm X) : OpR X (compareOp .In) (R2D X inW) := by
  intro pins s σ H x y v u Q I rx ry ⟨W, d, e, Qp, ok, hd, he, h, q⟩
  have hu' : X.A.units + 66 < cLine := hu
  unfold inW at h
  split at h
  · obtain ⟨⟨h1, h2⟩, h3⟩ := h
    obtain ⟨p, ep, sp⟩ := pl_some h1
    obtain ⟨ps, eps, sps⟩ := pl_lst h2
    refine op_inD (by omega) pins s σ H _ _ v u Q I rx ry ⟨p, ps, hd.dp ok ep, he.dp ok (py_lst eps), sp, sps, q _ _ (.now ok (.bl _) ?_)⟩
    rw [any_py ep eps]
    exact h3
  · obtain ⟨⟨h1, h2⟩, h3⟩ := h
    obtain ⟨p, ep, sp⟩ := pl_some h1
    obtain ⟨ps, eps, sps⟩ := pl_tup h2
    obtain ⟨as, r1⟩ := hd.reads I ok rx ep
    obtain ⟨bs, r2⟩ := he.reads I ok ry (py_tup eps)
    refine SeqAt.in_tuple_reads r2 r1 (SeqAt.canLay_of_shaped sps) (SeqAt.canLay_of_shaped sp) (room_in_shaped sp (by omega)) ⟨.bl _, H, I, rfl, q _ _ (.now ok (.bl _) ?_)⟩
    rw [any_py ep eps]
    exact h3
  · obtain ⟨h1, h2⟩ := h
    obtain ⟨a, rfl, g⟩ := dic_get ok he hd h1
    cases (show u = Value.ref a from ry)
    rcases g with ⟨v', d', g, e1, _⟩ | ⟨g, e1⟩
    · exact d_in (by omega) I g rx fun s3 I3 => ⟨.bl true, H, I3, rfl, q _ _ (.now ok (.bl _) (by rw [e1] at h2; exact h2))⟩
    · exact d_in (by omega) I g rx fun s3 I3 => ⟨.bl false, H, I3, rfl, q _ _ (.now ok (.bl _) (by rw [e1] at h2; exact h2))⟩
  · exact h.elim
theorem o_notin (hu : Rm X) : OpR X (compareOp .NotIn) (R2D X notinW) := by
  intro pins s σ H x y v u Q I rx ry ⟨W, d, e, Qp, ok, hd, he, h, q⟩
  have hu' : X.A.units + 66 < cLine := hu
  unfold notinW at h
  split at h
  · obtain ⟨⟨h1, h2⟩, h3⟩ := h
    obtain ⟨p, ep, sp⟩ := pl_some h1
    obtain ⟨ps, eps, sps⟩ := pl_lst h2
    refine op_notInD (by omega) pins s σ H _ _ v u Q I rx ry ⟨p, ps, hd.dp ok ep, he.dp ok (py_lst eps), sp, sps, q _ _ (.now ok (.bl _) ?_)⟩
    rw [any_py ep eps]
    exact h3
  · obtain ⟨⟨h1, h2⟩, h3⟩ := h
    obtain ⟨p, ep, sp⟩ := pl_some h1
    obtain ⟨ps, eps, sps⟩ := pl_tup h2
    obtain ⟨as, r1⟩ := hd.reads I ok rx ep
    obtain ⟨bs, r2⟩ := he.reads I ok ry (py_tup eps)
    refine SeqAt.notIn_tuple_reads r2 r1 (SeqAt.canLay_of_shaped sps) (SeqAt.canLay_of_shaped sp) (room_in_shaped sp (by omega)) ⟨.bl _, H, I, rfl, q _ _ (.now ok (.bl _) ?_)⟩
    rw [any_py ep eps]
    exact h3
  · obtain ⟨h1, h2⟩ := h
    obtain ⟨a, rfl, g⟩ := dic_get ok he hd h1
    cases (show u = Value.ref a from ry)
    rcases g with ⟨v', d', g, e1, _⟩ | ⟨g, e1⟩
    · exact d_notIn (by omega) I g rx fun s3 I3 => ⟨.bl false, H, I3, rfl, q _ _ (.now ok (.bl _) (by rw [e1] at h2; exact h2))⟩
    · exact d_notIn (by omega) I g rx fun s3 I3 => ⟨.bl true, H, I3, rfl, q _ _ (.now ok (.bl _) (by rw [e1] at h2; exact h2))⟩
  · exact h.elim

/-- an item at an index -/
theorem atI_den {K : PySem.W.Frag} {mg : Str → Option Value} {W : Wd} {vs : List V} {ds : List D} {i : Int} {d : D} (h : DenAll K mg W vs ds) (e : atI ds i = some d) : ∃ v, atI vs i = some v ∧ Den K mg W v d := by
  unfold atI at e ⊢
  rw [h.length]
  cases z : ixN ds.length i with
  | none => rw [z] at e; cases e
  | some j =>
    rw [z] at e
    exact h.get (i := j) e
theorem optW_some {o : Option D} {Q : QS} (h : optW o Q) : ∃ d, o = some d ∧ Q (.val d) := by
  unfold optW at h
  split at h
  · exact ⟨_, rfl, h⟩
  · exact h.elim
theorem i_idx (hu : Rm X) : IxR X (R2D X idxW) := by
  intro value slice pins s σ H x y v u Q I rx ry ⟨W, d, e, Qp, ok, hd, he, h, q⟩ hs
  unfold idxW at h
  split at h
  · cases bd_int he
    obtain ⟨a, vs, rfl, ha, ta⟩ := bd_lst ok hd
    obtain ⟨d', e1, h⟩ := optW_some h
    obtain ⟨v', e2, t⟩ := atI_den ta e1
    exact ix_list value slice pins s σ H _ _ v u Q I rx ry ⟨a, vs, _, v', rfl, rfl, .of ha, e2, q _ _ (.now ok t h)⟩ hs
  · cases bd_int he
    obtain ⟨a, vs, rfl, ha, _, ta⟩ := bd_tup ok hd
    obtain ⟨d', e1, h⟩ := optW_some h
    obtain ⟨v', e2, t⟩ := atI_den ta e1
    exact ix_tup value slice pins s σ H _ _ v u Q I rx ry ⟨a, vs, _, v', rfl, rfl, .of ha, e2, q _ _ (.now ok t h)⟩ hs
  · obtain ⟨h1, h⟩ := h
    obtain ⟨d', e1, h⟩ := optW_some h
    obtain ⟨a, rfl, g⟩ := dic_get ok hd he h1
    cases (show v = Value.ref a from rx)
    rcases g with ⟨v', d2, g, e2, t⟩ | ⟨g, e2⟩
    · rw [e1] at e2; cases e2
      have hT := dict_typeIs I g
      unfold subscriptTail
      refine wpAny_bind ?_
      rw [getitemInPython_of_ne hT.not_modules]
      refine wpAny_bind (wpAny_specialOf hT PySem.F.slot_dict_getitem.lookup ?_)
      have fin : wpAny (model X.prog X.w) X.A (subscripted slice false (.ref a) u) (fun r s₃ => wpAny (model X.prog X.w) X.A (letTemporaryGo value (.ref a) r >>= fun _ => pure r) (EP X pins σ Q) X.xe s₃) X.xe s := by
        rw [hs]
        exact wpAny_operating (wpAny_mono (d_getItem (by have : X.A.units + 66 < cLine := hu; omega) I g ry fun w' s3 I3 rw' => (⟨v', H, I3, rw', q _ _ (.now ok t h)⟩ : EP X pins σ Q w' s3)) (fun r s₃ h₃ => wpAny_bind (wpAny_letTemporaryGo (wpAny_pure h₃))) fun _ _ x => x)
      first
        | exact wpAny_pure (wpAny_bind fin)
        | exact wpAny_bind (wpAny_pure (wpAny_bind fin))
        | exact wpAny_bind fin
    · rw [e1] at e2; cases e2
  · cases bd_str hd; cases bd_int he
    obtain ⟨h1, h⟩ := h
    split at h
    · exact ix_str value slice pins s σ H _ _ v u Q I rx ry ⟨_, _, _, rfl, rfl, by rw [lim_eq]; exact h1, by assumption, q _ _ (.now ok (.str _) h)⟩ hs
    · exact h.elim
  · exact h.elim
theorem cut_den {K : PySem.W.Frag} {mg : Str → Option Value} {W : Wd} {vs : List V} {ds : List D} {lo hi : Option Int} (h : DenAll K mg W vs ds) : DenAll K mg W (cutV vs lo hi) (cutD ds lo hi) := by
  unfold cutV cutD
  rw [h.length]
  exact (h.drop _).take _
theorem s_cut : SlR X (RsD X) := by
  intro pins s σ H x v vl vu lo hi sl Q I rx hs pl' pu ⟨W, d, Qp, ok, hd, h, q⟩
  unfold sliceW at h
  split at h
  · obtain ⟨a, vs, rfl, ha, ta⟩ := bd_lst ok hd
    exact sl_list pins s σ H _ v vl vu lo hi sl Q I rx hs pl' pu ⟨a, vs, rfl, .of ha, fun p np => q _ _ (.newL ok np (cut_den ta) h)⟩
  · obtain ⟨a, vs, rfl, ha, hden, ta⟩ := bd_tup ok hd
    refine sl_tupA pins s σ H _ v vl vu lo hi sl Q I rx hs pl' pu ⟨a, vs, rfl, .of ha, fun z => ?_, fun _ p np => q _ _ (.newT ok np (cut_den ta) h)⟩
    rename_i xs
    have e : cutD xs lo hi = xs := by
      unfold cutD
      rw [← ta.length, z.1, z.2, List.drop_zero, Nat.sub_zero, ta.length, List.take_length]
    rw [e] at h
    exact q _ _ (.now ok hden h)
  · obtain ⟨a, rfl, ha⟩ := bd_scr ok hd
    exact sl_list pins s σ H _ v vl vu lo hi sl Q I rx hs pl' pu ⟨a, _, rfl, ha, fun p np => q _ _ (.newL ok np (cut_den (DenAll.ints _)) h)⟩
  · exact h.elim
theorem u_neg : UnR X (unaryOp .USub) (R1D X negW) := by
  intro pins s σ H x v Q I rx ⟨W, d, Qp, ok, hd, h, q⟩
  unfold negW at h
  split at h
  · cases bd_int hd
    exact un_neg pins s σ H _ v Q I rx ⟨_, rfl, q _ _ (.now ok (.int _) h)⟩
  · exact h.elim
end
section
variable {X : Cx}
theorem DenK.length {K : PySem.W.Frag} {mg : Str → Option Value} {W : Wd} : ∀ {vs : List (Key × V)} {ks : List (D × D)}, DenK K mg W vs ks → vs.length = ks.length
  | _, _, .nil => rfl
  | _, _, .cons _ b => by rw [List.length_cons, List.length_cons, DenK.length b]
theorem hits_den {pins : List (Addr × Obj)} {s : Shared} {σ : L2.St} {H : Hp} {W : Wd} (I : Inv X pins σ H s) (ok : W.Ok H) (hu : Rm X) {us : List (Key × V)} {ls : List (D × D)} {vb : List (Key × Value)} (dl : DenK X.K X.mg W us ls) (rb : KV us vb) (pL : ∀ p ∈ ls, pl p.2 = true) :
    ∀ {vs : List (Key × V)} {ks : List (D × D)} {va : List (Key × Value)}, DenK X.K X.mg W vs ks → KV vs va → (∀ p ∈ ks, pl p.2 = true) → PySem.W.KeqHits X.A.in1 s vb va (hitsK ks ls)
  | _, _, _, .nil, ra, _ => by
    cases ra
    exact .nil
  | _, _, _, .cons (k := κ) (v := v) (d := d) (ds := ds) a b, ra, pK => by
    cases ra with
    | cons h t =>
      rename_i q qs
      obtain ⟨q1, q2⟩ := q
      obtain ⟨h1, h2⟩ := h
      have h1 : κ = q1 := h1
      subst h1
      have ih := hits_den I ok hu dl rb pL b t fun p hp => pK p (List.mem_cons_of_mem _ hp)
      rw [hitsK]
      rcases denK_get κ dl with ⟨v', d', e1, e2, e3⟩ | ⟨e1, e2⟩
      · rw [e2]
        have rr := rb.val κ
        rw [e1] at rr
        obtain ⟨y, hy, ry⟩ := rr.some_of
        obtain ⟨p, ep, sp⟩ := pl_some (pK _ List.mem_cons_self)
        have hd' : pl d' = true := by
          unfold getD? at e2
          cases hf : ls.find? fun p => eqD p.1 (kD κ) with
          | none => rw [hf] at e2; cases e2
          | some z =>
            rw [hf] at e2
            cases e2
            exact pL z (List.mem_of_find?_eq_some hf)
        obtain ⟨r, er, sr⟩ := pl_some hd'
        obtain ⟨as, r1⟩ := BDen.reads I ok (.of a) h2 ep
        obtain ⟨bs, r2⟩ := BDen.reads I ok (.of e3) ry er
        have := PySem.W.keq_at (A := X.A) r1 r2 sp sr (by have : X.A.units + 66 < cLine := hu; show X.A.units + 1 + 64 < cLine; omega)
        rw [eqv_py d d' p r ep er] at this
        exact .hit hy this ih
      · rw [e2]
        refine .miss ?_
        have rr := rb.val κ
        rw [e1] at rr
        exact RelO.none_of rr
theorem o_eq (hu : Rm X) : OpR X (compareOp .Eq) (R2D X eqW) := by
  intro pins s σ H x y v u Q I rx ry ⟨W, d, e, Qp, ok, hd, he, h, q⟩
  rcases h with ⟨⟨h1, h2⟩, h3⟩ | ⟨ks, ls, rfl, rfl, pK, pL, h3⟩
  · obtain ⟨p, ep, sp⟩ := pl_some h1
    obtain ⟨r, er, sr⟩ := pl_some h2
    refine op_eqD (by have : X.A.units + 66 < cLine := hu; omega) pins s σ H _ _ v u Q I rx ry ⟨p, r, hd.dp ok ep, he.dp ok er, sp, sr, q _ _ (.now ok (.bl _) ?_)⟩
    rw [eqv_py d e p r ep er]
    exact h3
  · obtain ⟨a, vs, rfl, ha, ta⟩ := bd_dK ok hd
    obtain ⟨b, us, rfl, hb, tb⟩ := bd_dK ok he
    obtain rfl : v = Value.ref a := rx
    obtain rfl : u = Value.ref b := ry
    obtain ⟨_, ya, va, ra, da⟩ := (show ObjOk X.prog X.w H s.heap a (.dK vs) from I.hok a _ ha)
    obtain ⟨_, yb, vb, rb, db⟩ := (show ObjOk X.prog X.w H s.heap b (.dK us) from I.hok b _ hb)
    have l1 : va.length = ks.length := by rw [← ra.length, ta.length]
    have l2 : vb.length = ls.length := by rw [← rb.length, tb.length]
    exact PySem.W.keq_eq (knd := mixKind X.prog X.w) ya yb da db (by have : X.A.units + 66 < cLine := hu; omega) (fun _ => hits_den I ok hu tb rb pL ta ra pK) ⟨.bl _, H, I, rfl, q _ _ (.now ok (.bl _) (by rw [l1, l2]; exact h3))⟩
theorem o_ne (hu : Rm X) : OpR X (compareOp .NotEq) (R2D X neW) := by
  intro pins s σ H x y v u Q I rx ry ⟨W, d, e, Qp, ok, hd, he, h, q⟩
  rcases h with ⟨⟨h1, h2⟩, h3⟩ | ⟨ks, ls, rfl, rfl, pK, pL, h3⟩
  · obtain ⟨p, ep, sp⟩ := pl_some h1
    obtain ⟨r, er, sr⟩ := pl_some h2
    refine op_neD (by have : X.A.units + 66 < cLine := hu; omega) pins s σ H _ _ v u Q I rx ry ⟨p, r, hd.dp ok ep, he.dp ok er, sp, sr, q _ _ (.now ok (.bl _) ?_)⟩
    rw [eqv_py d e p r ep er]
    exact h3
  · obtain ⟨a, vs, rfl, ha, ta⟩ := bd_dK ok hd
    obtain ⟨b, us, rfl, hb, tb⟩ := bd_dK ok he
    obtain rfl : v = Value.ref a := rx
    obtain rfl : u = Value.ref b := ry
    obtain ⟨_, ya, va, ra, da⟩ := (show ObjOk X.prog X.w H s.heap a (.dK vs) from I.hok a _ ha)
    obtain ⟨_, yb, vb, rb, db⟩ := (show ObjOk X.prog X.w H s.heap b (.dK us) from I.hok b _ hb)
    have l1 : va.length = ks.length := by rw [← ra.length, ta.length]
    have l2 : vb.length = ls.length := by rw [← rb.length, tb.length]
    exact PySem.W.keq_ne (knd := mixKind X.prog X.w) ya yb da db (by have : X.A.units + 66 < cLine := hu; omega) (fun _ => hits_den I ok hu tb rb pL ta ra pK) ⟨.bl _, H, I, rfl, q _ _ (.now ok (.bl _) (by rw [l1, l2]; exact h3))⟩
end
end PL

namespace PL
open PySem PySem.Spec PyProof.Rows L2

/-! ## built-in functions on data -/
def lenW : List D → QS → Prop
  | [.lst xs], Q => Q (.val (.int xs.length))
  | [.tup xs], Q => Q (.val (.int xs.length))
  | [.scr xs], Q => Q (.val (.int xs.length))
  | [.dic _ kvs], Q => Q (.val (.int kvs.length))
  | [.str x], Q => x.length ≤ LIM ∧ Q (.val (.int x.length))
  | _, _ => False
def absW : List D → QS → Prop
  | [.int i], Q => Q (.val (.int (if i < 0 then -i else i)))
  | _, _ => False
def intW : List D → QS → Prop
  | [.int i], Q => Q (.val (.int i))
  | [.bl b], Q => Q (.val (.int (if b then 1 else 0)))
  | _, _ => False
def maxW : List D → QS → Prop
  | [.int i, .int j], Q => Q (.val (.int (if j > i then j else i)))
  | [.lst xs], Q => ∃ ns : List Int, xs = ns.map D.int ∧ 0 < ns.length ∧ ∀ m, m ∈ ns → (∀ y, y ∈ ns → y ≤ m) → Q (.val (.int m))
  | [.tup xs], Q => ∃ (n : Int) (ns : List Int), xs = (n :: ns).map D.int ∧ Q (.val (.int (ns.foldl max n)))
  | _, _ => False
def minW : List D → QS → Prop
  | [.int i, .int j], Q => Q (.val (.int (if j < i then j else i)))
  | [.lst xs], Q => ∃ ns : List Int, xs = ns.map D.int ∧ 0 < ns.length ∧ ∀ m, m ∈ ns → (∀ y, y ∈ ns → m ≤ y) → Q (.val (.int m))
  | _, _ => False
def sumW : List D → QS → Prop
  | [.lst xs], Q => ∃ ns : List Int, xs = ns.map D.int ∧ Q (.val (.int ns.sum))
  | _, _ => False
def allW : List D → QS → Prop
  | [.lst xs], Q => ∃ bs : List Bool, xs = bs.map D.bl ∧ Q (.val (.bl (bs.all id)))
  | _, _ => False
def anyW : List D → QS → Prop
  | [.lst xs], Q => ∃ bs : List Bool, xs = bs.map D.bl ∧ Q (.val (.bl (bs.any id)))
  | _, _ => False
def listW : List D → QS → Prop
  | [.lst xs], Q => Q (.own xs)
  | [.tup xs], Q => Q (.own xs)
  | _, _ => False
def tupleW : List D → QS → Prop
  | [.lst xs], Q => Q (.val (.tup xs))
  | [.tup xs], Q => Q (.val (.tup xs))
  | _, _ => False
/-- the name of a thing's type -/
def tyN : D → String
  | .non => "NoneType"
  | .bl _ => "bool"
  | .int _ => "int"
  | .str _ => "str"
  | .lst _ => "list"
  | .tup _ => "tuple"
  | .dic _ _ => "dict"
  | _ => ""
def isPlainTy : D → Bool
  | .scr _ => false
  | .obj _ _ => false
  | .g _ _ => false
  | _ => true
def isiW (T : String) : List D → QS → Prop
  | [x], Q => isPlainTy x = true ∧ Q (.val (.bl (tyN x == T || (tyN x == "bool" && T == "int"))))
  | _, _ => False
section
variable {K : PySem.W.Frag} {mg : Str → Option Value} {W : Wd} {H : Hp}
theorem ball1 {vs : List V} {d : D} (h : BAll K mg W H vs [d]) : ∃ v, vs = [v] ∧ BDen K mg W H v d := by
  cases h with
  | cons a b => cases b; exact ⟨_, rfl, a⟩
theorem ball2 {vs : List V} {d e : D} (h : BAll K mg W H vs [d, e]) : ∃ v u, vs = [v, u] ∧ BDen K mg W H v d ∧ BDen K mg W H u e := by
  cases h with
  | cons a b => cases b with | cons c r => cases r; exact ⟨_, _, rfl, a, c⟩
theorem denK_len : ∀ {vs : List (Key × V)} {kvs : List (D × D)}, DenK K mg W vs kvs → vs.length = kvs.length
  | _, _, .nil => rfl
  | _, _, .cons _ b => congrArg Nat.succ (denK_len b)
theorem denT_len : ∀ {vs : List (List Key × V)} {kvs : List (D × D)}, DenT K mg W vs kvs → vs.length = kvs.length
  | _, _, .nil => rfl
  | _, _, .cons _ b => congrArg Nat.succ (denT_len b)
end
section
variable {X : Cx}
theorem c_len : CallR X (.builtin "len") (RnD X lenW) := by
  intro pins s σ H xs us Q I r ⟨W, ds, Qp, ok, hd, h, q⟩
  unfold lenW at h
  split at h
  · obtain ⟨v, rfl, hv⟩ := ball1 hd
    obtain ⟨a, vs, rfl, ha, ta⟩ := bd_lst ok hv
    exact call_len_seq pins s σ H _ us Q I r ⟨a, vs, rfl, .inl (.of ha), by rw [ta.length]; exact q _ _ (.now ok (.int _) h)⟩
  · obtain ⟨v, rfl, hv⟩ := ball1 hd
    obtain ⟨a, vs, rfl, ha, _, ta⟩ := bd_tup ok hv
    exact call_len_seq pins s σ H _ us Q I r ⟨a, vs, rfl, .inr (.of ha), by rw [ta.length]; exact q _ _ (.now ok (.int _) h)⟩
  · obtain ⟨v, rfl, hv⟩ := ball1 hd
    obtain ⟨a, rfl, ha⟩ := bd_scr ok hv
    exact call_len_seq pins s σ H _ us Q I r ⟨a, _, rfl, .inl ha, by rw [List.length_map]; exact q _ _ (.now ok (.int _) h)⟩
  · obtain ⟨v, rfl, hv⟩ := ball1 hd
    rename_i t kvs
    cases t with
    | false =>
      obtain ⟨a, vs, rfl, ha, ta⟩ := bd_dK ok hv
      obtain ⟨u, rfl, ru⟩ := vals1 r
      obtain rfl : u = .ref a := ru
      exact d_len I (.inl ha) fun t s' I' => ⟨.int kvs.length, H, I', ⟨t, by rw [denK_len ta]⟩, q _ _ (.now ok (.int _) h)⟩
    | true =>
      obtain ⟨a, vs, rfl, ha, ta⟩ := bd_dT ok hv
      exact call_len_dT pins s σ H _ us Q I r ⟨a, vs, rfl, ha, by rw [denT_len ta]; exact q _ _ (.now ok (.int _) h)⟩
  · obtain ⟨v, rfl, hv⟩ := ball1 hd
    cases bd_str hv
    exact call_len_str pins s σ H _ us Q I r ⟨_, rfl, by rw [lim_eq]; exact h.1, q _ _ (.now ok (.int _) h.2)⟩
  · exact h.elim
theorem c_abs : CallR X (.builtin "abs") (RnD X absW) := by
  intro pins s σ H xs us Q I r ⟨W, ds, Qp, ok, hd, h, q⟩
  unfold absW at h
  split at h
  · obtain ⟨v, rfl, hv⟩ := ball1 hd
    cases bd_int hv
    exact call_abs pins s σ H _ us Q I r ⟨_, rfl, q _ _ (.now ok (.int _) h)⟩
  · exact h.elim
def strW : List D → QS → Prop
  | [.int i], Q => i.natAbs.log2 < 1920 ∧ Q (.val (.str (Str.ofString (toString i))))
  | _, _ => False
theorem c_str : CallR X (.type "str") (RnD X strW) := by
  intro pins s σ H xs us Q I r ⟨W, ds, Qp, ok, hd, h, q⟩
  unfold strW at h
  split at h
  · obtain ⟨v, rfl, hv⟩ := ball1 hd
    cases bd_int hv
    exact call_str_int pins s σ H _ us Q I r ⟨_, rfl, h.1, q _ _ (.now ok (.str _) h.2)⟩
  · exact h.elim
theorem c_int : CallR X (.type "int") (RnD X intW) := by
  intro pins s σ H xs us Q I r ⟨W, ds, Qp, ok, hd, h, q⟩
  unfold intW at h
  split at h
  · obtain ⟨v, rfl, hv⟩ := ball1 hd
    cases bd_int hv
    exact call_int1 pins s σ H _ us Q I r (.inl ⟨_, rfl, q _ _ (.now ok (.int _) h)⟩)
  · obtain ⟨v, rfl, hv⟩ := ball1 hd
    cases bd_bl hv
    exact call_int1 pins s σ H _ us Q I r (.inr ⟨_, rfl, q _ _ (.now ok (.int _) h)⟩)
  · exact h.elim
theorem pys_ints : ∀ ns : List Int, D.pys (ns.map D.int) = some (ns.map PyData.int)
  | [] => rfl
  | n :: r => by rw [List.map_cons, D.pys, D.py, pys_ints r]; rfl
theorem alike_int (i j : Int) : PySem.W.alike (.int i) (.int j) = true := by simp [PySem.W.alike]
theorem c_max (hc : X.calm = true) (hu : Rm X) : CallR X (.builtin "max") (RnD X maxW) := by
  intro pins s σ H xs us Q I r ⟨W, ds, Qp, ok, hd, h, q⟩
  have hu' : X.A.units + 66 < cLine := hu
  unfold maxW at h
  split at h
  · obtain ⟨v, u, rfl, hv, hu⟩ := ball2 hd
    cases bd_int hv; cases bd_int hu
    exact call_max2 hc pins s σ H _ us Q I r ⟨_, _, rfl, q _ _ (.now ok (.int _) h)⟩
  · obtain ⟨v, rfl, hv⟩ := ball1 hd
    obtain ⟨ns, rfl, h0, h1⟩ := h
    obtain ⟨a, vs, rfl, ha, ta⟩ := bd_lst ok hv
    cases den_int ta
    exact cr_max hc pins s σ H _ us Q I r ⟨a, ns, rfl, .of ha, h0, fun m hm hy => q _ _ (.now ok (.int _) (h1 m hm hy))⟩
  · obtain ⟨v, rfl, hv⟩ := ball1 hd
    obtain ⟨n, ns, rfl, h1⟩ := h
    obtain ⟨a, vs, rfl, ha, _, ta⟩ := bd_tup ok hv
    cases den_int ta
    obtain ⟨u, rfl, ru⟩ := vals1 r
    obtain rfl : u = .ref a := ru
    obtain ⟨its, rv, ⟨o, ho, hoc, n', hod⟩, hz⟩ := I.tuple (.of ha)
    have dp : DpAll X.K H ((n :: ns).map V.int) ((n :: ns).map PyData.int) := DenAll.dp (W := W) ok.sub (DenAll.ints (mg := X.mg) (n :: ns)) (pys_ints _)
    obtain ⟨as, hr⟩ := Dp.readsAll I _ _ its dp rv
    refine PySem.W.max_tuple_data (vs := its.toArray) (x := .int n) (xs := ns.map PyData.int) (as := as) (I.ok.hd hc) ⟨o, ho, hoc, n', hod⟩ (by simpa using hr) ⟨fun x hx y hy => ?_, fun x hx => ?_⟩ ?_ fun i v h' tk bs hi hrd hk => ?_
    · obtain ⟨p, _, rfl⟩ := List.mem_map.mp (show x ∈ (n :: ns).map PyData.int from hx)
      obtain ⟨p', _, rfl⟩ := List.mem_map.mp (show y ∈ (n :: ns).map PyData.int from hy)
      exact alike_int _ _
    · obtain ⟨p, _, rfl⟩ := List.mem_map.mp (show x ∈ (n :: ns).map PyData.int from hx)
      intro z; cases z
    · have e : PyData.depthAll (PyData.int n :: ns.map PyData.int) = 0 := PySem.W.depth_ints (n :: ns)
      rw [e]
      omega
    · rw [PySem.W.maxD_ints] at hrd
      cases hrd with
      | int _ t => exact ⟨.int _, H, I.kept (t' := tk) hk, ⟨t, rfl⟩, q _ _ (.now ok (.int _) h1)⟩
  · exact h.elim
theorem c_min (hc : X.calm = true) : CallR X (.builtin "min") (RnD X minW) := by
  intro pins s σ H xs us Q I r ⟨W, ds, Qp, ok, hd, h, q⟩
  unfold minW at h
  split at h
  · obtain ⟨v, u, rfl, hv, hu⟩ := ball2 hd
    cases bd_int hv; cases bd_int hu
    exact call_min2 hc pins s σ H _ us Q I r ⟨_, _, rfl, q _ _ (.now ok (.int _) h)⟩
  · obtain ⟨v, rfl, hv⟩ := ball1 hd
    obtain ⟨ns, rfl, h0, h1⟩ := h
    obtain ⟨a, vs, rfl, ha, ta⟩ := bd_lst ok hv
    cases den_int ta
    exact cr_min hc pins s σ H _ us Q I r ⟨a, ns, rfl, .of ha, h0, fun m hm hy => q _ _ (.now ok (.int _) (h1 m hm hy))⟩
  · exact h.elim
theorem c_sum (hc : X.calm = true) : CallR X (.builtin "sum") (RnD X sumW) := by
  intro pins s σ H xs us Q I r ⟨W, ds, Qp, ok, hd, h, q⟩
  unfold sumW at h
  split at h
  · obtain ⟨v, rfl, hv⟩ := ball1 hd
    obtain ⟨ns, rfl, h1⟩ := h
    obtain ⟨a, vs, rfl, ha, ta⟩ := bd_lst ok hv
    cases den_int ta
    exact cr_sum hc pins s σ H _ us Q I r ⟨a, ns, rfl, .of ha, q _ _ (.now ok (.int _) h1)⟩
  · exact h.elim
theorem c_all (hc : X.calm = true) : CallR X (.builtin "all") (RnD X allW) := by
  intro pins s σ H xs us Q I r ⟨W, ds, Qp, ok, hd, h, q⟩
  unfold allW at h
  split at h
  · obtain ⟨v, rfl, hv⟩ := ball1 hd
    obtain ⟨ns, rfl, h1⟩ := h
    obtain ⟨a, vs, rfl, ha, ta⟩ := bd_lst ok hv
    cases den_bl ta
    exact cr_all hc pins s σ H _ us Q I r ⟨a, ns, rfl, .of ha, q _ _ (.now ok (.bl _) h1)⟩
  · exact h.elim
theorem c_any (hc : X.calm = true) : CallR X (.builtin "any") (RnD X anyW) := by
  intro pins s σ H xs us Q I r ⟨W, ds, Qp, ok, hd, h, q⟩
  unfold anyW at h
  split at h
  · obtain ⟨v, rfl, hv⟩ := ball1 hd
    obtain ⟨ns, rfl, h1⟩ := h
    obtain ⟨a, vs, rfl, ha, ta⟩ := bd_lst ok hv
    cases den_bl ta
    exact cr_any hc pins s σ H _ us Q I r ⟨a, ns, rfl, .of ha, q _ _ (.now ok (.bl _) h1)⟩
  · exact h.elim
theorem c_list : CallR X (.type "list") (RnD X listW) := by
  intro pins s σ H xs us Q I r ⟨W, ds, Qp, ok, hd, h, q⟩
  unfold listW at h
  split at h
  · obtain ⟨v, rfl, hv⟩ := ball1 hd
    obtain ⟨a, vs, rfl, ha, ta⟩ := bd_lst ok hv
    exact call_list_of pins s σ H _ us Q I r ⟨a, vs, rfl, .inl (.of ha), fun l nl => q _ _ (.newL ok nl ta h)⟩
  · obtain ⟨v, rfl, hv⟩ := ball1 hd
    obtain ⟨a, vs, rfl, ha, _, ta⟩ := bd_tup ok hv
    exact call_list_of pins s σ H _ us Q I r ⟨a, vs, rfl, .inr (.of ha), fun l nl => q _ _ (.newL ok nl ta h)⟩
  · exact h.elim
theorem c_tuple : CallR X (.type "tuple") (RnD X tupleW) := by
  intro pins s σ H xs us Q I r ⟨W, ds, Qp, ok, hd, h, q⟩
  unfold tupleW at h
  split at h
  · obtain ⟨v, rfl, hv⟩ := ball1 hd
    obtain ⟨a, vs, rfl, ha, ta⟩ := bd_lst ok hv
    exact call_tuple_of pins s σ H _ us Q I r ⟨a, vs, rfl, .inl ⟨.of ha, fun l nl => q _ _ (.newT ok nl ta h)⟩⟩
  · obtain ⟨v, rfl, hv⟩ := ball1 hd
    obtain ⟨a, vs, rfl, ha, hden, ta⟩ := bd_tup ok hv
    exact call_tuple_of pins s σ H _ us Q I r ⟨a, vs, rfl, .inr ⟨.of ha, q _ _ (.now ok hden h)⟩⟩
  · exact h.elim
theorem tyX_of {W : Wd} {H : Hp} {v : V} {d : D} (ok : W.Ok H) (h : BDen X.K X.mg W H v d) (p : isPlainTy d = true) : TyX X.K H v (.type (tyN d)) := by
  obtain ⟨s, h, rfl⟩ := h
  cases s with
  | val d =>
    cases h with
    | non => exact .base .non
    | bl b => exact .base (.bl b)
    | int b => exact .base (.int b)
    | str b => exact .base (.str b)
    | lst e t => exact .base (.lst (ok.sub _ _ e))
    | tup e t => exact .base (.tup (ok.sub _ _ e))
    | dic e t => exact .base (.dK (ok.sub _ _ e))
    | dit e t => exact .base (.dT (ok.sub _ _ e))
    | scr _ => cases p
    | obj _ _ _ => cases p
    | g _ _ => cases p
  | own xs => obtain ⟨o, vs, rfl, e, _⟩ := h; exact .base (.lst e)
  | ownd t kvs => cases t <;> (obtain ⟨o, vs, rfl, e, _⟩ := h; first | exact .base (.dK e) | exact .base (.dT e))
def tys : List String := ["NoneType", "bool", "int", "str", "list", "tuple", "dict"]
theorem kit_all : (tys.all fun a => tys.all fun b => decide (kitB a b = some (a == b || (a == "bool" && b == "int")))) = true := by decide +kernel
theorem tyN_mem {d : D} (p : isPlainTy d = true) : tyN d ∈ tys := by
  cases d <;> first | cases p; done | (show _ ∈ ["NoneType", "bool", "int", "str", "list", "tuple", "dict"]; simp [tyN])
theorem c_isi (T : String) (hT : T ∈ tys) : CallR X (.builtin "isinstance") (fun xs H Q => ∃ x, xs = [x, .ty T] ∧ RnD X (isiW T) [x] H Q) := by
  intro pins s σ H xs us Q I r ⟨x, e, W, ds, Qp, ok, hd, h, q⟩
  subst e
  unfold isiW at h
  split at h
  · obtain ⟨v, e, hv⟩ := ball1 hd
    cases e
    obtain ⟨h1, h2⟩ := h
    have k := List.all_eq_true.mp (List.all_eq_true.mp kit_all _ (tyN_mem h1)) T hT
    exact call_isi pins s σ H _ us Q I r ⟨x, .ty T, _, _, _, rfl, .ty T, tyX_of ok hv h1, kit_ty (of_decide_eq_true k), q _ _ (.now ok (.bl _) h2)⟩
  · exact h.elim
end
/-! ## len(set(xs)): numbers, each once -/
section
variable {X : Cx}
/-- the list's numbers, no two alike, less than 4000 of them -/
def tLset (K : PySem.W.Frag) (te : TE) : TE := fun σ H Post => te σ H fun v H2 => ∃ (b : Addr) (is : List Int), v = .ref b ∧ SqL K H2 b (is.map V.int) ∧ (is.length < 4000 ∧ is.Nodup) ∧ Post (.int (is.length : Nat)) H2
theorem pe_lset {e : Expr} {te : TE} {q1 q2 q3 q4 : Pos} (cm : X.calm = true) (gl : Gl X "len") (ml : X.mg "len" = none) (gs : Gl X "set") (ms : X.mg "set" = none) (pe : PE X e te) (ns : starEach [e] X.env = [(false, eval e X.env)]) :
    PE X (.Call (.Name "len" q1) [.Call (.Name "set" q2) [e] [] q3] [] q4) (tLset X.K te) := by
  refine ⟨fun pins s σ H Post inv hw => ?_⟩
  refine Call_ (ld_blt inv gl ml PySem.boot_len (PyProof.Rows.callWith_builtin1 (PyProof.Rows.args_cons ?_ rfl) rfl rfl))
  refine Call_ (ld_blt inv gs ms PyProof.Rows.boot_set (PyProof.Rows.callWith_type1 (PyProof.Rows.args_cons (thn (pe.run pins s σ H _ inv hw) fun u t hh => ?_) ns) ns rfl))
  obtain ⟨v, H2, inv2, rv, b, is, rfl, sq, ⟨small, nd⟩, post⟩ := hh
  cases rv
  refine PyProof.Rows.args_nil ?_
  obtain ⟨vals, rel, isl, _⟩ := inv2.list sq
  have len1 : vals.toArray.size = is.length := by
    have := rel.length
    rw [List.length_map] at this
    rw [List.size_toArray, this]
  refine call_set_list (inv2.ok.hd cm) isl.isList (ns := is) (by simpa using rel.ints) (by rw [len1]; show is.length + 1 < 4096; omega) fun hp2 tk2 isset keep => ?_
  rw [len1, firstMet_nodup is nd is.length (Nat.le_refl _), List.take_length] at isset
  refine PyProof.Rows.args_nil ?_
  obtain ⟨ob, ents, epo, tk3, o1, o2, o3, _, _, _, o4, o5⟩ := isset
  have inv3 : Inv X pins σ H2 { t with heap := hp2, toks := tk2 } := inv2.kept fun c ob' at' => keep c ob' (Heap.lt_size at') at'
  exact call_len_set o1 o2 o3 o4 (by rw [o5]; have := sizeLine_eq; omega) ⟨.int is.length, H2, inv3.tok _, ⟨_, by rw [o5]⟩, post⟩
/-- sorted(set(x)): the numbers of a tuple, fewer than 64 -/
def tSset (K : PySem.W.Frag) (te : TE) : TE := fun σ H Post => te σ H fun v H2 => ∃ (b : Addr) (is : List Int), v = .ref b ∧ SqT K H2 b (is.map V.int) ∧ is.length < 64 ∧ ∀ (p : Addr) (ns : List Int), H2 p = none → ns.Pairwise (· < ·) → (∀ k, k ∈ ns ↔ k ∈ is) → Post (.ref p) (upd H2 p (.lst (ns.map V.int)))
theorem pe_sset {e : Expr} {te : TE} {q1 q2 q3 q4 : Pos} (cm : X.calm = true) (gl : Gl X "sorted") (ml : X.mg "sorted" = none) (gs : Gl X "set") (ms : X.mg "set" = none) (pe : PE X e te) (ns : starEach [e] X.env = [(false, eval e X.env)]) :
    PE X (.Call (.Name "sorted" q1) [.Call (.Name "set" q2) [e] [] q3] [] q4) (tSset X.K te) := by
  refine ⟨fun pins s σ H Post inv hw => ?_⟩
  refine Call_ (ld_blt inv gl ml (by decide +kernel : bootBuiltins "sorted" = some (.builtin "sorted")) (PyProof.Rows.callWith_builtin1 (PyProof.Rows.args_cons ?_ rfl) rfl rfl))
  refine Call_ (ld_blt inv gs ms PyProof.Rows.boot_set (PyProof.Rows.callWith_type1 (PyProof.Rows.args_cons (thn (pe.run pins s σ H _ inv hw) fun u t hh => ?_) ns) ns rfl))
  obtain ⟨v, H2, inv2, rv, b, is, rfl, sq, small, post⟩ := hh
  cases rv
  refine PyProof.Rows.args_nil ?_
  obtain ⟨its, rel, isT, _⟩ := inv2.tuple sq
  refine call_set_tupI is (inv2.ok.hd cm) isT (by simpa using rel.ints) (by show is.length + 1 < 4096; omega) fun h' tk c R hc keep => ?_
  refine PyProof.Rows.args_nil ?_
  have I : Inv X pins σ H2 { t with heap := h', toks := tk } := inv2.kept fun cc ob' at' => keep cc ob' at'
  refine sorted_set R (I.ok.hd cm) (by omega) fun s' p out c' ns k g o hp hg hi hs hm hl => ?_
  have hlen : (ns.map V.int).length ≤ sizeLine := by rw [List.length_map, hl, sizeLine_eq]; omega
  have hn : H2 p = none := I.hok.fresh hp
  have J : Inv X pins σ (upd H2 p (.lst (ns.map V.int))) { ({ t with heap := h', toks := tk } : Shared) with heap := s'.heap, gens := s'.gens, drawn := s'.drawn, toks := s'.toks } :=
    I.call (ch := []) (Un.laid k hp hn) (I.hok.laid k hp ⟨hlen, out.toList, c', vals_of_ints hi, hg⟩) (by rw [g]; exact I.bare) (fun _ z => nomatch z)
  have e : s' = { ({ t with heap := h', toks := tk } : Shared) with heap := s'.heap, gens := s'.gens, drawn := s'.drawn, toks := s'.toks } := by
    cases s'
    cases t
    cases o
    rfl
  rw [e]
  exact ⟨.ref p, _, J, rfl, post p ns hn hs (fun kk => by rw [hm kk]; exact decide_eq_true_iff)⟩
end
end PL

namespace PL
open PySem PySem.Spec PyProof.Rows L2
/-! ## sorted -/
def pyD (d : D) : PyData := d.py.getD .none
def leD (a b : D) : Bool := !PySem.W.dataLt (pyD b) (pyD a)
/-- alike data, to be sorted -/
def sortOk (xs : List D) : Prop := (∀ x ∈ xs, x.py.isSome = true ∧ (pyD x).depth ≤ 60) ∧ PySem.W.AllAlike (xs.map pyD) ∧ PySem.W.Sortable (xs.map pyD)
def sortedW : List D → QS → Prop
  | [.lst xs], Q => sortOk xs ∧ ∀ ys, ys.Perm xs → ys.Pairwise (fun a b => leD a b = true) → Q (.own ys)
  | _, _ => False
section
variable {X : Cx}
theorem each_zip : ∀ {vs : List V} {its : List Value} {xs : List D}, Vals vs its → vs.length = xs.length → PySem.W.EachIs (fun v (b : V × D) => RelV b.1 v) its (vs.zip xs)
  | _, _, [], r, h => by
    cases r with
    | nil => exact .nil
    | cons _ _ => cases h
  | _, _, x :: xs, r, h => by
    cases r with
    | nil => cases h
    | cons a b => exact .cons a (each_zip b (by simpa using h))
theorem den_zip {K : PySem.W.Frag} {mg : Str → Option Value} {W : Wd} : ∀ {vs : List V} {xs : List D}, DenAll K mg W vs xs → ∀ b ∈ vs.zip xs, Den K mg W b.1 b.2
  | _, _, .nil, _, h => by cases h
  | _, _, .cons a t, b, h => by
    rw [List.zip_cons_cons] at h
    rcases List.mem_cons.mp h with rfl | h
    · exact a
    · exact den_zip t b h
theorem den_unzip {K : PySem.W.Frag} {mg : Str → Option Value} {W : Wd} : ∀ {bs : List (V × D)}, (∀ b ∈ bs, Den K mg W b.1 b.2) → DenAll K mg W (bs.map (·.1)) (bs.map (·.2))
  | [], _ => .nil
  | b :: bs, h => .cons (h b List.mem_cons_self) (den_unzip fun c hc => h c (List.mem_cons_of_mem _ hc))
theorem vals_each : ∀ {out : List Value} {bs : List (V × D)}, PySem.W.EachIs (fun v (b : V × D) => RelV b.1 v) out bs → Vals (bs.map (·.1)) out
  | _, _, .nil => .nil
  | _, _, .cons a b => .cons a (vals_each b)
theorem each_mono {α β : Type} {R S : α → β → Prop} : ∀ {as : List α} {bs : List β}, PySem.W.EachIs R as bs → (∀ a, ∀ b ∈ bs, R a b → S a b) → PySem.W.EachIs S as bs
  | _, _, .nil, _ => .nil
  | _, _, .cons a t, h => .cons (h _ _ List.mem_cons_self a) (each_mono t fun x b hb => h x b (List.mem_cons_of_mem _ hb))
theorem c_sorted (hu : Rm X) : CallR X (.builtin "sorted") (RnD X sortedW) := by
  intro pins s σ H xs us Q I r ⟨W, ds, Qp, ok, hd, h, q⟩
  unfold sortedW at h
  split at h
  · obtain ⟨v, rfl, hv⟩ := ball1 hd
    rename_i xs
    obtain ⟨⟨h1, h2, h3⟩, h4⟩ := h
    obtain ⟨a, vs, rfl, ha, ta⟩ := bd_lst ok hv
    obtain ⟨its, rv, hl, hz⟩ := I.list (.of ha)
    rw [Vals.ref1 r]
    have hlen : vs.length = xs.length := ta.length
    have ez := each_zip rv hlen
    have e2 : ((vs.zip xs).map fun b => pyD b.2) = xs.map pyD := by
      have : ((vs.zip xs).map fun b => pyD b.2) = ((vs.zip xs).map (·.2)).map pyD := by rw [List.map_map]; rfl
      rw [this, List.map_snd_zip (by omega)]
    have hden := den_zip ta
    have mem2 : ∀ b ∈ vs.zip xs, b.2 ∈ xs := fun b hb => (List.of_mem_zip hb).2
    have hR : X.A.units + 66 < cLine := hu
    refine PySem.W.sorted_data (vs := its) (bs := vs.zip xs) (enc := fun b => pyD b.2) hl.isList ez (each_mono ez fun u b hb rb => ?_) (by rw [e2]; exact h2) (by rw [e2]; exact h3) (by rw [List.length_zip, hlen]; rw [← hlen]; omega) (fun b hb => by have := (h1 b.2 (mem2 b hb)).2; show X.A.units + 2 + (pyD b.2).depth < cLine; omega) fun out hol ho => ?_
    · have hs := (h1 b.2 (mem2 b hb)).1
      obtain ⟨p, ep⟩ := Option.isSome_iff_exists.mp hs
      have : pyD b.2 = p := by unfold pyD; rw [ep]; rfl
      rw [this]
      exact BDen.reads I ok (.of (hden b hb)) rb ep
    obtain ⟨ep, he'⟩ := PyProof.Rows.sortedAll_at s.heap its out.toArray
    have pm := List.mergeSort_perm (vs.zip xs) (PySem.W.dataLe false fun b : V × D => pyD b.2)
    have pw := PySem.W.sort_pairwise (PySem.W.sortLe_total (listOrd itemOrd) false fun b : V × D => PySem.W.keyToks (pyD b.2)) (vs.zip xs)
    generalize hbs : (vs.zip xs).mergeSort (PySem.W.dataLe false fun b : V × D => pyD b.2) = bs at ho pm
    have hpw : bs.Pairwise fun a b => leD a.2 b.2 = true := by
      rw [← hbs]
      exact pw
    have hlen2 : (bs.map (·.1)).length ≤ sizeLine := by
      rw [List.length_map, pm.length_eq, List.length_zip, hlen, ← hlen]
      omega
    refine ⟨.ref _, upd H (s.heap.objs.size + 1) (.lst (bs.map (·.1))), I.laid (t' := s.toks) (fun _ _ => PyProof.Rows.sortedAll_old) (Nat.le_succ _) ⟨hlen2, out, ep, vals_each ho, he'⟩, rfl, q _ _ (.newL ok (I.hok.fresh (Nat.le_succ _)) (den_unzip fun b hb => hden b (pm.mem_iff.mp hb)) (h4 _ ?_ ?_))⟩
    · have := pm.map (·.2)
      rw [List.map_snd_zip (by omega)] at this
      exact this
    · rw [List.pairwise_map]
      exact hpw
  · exact h.elim
end
/-! ## max, min with a default -/
inductive Bk where
  | minD | maxD
  deriving DecidableEq
def Bk.nm : Bk → Str
  | .minD => "min"
  | .maxD => "max"
def Bk.kw : Bk → Str
  | .minD => "default"
  | .maxD => "default"
def mdW (f : Int → Int → Int) (x d : D) (Q : QS) : Prop := match x, d with
  | .lst xs, .non => ∃ ns : List Int, xs = ns.map D.int ∧ (ns = [] → Q (.val .non)) ∧ ∀ n r, ns = n :: r → Q (.val (.int (r.foldl f n)))
  | .lst xs, .int i => ∃ ns : List Int, xs = ns.map D.int ∧ (ns = [] → Q (.val (.int i))) ∧ ∀ n r, ns = n :: r → Q (.val (.int (r.foldl f n)))
  | _, _ => False
def bkW : Bk → D → D → QS → Prop
  | .minD => mdW min
  | .maxD => mdW max
section
variable {X : Cx}
def RkD (X : Cx) (fw : D → D → QS → Prop) : List V → List V → Hp → VK → Prop := fun xs zs H Q => ∃ (W : Wd) (x d : D) (Qp : QS), W.Ok H ∧ BAll X.K X.mg W H xs [x] ∧ BAll X.K X.mg W H zs [d] ∧ fw x d Qp ∧ ∀ v H', Out X.K X.mg W H Qp v H' → Q v H'
theorem mdW_cut {f : Int → Int → Int} {x d : D} {Q : QS} (h : mdW f x d Q) : ∃ ns : List Int, x = .lst (ns.map D.int) ∧ (d = .non ∨ ∃ i, d = .int i) ∧ (ns = [] → Q (.val d)) ∧ ∀ n r, ns = n :: r → Q (.val (.int (r.foldl f n))) := by
  unfold mdW at h
  split at h
  · obtain ⟨ns, rfl, h1, h2⟩ := h
    exact ⟨ns, rfl, .inl rfl, h1, h2⟩
  · obtain ⟨ns, rfl, h1, h2⟩ := h
    exact ⟨ns, rfl, .inr ⟨_, rfl⟩, h1, h2⟩
  · exact h.elim
theorem alike_il (ns : List Int) : PySem.W.AlikeAll (ns.map PyData.int) := ⟨fun x hx y hy => by
  obtain ⟨p, _, rfl⟩ := List.mem_map.mp hx
  obtain ⟨p', _, rfl⟩ := List.mem_map.mp hy
  exact alike_int _ _, fun x hx => by
  obtain ⟨p, _, rfl⟩ := List.mem_map.mp hx
  intro z; cases z⟩
theorem scal_back {W : Wd} {H : Hp} {v : V} {d : D} (h : BDen X.K X.mg W H v d) (hs : d = .non ∨ ∃ i, d = .int i) : Den X.K X.mg W v d := by
  rcases hs with rfl | ⟨i, rfl⟩
  · exact bd_val h (fun _ z => nomatch z) fun _ _ z => nomatch z
  · exact bd_val h (fun _ z => nomatch z) fun _ _ z => nomatch z
theorem c_minD (hc : X.calm = true) (hu : Rm X) : CallRK X (.builtin "min") [Str.ofString "default"] (RkD X (mdW min)) := by
  intro pins s σ H xs zs us ws Q I r rz ⟨W, x, d, Qp, ok, hx, hd, h, q⟩
  obtain ⟨ns, rfl, hs, h0, h1⟩ := mdW_cut h
  obtain ⟨v, rfl, hv⟩ := ball1 hx
  obtain ⟨z, rfl, hz⟩ := ball1 hd
  obtain ⟨a, vs, rfl, ha, ta⟩ := bd_lst ok hv
  cases den_int ta
  rw [Vals.ref1 r]
  obtain ⟨w1, rfl, e1⟩ := vals1 rz
  obtain ⟨its, rv, hl, _⟩ := I.list (.of ha)
  have dp : DpAll X.K H (ns.map V.int) (ns.map PyData.int) := DenAll.dp (W := W) ok.sub (DenAll.ints (mg := X.mg) ns) (pys_ints _)
  obtain ⟨as, hr⟩ := Dp.readsAll I _ _ its dp rv
  have hR : X.A.units + 66 < cLine := hu
  have e0 : PyData.depthAll (ns.map PyData.int) = 0 := PySem.W.depth_ints ns
  refine PySem.W.min_list_default (vs := its.toArray) (xs := ns.map PyData.int) (as := as) (I.ok.hd hc) hl.isList (by simpa using hr) (alike_il ns) (by rw [e0]; omega) (fun e h' tk hk => ?_) fun y ys i v h' tk bs e hi hrd hk => ?_
  · exact ⟨z, H, I.kept (t' := tk) hk, e1, q _ _ (.now ok (scal_back hz hs) (h0 (List.map_eq_nil_iff.mp e)))⟩
  · cases ns with
    | nil => cases e
    | cons n r =>
      rw [List.map_cons] at e
      cases e
      rw [PySem.W.minD_ints] at hrd
      cases hrd with
      | int _ t => exact ⟨.int _, H, I.kept (t' := tk) hk, ⟨t, rfl⟩, q _ _ (.now ok (.int _) (h1 n r rfl))⟩
theorem c_maxD (hc : X.calm = true) (hu : Rm X) : CallRK X (.builtin "max") [Str.ofString "default"] (RkD X (mdW max)) := by
  intro pins s σ H xs zs us ws Q I r rz ⟨W, x, d, Qp, ok, hx, hd, h, q⟩
  obtain ⟨ns, rfl, hs, h0, h1⟩ := mdW_cut h
  obtain ⟨v, rfl, hv⟩ := ball1 hx
  obtain ⟨z, rfl, hz⟩ := ball1 hd
  obtain ⟨a, vs, rfl, ha, ta⟩ := bd_lst ok hv
  cases den_int ta
  rw [Vals.ref1 r]
  obtain ⟨w1, rfl, e1⟩ := vals1 rz
  obtain ⟨its, rv, hl, _⟩ := I.list (.of ha)
  have dp : DpAll X.K H (ns.map V.int) (ns.map PyData.int) := DenAll.dp (W := W) ok.sub (DenAll.ints (mg := X.mg) ns) (pys_ints _)
  obtain ⟨as, hr⟩ := Dp.readsAll I _ _ its dp rv
  have hR : X.A.units + 66 < cLine := hu
  have e0 : PyData.depthAll (ns.map PyData.int) = 0 := PySem.W.depth_ints ns
  refine PySem.W.max_list_default (vs := its.toArray) (xs := ns.map PyData.int) (as := as) (I.ok.hd hc) hl.isList (by simpa using hr) (alike_il ns) (by rw [e0]; omega) (fun e h' tk hk => ?_) fun y ys i v h' tk bs e hi hrd hk => ?_
  · exact ⟨z, H, I.kept (t' := tk) hk, e1, q _ _ (.now ok (scal_back hz hs) (h0 (List.map_eq_nil_iff.mp e)))⟩
  · cases ns with
    | nil => cases e
    | cons n r =>
      rw [List.map_cons] at e
      cases e
      rw [PySem.W.maxD_ints] at hrd
      cases hrd with
      | int _ t => exact ⟨.int _, H, I.kept (t' := tk) hk, ⟨t, rfl⟩, q _ _ (.now ok (.int _) (h1 n r rfl))⟩
end
/-! ## methods of lists and dicts that change nothing -/
inductive Mt where
  | get | index | count
  deriving DecidableEq
def Mt.nm : Mt → Str
  | .get => "get"
  | .index => "index"
  | .count => "count"
def Mt.ty : Mt → String
  | .get => "dict"
  | _ => "list"
def Mt.id : Mt → String
  | .get => "dict.get"
  | .index => "list.index"
  | .count => "list.count"
def mtTy : Mt → D → Bool
  | .get, .dic _ _ => true
  | .index, .lst _ => true
  | .count, .lst _ => true
  | _, _ => false
def getW : D → List D → QS → Prop
  | .dic t kvs, [k], Q => keyFits t k = true ∧ Q (.val ((getD? kvs k).getD .non))
  | .dic t kvs, [k, x], Q => keyFits t k = true ∧ Q (.val ((getD? kvs k).getD x))
  | _, _, _ => False
def indexW : D → List D → QS → Prop
  | .lst xs, [y], Q => (pl (.lst xs) = true ∧ pl y = true) ∧ ∃ (j : Nat) (z : D), xs[j]? = some z ∧ eqD z y = true ∧ (∀ m w, m < j → xs[m]? = some w → eqD w y = false) ∧ Q (.val (.int (j : Nat)))
  | _, _, _ => False
def countW : D → List D → QS → Prop
  | .lst xs, [.int i], Q => ∃ ns : List Int, xs = ns.map D.int ∧ Q (.val (.int (ns.count i : Nat)))
  | .lst xs, [y], Q => (pl (.lst xs) = true ∧ pl y = true) ∧ Q (.val (.int (xs.countP (fun z => eqD z y) : Nat)))
  | _, _, _ => False
def mtW : Mt → D → List D → QS → Prop
  | .get => getW
  | .index => indexW
  | .count => countW
section
variable {X : Cx}
def RmD (X : Cx) (fw : D → List D → QS → Prop) : V → List V → Hp → VK → Prop := fun x xs H Q => ∃ (W : Wd) (d : D) (ds : List D) (Qp : QS), W.Ok H ∧ BDen X.K X.mg W H x d ∧ DenAll X.K X.mg W xs ds ∧ fw d ds Qp ∧ ∀ v H', Out X.K X.mg W H Qp v H' → Q v H'
theorem pys_get : ∀ {xs : List D} {ps : List PyData} {j : Nat}, D.pys xs = some ps → (∀ z, xs[j]? = some z → ∃ p, z.py = some p ∧ ps[j]? = some p) ∧ ∀ p, ps[j]? = some p → ∃ z, xs[j]? = some z ∧ z.py = some p
  | [], _, j, h => by rw [D.pys] at h; cases h; exact ⟨fun z e => (by simp at e), fun z e => (by simp at e)⟩
  | x :: xs, _, j, h => by
    obtain ⟨q, t, h1, h2, rfl⟩ := pys_cons h
    cases j with
    | zero => exact ⟨fun z e => by cases e; exact ⟨q, h1, rfl⟩, fun p e => by cases e; exact ⟨x, rfl, h1⟩⟩
    | succ j =>
      have := pys_get (j := j) h2
      simpa using this
theorem mt_get (hu : Rm X) : MtR X "dict.get" (RmD X getW) := by
  intro pins s σ H x xs v us Q I rx rxs ⟨W, d, ds, Qp, ok, hd, ta, h, q⟩
  have hu1 : X.A.units + 1 < cLine := by have : X.A.units + 66 < cLine := hu; omega
  unfold getW at h
  split at h
  · obtain ⟨f, h⟩ := h
    cases ta with
    | cons k1 t =>
      cases t
      obtain ⟨a, rfl, hg⟩ := dic_get ok hd (.of k1) f
      obtain ⟨u, rfl, ru⟩ := vals1 rxs
      obtain rfl : v = Value.ref a := rx
      rcases hg with ⟨w, d', g, e, dn⟩ | ⟨g, e⟩
      · rw [e] at h
        exact d_get1 hu1 I g ru fun w' s3 I3 rw' => ⟨w, H, I3, rw', q _ _ (.now ok dn h)⟩
      · rw [e] at h
        exact d_get1 hu1 I g ru fun w' s3 I3 rw' => ⟨.non, H, I3, rw', q _ _ (.now ok .non h)⟩
  · obtain ⟨f, h⟩ := h
    cases ta with
    | cons k1 t =>
      cases t with
      | cons k2 t =>
        cases t
        obtain ⟨a, rfl, hg⟩ := dic_get ok hd (.of k1) f
        obtain ⟨u, u2, rfl, ru, ru2⟩ := vals2 rxs
        obtain rfl : v = Value.ref a := rx
        rcases hg with ⟨w, d', g, e, dn⟩ | ⟨g, e⟩
        · rw [e] at h
          exact d_get2 hu1 I g ru ru2 fun w' s3 I3 rw' => ⟨w, H, I3, rw', q _ _ (.now ok dn h)⟩
        · rw [e] at h
          exact d_get2 hu1 I g ru ru2 fun w' s3 I3 rw' => ⟨_, H, I3, rw', q _ _ (.now ok k2 h)⟩
  · exact h.elim
theorem mt_indexP (hu : Rm X) : MtR X "list.index" (RmD X indexW) := by
  intro pins s σ H x xs v us Q I rx rxs ⟨W, d, ds, Qp, ok, hd, ta, h, q⟩
  have hR : X.A.units + 66 < cLine := hu
  unfold indexW at h
  split at h
  · obtain ⟨⟨h1, h2⟩, j, z, hj, hz, hno, h⟩ := h
    cases ta with
    | cons k1 t =>
      cases t
      obtain ⟨ps, e1, s1⟩ := pl_lst h1
      obtain ⟨p, e2, s2⟩ := pl_some h2
      obtain ⟨pz, ez, hpz⟩ := (pys_get e1).1 z hj
      obtain ⟨a, vs, rfl, ha, tt⟩ := bd_lst ok hd
      refine mt_indexD (by omega) pins s σ H _ _ v us Q I rx rxs ⟨a, _, p, ps, j, pz, rfl, rfl, hd.dp ok (py_lst e1), (BDen.of k1).dp ok e2, s1, s2, hpz, ?_, fun m z' hm e => ?_, q _ _ (.now ok (.int _) h)⟩
      · rw [eqv_py z _ pz p ez e2]
        exact hz
      · obtain ⟨w, ew, epw⟩ := (pys_get e1).2 z' e
        rw [eqv_py w _ z' p epw e2]
        exact hno m w hm ew
  · exact h.elim
theorem countP_py {y : D} {p : PyData} (hy : y.py = some p) : ∀ (xs : List D) (ps : List PyData), D.pys xs = some ps → ps.countP (fun z => PyData.eqv z p) = xs.countP fun z => eqD z y
  | [], _, h => by rw [D.pys] at h; cases h; rfl
  | x :: xs, _, h => by
    obtain ⟨q, t, h1, h2, rfl⟩ := pys_cons h
    rw [List.countP_cons, List.countP_cons, countP_py hy xs t h2, eqv_py x y q p h1 hy]
theorem mt_countP (hu : Rm X) : MtR X "list.count" (RmD X countW) := by
  intro pins s σ H x xs v us Q I rx rxs ⟨W, d, ds, Qp, ok, hd, ta, h, q⟩
  unfold countW at h
  split at h
  · obtain ⟨ns, rfl, h⟩ := h
    cases ta with
    | cons k1 t =>
      cases t
      obtain ⟨a, vs, rfl, ha, tt⟩ := bd_lst ok hd
      cases den_int tt
      cases bd_int (H := H) (.of k1)
      exact mt_lcount pins s σ H _ _ v us Q I rx rxs ⟨a, ns, _, rfl, rfl, .of ha, q _ _ (.now ok (.int _) h)⟩
  · obtain ⟨⟨h1, h2⟩, h⟩ := h
    cases ta with
    | cons k1 t =>
      cases t
      obtain ⟨ps, e1, s1⟩ := pl_lst h1
      obtain ⟨p, e2, s2⟩ := pl_some h2
      obtain ⟨a, vs, rfl, ha, tt⟩ := bd_lst ok hd
      obtain ⟨u, rfl, ru⟩ := vals1 rxs
      obtain rfl : v = Value.ref a := rx
      obtain ⟨its, rv, hl, _⟩ := I.list (.of ha)
      obtain ⟨as, hr⟩ := Dp.readsAll I _ _ its (DenAll.dp ok.sub tt e1) rv
      obtain ⟨bs, r1⟩ := Dp.reads I p _ u ((BDen.of k1).dp ok e2) ru
      have hR : X.A.units + 66 < cLine := hu
      refine SeqAt.count_list_data (vs := its.toArray) hl.isList (by simpa using hr) r1 (PyData.plainAll_of_canLay0 _ (SeqAt.canLay_of_shaped s1)) (PyData.plain_of_canLay0 _ (SeqAt.canLay_of_shaped s2)) (room_in_shaped s2 (by omega)) ?_
      refine ⟨.int _, H, I.tok _, ⟨_, rfl⟩, ?_⟩
      rw [countP_py e2 _ _ e1]
      exact q _ _ (.now ok (.int _) h)
  · exact h.elim
theorem mt_ok (hu : Rm X) (m : Mt) : MtR X m.id (RmD X (mtW m)) := match m with
  | .get => mt_get hu
  | .index => mt_indexP hu
  | .count => mt_countP hu
theorem mt_tyV {m : Mt} {W : Wd} {H : Hp} {x : V} {d : D} (ok : W.Ok H) (hd : BDen X.K X.mg W H x d) (h : mtTy m d = true) : tyV X.K m.ty x H := by
  cases m <;> cases d <;> first | (cases h; done) | skip
  · rename_i t kvs
    cases t with
    | false =>
      obtain ⟨o, vs, rfl, e, _⟩ := bd_dK ok hd
      exact .inr (.inr (.inl ⟨rfl, .inl ⟨_, e⟩⟩))
    | true =>
      obtain ⟨o, vs, rfl, e, _⟩ := bd_dT ok hd
      exact .inr (.inr (.inl ⟨rfl, .inr ⟨_, e⟩⟩))
  · obtain ⟨o, vs, rfl, e, _⟩ := bd_lst ok hd
    exact .inl ⟨rfl, _, .of e⟩
  · obtain ⟨o, vs, rfl, e, _⟩ := bd_lst ok hd
    exact .inl ⟨rfl, _, .of e⟩
end
/-! ## dicts: new ones, a value put -/
def putD (kvs : List (D × D)) (k v : D) : List (D × D) := if (kvs.any fun p => eqD p.1 k) = true then kvs.map (fun p => if eqD p.1 k = true then (p.1, v) else p) else kvs ++ [(k, v)]
section
variable {K : PySem.W.Frag} {mg : Str → Option Value} {W W' : Wd} {H H' : Hp} {v : V}
theorem Out.newK {Q : Sl → Prop} {p : Addr} {vs : List (Key × V)} {xs : List (D × D)} (ok : W.Ok H) (n : H p = none) (h : DenK K mg W vs xs) (q : Q (.ownd false xs)) : Out K mg W H Q (.ref p) (upd H p (.dK vs)) :=
  ⟨W, .ownd false xs, ok.new n, .new n, ⟨p, vs, rfl, upd_same, ok.free_new n, h⟩, (fun _ a e => by cases e; exact n), q⟩
theorem Out.newDT {Q : Sl → Prop} {p : Addr} {vs : List (List Key × V)} {xs : List (D × D)} (ok : W.Ok H) (n : H p = none) (h : DenT K mg W vs xs) (q : Q (.ownd true xs)) : Out K mg W H Q (.ref p) (upd H p (.dT vs)) :=
  ⟨W, .ownd true xs, ok.new n, .new n, ⟨p, vs, rfl, upd_same, ok.free_new n, h⟩, (fun _ a e => by cases e; exact n), q⟩
theorem any_kD (κ : Key) : ∀ {vs : List (Key × V)} {ks : List (D × D)}, DenK K mg W vs ks → (ks.any fun p => eqD p.1 (kD κ)) = vs.any fun kv => decide (kv.1 = κ)
  | _, _, .nil => rfl
  | _, _, .cons (k := j) a b => by rw [List.any_cons, List.any_cons, eqD_kD, any_kD κ b]
theorem any_kDs (κ : List Key) : ∀ {vs : List (List Key × V)} {ks : List (D × D)}, DenT K mg W vs ks → (ks.any fun p => eqD p.1 (.tup (κ.map kD))) = vs.any fun kv => decide (kv.1 = κ)
  | _, _, .nil => rfl
  | _, _, .cons (k := j) a b => by
    rw [List.any_cons, List.any_cons, any_kDs κ b]
    show (eqDs (j.map kD) (κ.map kD) || _) = _
    rw [eqDs_kD]
theorem DenK.snoc {κ : Key} {x : D} (hx : Den K mg W v x) : ∀ {vs : List (Key × V)} {ks : List (D × D)}, DenK K mg W vs ks → DenK K mg W (vs ++ [(κ, v)]) (ks ++ [(kD κ, x)])
  | _, _, .nil => .cons hx .nil
  | _, _, .cons a b => .cons a (DenK.snoc hx b)
theorem DenT.snoc {κ : List Key} {x : D} (hx : Den K mg W v x) : ∀ {vs : List (List Key × V)} {ks : List (D × D)}, DenT K mg W vs ks → DenT K mg W (vs ++ [(κ, v)]) (ks ++ [(.tup (κ.map kD), x)])
  | _, _, .nil => .cons hx .nil
  | _, _, .cons a b => .cons a (DenT.snoc hx b)
theorem DenK.repl {κ : Key} {x : D} (hx : Den K mg W v x) : ∀ {vs : List (Key × V)} {ks : List (D × D)}, DenK K mg W vs ks → DenK K mg W (vs.map fun kv => if kv.1 = κ then (kv.1, v) else kv) (ks.map fun p => if eqD p.1 (kD κ) = true then (p.1, x) else p)
  | _, _, .nil => .nil
  | _, _, .cons (k := j) (v := y) (d := d) a b => by
    rw [List.map_cons, List.map_cons]
    by_cases h : j = κ
    · rw [if_pos h, if_pos (by rw [eqD_kD]; exact decide_eq_true h)]
      exact .cons hx (DenK.repl hx b)
    · rw [if_neg h, if_neg (by rw [eqD_kD, decide_eq_false h]; decide)]
      exact .cons a (DenK.repl hx b)
theorem DenT.repl {κ : List Key} {x : D} (hx : Den K mg W v x) : ∀ {vs : List (List Key × V)} {ks : List (D × D)}, DenT K mg W vs ks → DenT K mg W (vs.map fun kv => if kv.1 = κ then (kv.1, v) else kv) (ks.map fun p => if eqD p.1 (.tup (κ.map kD)) = true then (p.1, x) else p)
  | _, _, .nil => .nil
  | _, _, .cons (k := j) (v := y) (d := d) a b => by
    have e : eqD (.tup (j.map kD)) (.tup (κ.map kD)) = decide (j = κ) := by
      show eqDs (j.map kD) (κ.map kD) = _
      rw [eqDs_kD]
    rw [List.map_cons, List.map_cons]
    by_cases h : j = κ
    · rw [if_pos h, if_pos (by rw [e]; exact decide_eq_true h)]
      exact .cons hx (DenT.repl hx b)
    · rw [if_neg h, if_neg (by rw [e, decide_eq_false h]; decide)]
      exact .cons a (DenT.repl hx b)
theorem DenK.put {κ : Key} {x : D} {vs : List (Key × V)} {ks : List (D × D)} (h : DenK K mg W vs ks) (hx : Den K mg W v x) : DenK K mg W (putK vs κ v) (putD ks (kD κ) x) := by
  unfold putK putD
  rw [any_kD κ h]
  split
  · exact h.repl hx
  · exact h.snoc hx
theorem DenT.put {κ : List Key} {x : D} {vs : List (List Key × V)} {ks : List (D × D)} (h : DenT K mg W vs ks) (hx : Den K mg W v x) : DenT K mg W (putK vs κ v) (putD ks (.tup (κ.map kD)) x) := by
  unfold putK putD
  rw [any_kDs κ h]
  split
  · exact h.repl hx
  · exact h.snoc hx
theorem DenT.length : ∀ {vs : List (List Key × V)} {ks : List (D × D)}, DenT K mg W vs ks → vs.length = ks.length
  | _, _, .nil => rfl
  | _, _, .cons _ b => by rw [List.length_cons, List.length_cons, DenT.length b]
end
theorem Wd.Ok.put {W : Wd} {H : Hp} (ok : W.Ok H) {a : Addr} {o : HO} (f : W.free a) : W.Ok (upd H a o) where
  sub := fun b x q => by
    have hb : b ≠ a := fun z => by rw [z, f.1] at q; cases q
    rw [upd_ne hb]
    exact ok.sub b x q
  inv := fun g hg => g.loc _ _ _ (fun b hb => upd_ne fun z => f.2 g hg (z ▸ hb)) (ok.inv g hg)
  dj := ok.dj
  pw := ok.pw
theorem Grow.put {W W' : Wd} {H H' : Hp} (g : Grow W H W' H') {a : Addr} {o : HO} (n : H a = none) : Grow W H W' (upd H' a o) where
  le := g.le
  same := fun b x e hg => by
    have hb : b ≠ a := fun z => by rw [z, n] at e; cases e
    rw [upd_ne hb]
    exact g.same b x e hg
  newf := g.newf
  newg := g.newg
end PL

namespace PL
open PySem PySem.Spec PyProof.Rows L2
/-! ## repr -/
theorem so_app {a b : Str} (ha : PyData.strOk a = true) (hb : PyData.strOk b = true) : PyData.strOk (a ++ b) = true := by
  unfold PyData.strOk at *
  show ((a.cps ++ b.cps).all _) = true
  rw [Array.all_append, ha, hb]
  rfl
theorem so_of (s : String) : PyData.strOk (Str.ofString s) = true := by
  rw [Str.ofString_eq_toList]
  unfold PyData.strOk
  simp only [List.all_toArray, List.all_eq_true, List.mem_map, decide_eq_true_eq]
  rintro n ⟨c, _, rfl⟩
  have h : (c.val.toNat < 0xd800) ∨ (0xdfff < c.val.toNat ∧ c.val.toNat < 0x110000) := c.valid
  show c.val.toNat < _
  omega
theorem so_from : ∀ (ts : List Str) (k : Nat) (acc : Str), PyData.strOk acc = true → (∀ t ∈ ts, PyData.strOk t = true) → PyData.strOk (textFrom k acc ts) = true
  | [], k, acc, h, _ => h
  | t :: r, k, acc, h, ht => so_from r (k + 1) _ (so_app (so_app h (by split <;> exact so_of _)) (ht t List.mem_cons_self)) fun x hx => ht x (List.mem_cons_of_mem _ hx)
theorem so_join : ∀ ts : List Str, (∀ t ∈ ts, PyData.strOk t = true) → PyData.strOk (Str.join ", " ts) = true
  | [], _ => by rw [Str.join]; decide +kernel
  | [x], h => h x List.mem_cons_self
  | x :: y :: r, h => so_app (so_app (h x List.mem_cons_self) (so_of _)) (so_join (y :: r) fun t ht => h t (List.mem_cons_of_mem _ ht))
theorem so_listText {ts : List Str} (h : ∀ t ∈ ts, PyData.strOk t = true) : PyData.strOk (listText ts) = true := so_app (so_from ts 0 _ (so_of _) h) (so_of _)
theorem so_tupleText {ts : List Str} (h : ∀ t ∈ ts, PyData.strOk t = true) : PyData.strOk (tupleText ts) = true := so_app (so_app (so_of _) (so_join ts h)) (by split <;> exact so_of _)
mutual
/-- data that repr can show: depth, length of the text -/
inductive RD : Nat → Nat → D → Prop
  | non {n : Nat} : RD n 8 .non
  | bl {n : Nat} (b : Bool) : RD n 8 (.bl b)
  | int {n : Nat} {i : Int} : i.natAbs < 2 ^ 1000 → RD n 1002 (.int i)
  | str {n : Nat} {x : Str} {m : Nat} : PyData.strOk x = true → PyData.strOk (reprText x) = true → (reprText x).length ≤ m → RD n m (.str x)
  | lst {n m : Nat} {xs : List D} : RDs n m xs → RD (n + 1) (m + 3) (.lst xs)
  | tup {n m : Nat} {xs : List D} : RDs n m xs → RD (n + 1) (m + 3) (.tup xs)
  | up {n m m' : Nat} {d : D} : RD n m d → m ≤ m' → RD n m' d
inductive RDs : Nat → Nat → List D → Prop
  | nil {n : Nat} : RDs n 0 []
  | cons {n a b : Nat} {x : D} {xs : List D} : RD n a x → RDs n b xs → RDs n (a + b + 2) (x :: xs)
end
theorem RDs.all {n a : Nat} : ∀ {xs : List D}, (∀ x ∈ xs, RD n a x) → RDs n (xs.length * (a + 2)) xs
  | [], _ => by rw [List.length_nil, Nat.zero_mul]; exact .nil
  | x :: xs, h => by
    have := RDs.cons (h x List.mem_cons_self) (RDs.all fun y hy => h y (List.mem_cons_of_mem _ hy))
    have e : (x :: xs).length * (a + 2) = a + xs.length * (a + 2) + 2 := by
      rw [List.length_cons, Nat.add_mul]
      omega
    rw [e]
    exact this
/-- what is known of such data -/
def RP (n m : Nat) (d : D) : Prop := ∃ p, d.py = some p ∧ PyData.canLay0 p = true ∧ PyData.depth p ≤ n ∧ PyData.showable p = true ∧ PyData.strOk p.shown = true ∧ p.shown.length ≤ m
def RPs (n m : Nat) (xs : List D) : Prop := ∃ ps, D.pys xs = some ps ∧ PyData.canLayAll0 ps = true ∧ PyData.depthAll ps ≤ n ∧ PyData.showableAll ps = true ∧ (∀ t ∈ PyData.shownAll ps, PyData.strOk t = true) ∧ ((PyData.shownAll ps).map (·.length)).sum + 2 * ps.length ≤ m
theorem shownAll_len : ∀ ps : List PyData, (PyData.shownAll ps).length = ps.length
  | [] => rfl
  | p :: ps => by rw [PyData.shownAll, List.length_cons, List.length_cons, shownAll_len ps]
theorem int_text {i : Int} (h : i.natAbs < 2 ^ 1000) : (Str.ofString (toString i)).length ≤ 1002 := by
  have key : ∀ n : Nat, n < 2 ^ 1000 → (Nat.repr n).length ≤ 1000 := fun n hn => nat_repr_length_le (by decide) hn
  rw [PySem.ofString_length]
  cases i with
  | ofNat n => exact Nat.le_trans (key n h) (by decide)
  | negSucc n =>
    have := key (n + 1) h
    show ("-" ++ Nat.repr (n + 1)).length ≤ 1002
    rw [String.length_append]
    show 1 + _ ≤ _
    omega
mutual
theorem RD.ok : ∀ {n m : Nat} {d : D}, RD n m d → RP n m d
  | _, _, _, .non => ⟨.none, by rw [D.py], by rw [PyData.canLay0], by rw [PyData.depth]; exact Nat.zero_le _, by rw [PyData.showable], by rw [PyData.shown]; exact so_of _, by rw [PyData.shown]; decide +kernel⟩
  | _, _, _, .bl b => ⟨.bool b, by rw [D.py], by rw [PyData.canLay0], by rw [PyData.depth]; exact Nat.zero_le _, by rw [PyData.showable], by rw [PyData.shown]; cases b <;> exact so_of _, by rw [PyData.shown]; cases b <;> decide +kernel⟩
  | _, _, _, .int (i := i) h => by
    refine ⟨.int i, by rw [D.py], by rw [PyData.canLay0], by rw [PyData.depth]; exact Nat.zero_le _, ?_, by rw [PyData.shown]; exact so_of _, by rw [PyData.shown]; exact int_text h⟩
    rw [PyData.showable]
    refine decide_eq_true ?_
    by_cases h0 : i.natAbs = 0
    · rw [h0]; decide
    · have := (Nat.log2_lt h0).mpr h
      omega
  | _, _, _, .str (x := x) h1 h2 h3 => ⟨.str x, by rw [D.py], by rw [PyData.canLay0]; exact h1, by rw [PyData.depth]; exact Nat.zero_le _, by rw [PyData.showable], by rw [PyData.shown]; exact h2, by rw [PyData.shown]; exact h3⟩
  | _, _, _, .lst h => by
    obtain ⟨ps, a1, a2, a3, a4, a5, a6⟩ := RDs.ok h
    refine ⟨.list ps, by rw [D.py, a1]; rfl, by rw [PyData.canLay0]; exact a2, by rw [PyData.depth]; omega, by rw [PyData.showable]; exact a4, by rw [PyData.shown]; exact so_listText a5, ?_⟩
    rw [PyData.shown]
    have := listText_len_le (PyData.shownAll ps)
    rw [shownAll_len] at this
    omega
  | _, _, _, .tup h => by
    obtain ⟨ps, a1, a2, a3, a4, a5, a6⟩ := RDs.ok h
    refine ⟨.tuple ps, by rw [D.py, a1]; rfl, by rw [PyData.canLay0]; exact a2, by rw [PyData.depth]; omega, by rw [PyData.showable]; exact a4, by rw [PyData.shown]; exact so_tupleText a5, ?_⟩
    rw [PyData.shown]
    have := tupleText_len_le (PyData.shownAll ps)
    rw [shownAll_len] at this
    omega
  | _, _, _, .up h hm => by
    obtain ⟨p, a1, a2, a3, a4, a5, a6⟩ := RD.ok h
    exact ⟨p, a1, a2, a3, a4, a5, Nat.le_trans a6 hm⟩
theorem RDs.ok : ∀ {n m : Nat} {xs : List D}, RDs n m xs → RPs n m xs
  | _, _, _, .nil => ⟨[], by rw [D.pys], by rw [PyData.canLayAll0], by rw [PyData.depthAll]; exact Nat.zero_le _, by rw [PyData.showableAll], (by rw [PyData.shownAll]; exact fun _ z => nomatch z), by rw [PyData.shownAll]; exact Nat.le_refl _⟩
  | _, _, _, .cons h t => by
    obtain ⟨p, a1, a2, a3, a4, a5, a6⟩ := RD.ok h
    obtain ⟨ps, b1, b2, b3, b4, b5, b6⟩ := RDs.ok t
    refine ⟨p :: ps, by rw [D.pys, a1, b1], by rw [PyData.canLayAll0, a2, b2]; rfl, by rw [PyData.depthAll]; omega, by rw [PyData.showableAll, a4, b4]; rfl, ?_, ?_⟩
    · rw [PyData.shownAll]
      intro t ht
      rcases List.mem_cons.mp ht with rfl | ht
      · exact a5
      · exact b5 t ht
    · rw [PyData.shownAll, List.map_cons, List.sum_cons, List.length_cons]
      omega
end
/-- the text of data -/
def reprD (d : D) : Str := (pyD d).shown
def reprW : List D → QS → Prop
  | [.lst xs], Q => (pl (.lst xs) = true ∧ (pyD (.lst xs)).showable = true ∧ (reprD (.lst xs)).length ≤ LIM) ∧ Q (.val (.str (reprD (.lst xs))))
  | [.tup xs], Q => (pl (.tup xs) = true ∧ (pyD (.tup xs)).showable = true ∧ (reprD (.tup xs)).length ≤ LIM) ∧ Q (.val (.str (reprD (.tup xs))))
  | _, _ => False
theorem RD.pl {n m : Nat} {d : D} (h : RD n m d) (hn : n ≤ 64 := by decide) : pl d = true := by
  obtain ⟨p, a1, a2, a3, _⟩ := h.ok
  unfold PL.pl
  rw [a1]
  unfold SeqAt.shaped
  rw [Bool.and_eq_true]
  exact ⟨a2, decide_eq_true (by omega)⟩
theorem RD.so {n m : Nat} {d : D} (h : RD n m d) : PyData.strOk (reprD d) = true := by
  obtain ⟨p, a1, a2, a3, a4, a5, a6⟩ := h.ok
  unfold reprD pyD
  rw [a1]
  exact a5
theorem reprW_of {n m : Nat} {xs : List D} {Q : QS} (h : RD n m (.lst xs)) (q : Q (.val (.str (reprD (.lst xs))))) (hn : n ≤ 64 := by decide) (hm : m ≤ LIM := by decide) : reprW [.lst xs] Q := by
  refine ⟨⟨h.pl hn, ?_⟩, q⟩
  obtain ⟨p, a1, a2, a3, a4, a5, a6⟩ := h.ok
  unfold reprD pyD
  rw [a1]
  exact ⟨a4, Nat.le_trans a6 hm⟩
theorem reprW_of_t {n m : Nat} {xs : List D} {Q : QS} (h : RD n m (.tup xs)) (q : Q (.val (.str (reprD (.tup xs))))) (hn : n ≤ 64 := by decide) (hm : m ≤ LIM := by decide) : reprW [.tup xs] Q := by
  refine ⟨⟨h.pl hn, ?_⟩, q⟩
  obtain ⟨p, a1, a2, a3, a4, a5, a6⟩ := h.ok
  unfold reprD pyD
  rw [a1]
  exact ⟨a4, Nat.le_trans a6 hm⟩
section
variable {X : Cx}
theorem repr_dp {pins : List (Addr × Obj)} {σ : L2.St} {H : Hp} {s : Shared} {a : Addr} {d : D} {W : Wd} {Q : VK} (hu : Rm X) (hg : X.A.guards = some []) (I : Inv X pins σ H s) (ok : W.Ok H) (hv : BDen X.K X.mg W H (.ref a) d) (h1 : pl d = true) (h2 : (pyD d).showable = true) (h3 : (reprD d).length ≤ LIM)
    (q : Q (.str (reprD d)) H) : wpAny (model X.prog X.w) X.A (call (.builtin "repr") [.ref a]) (EP X pins σ Q) X.xe s := by
  obtain ⟨p, e1, s1⟩ := pl_some h1
  have ep : pyD d = p := by unfold pyD; rw [e1]; rfl
  rw [ep] at h2
  unfold reprD at h3 q
  rw [ep] at h3 q
  obtain ⟨as, r⟩ := Dp.reads I p _ _ (hv.dp ok e1) rfl
  have hR : X.A.units + 66 < cLine := hu
  have hd : p.depth ≤ 64 := by
    unfold SeqAt.shaped at s1
    rw [Bool.and_eq_true] at s1
    exact of_decide_eq_true s1.2
  exact repr_of_reads' r h2 (PyData.noDict_hsm (PyData.hasDict_of_canLay _ (SeqAt.canLay_of_shaped s1))) hg (by omega) (fun b o h => h) (fun h' u tk hk => ⟨.str _, H, I.kept (t' := tk) hk, ⟨u, rfl⟩, q⟩) (by rw [lim_eq]; exact h3)
theorem c_repr (hu : Rm X) (hg : X.A.guards = some []) : CallR X (.builtin "repr") (RnD X reprW) := by
  intro pins s σ H xs us Q I r ⟨W, ds, Qp, ok, hd, h, q⟩
  unfold reprW at h
  split at h
  · obtain ⟨v, rfl, hv⟩ := ball1 hd
    obtain ⟨⟨h1, h2, h3⟩, h⟩ := h
    obtain ⟨a, vs, rfl, ha, ta⟩ := bd_lst ok hv
    obtain ⟨u, rfl, ru⟩ := vals1 r
    obtain rfl : u = .ref a := ru
    exact repr_dp hu hg I ok hv h1 h2 h3 (q _ _ (.now ok (.str _) h))
  · obtain ⟨v, rfl, hv⟩ := ball1 hd
    obtain ⟨⟨h1, h2, h3⟩, h⟩ := h
    obtain ⟨a, vs, rfl, ha, _, ta⟩ := bd_tup ok hv
    obtain ⟨u, rfl, ru⟩ := vals1 r
    obtain rfl : u = .ref a := ru
    exact repr_dp hu hg I ok hv h1 h2 h3 (q _ _ (.now ok (.str _) h))
  · exact h.elim
end
end PL

namespace PL
open PySem PySem.Spec PyProof.Rows L2

/-! ## the mini text -/
inductive Op where
  | add | sub | mul | fdiv | mod | pow | shl | shr | band | bor | bxor
  | eq | ne | lt | le | gt | ge | is_ | isnt | in_ | notin | idx
  deriving DecidableEq
inductive Bi where
  | len | abs | int | max | min | sum | all | any | list | tuple | str | sorted | repr
  deriving DecidableEq
inductive IK where
  | seq | range1 | range2 | enum | zip | rev | range3
  deriving DecidableEq
inductive Tg where
  | nm (i : Nat) | tp (ts : List Nat)
  deriving DecidableEq
inductive Cs where
  | non | bl (b : Bool) | int (i : Int) | str (x : Str)
  deriving DecidableEq
inductive ME where
  | var (i : Nat)
  | cst (c : Cs)
  | gint (x : Str) (i : Int)
  | gtup (x : Str) (ns : List Int) (e : ME)
  | bin (o : Op) (a b : ME)
  | neg (a : ME)
  | slice (a : ME) (lo hi : List ME)
  | cal (b : Bi) (es : List ME)
  | isi (T : String) (a : ME)
  | lset (a : ME)
  | sset (a : ME)
  | tup (es : List ME)
  | lst (es : List ME)
  | andv (a b : ME)
  | orv (a b : ME)
  | andt (a b : ME)
  | ort (a b : ME)
  | not_ (a : ME)
  | ife (c a b : ME)
  | ch (o p : Op) (a b c : ME)
  | call (f : Str) (es : List ME)
  | callb (f : Str) (es : List ME)
  | lc (elt : ME) (tg : Tg) (own : List (Str × Nat)) (ik : IK) (its : List ME) (cond : List ME)
  | mth (m : Mt) (a : ME) (es : List ME)
  | calk (b : Bk) (a d : ME)
  | dnew (t : Bool)
  | dis1 (a b : ME)
  | rev (a : ME)

/-- an exception as data -/
structure Ex where
  cls : Str
  fs : List (Str × D)
abbrev QX := Ex → Prop
abbrev QD := D → Prop
/-- what a def does: from its arguments, what is wanted of the result, of an exception -/
abbrev FSp := List D → QS → QX → Prop
structure Tab where
  sp : Str → Option FSp
  frees : List Str
  gints : List (Str × Int)
  gtups : List (Str × List Int)
  excs : List Str
  exm : List ((Str × Str) × Bool)

def opW : Op → D → D → QS → Prop
  | .add => addW
  | .sub => subW
  | .mul => mulW
  | .fdiv => fdivW
  | .mod => modW
  | .pow => powW
  | .shl => shlW
  | .shr => shrW
  | .band => bitW Builtin.bitAnd
  | .bor => bitW Builtin.bitOr
  | .bxor => bitW Builtin.bitXor
  | .eq => eqW
  | .ne => neW
  | .lt => ltW
  | .le => leW
  | .gt => gtW
  | .ge => geW
  | .is_ => isW
  | .isnt => isntW
  | .in_ => inW
  | .notin => notinW
  | .idx => idxW
def biW : Bi → List D → QS → Prop
  | .len => lenW
  | .abs => absW
  | .int => intW
  | .max => maxW
  | .min => minW
  | .sum => sumW
  | .all => allW
  | .any => anyW
  | .list => listW
  | .tuple => tupleW
  | .str => strW
  | .sorted => sortedW
  | .repr => reprW
/-- len(set(x)): numbers, each once -/
def lsetW (x : D) (Q : QS) : Prop := match x with
  | .lst xs => ∃ is : List Int, xs = is.map D.int ∧ (is.length < 4000 ∧ is.Nodup) ∧ Q (.val (.int (is.length : Nat)))
  | _ => False
/-- sorted(set(x)) -/
def ssetW (x : D) (Q : QS) : Prop := match x with
  | .tup xs => ∃ is : List Int, xs = is.map D.int ∧ is.length < 64 ∧ ∀ ns : List Int, ns.Pairwise (· < ·) → (∀ k, k ∈ ns ↔ k ∈ is) → Q (.own (ns.map D.int))
  | _ => False
/-- x[::-1] -/
def revW (x : D) (Q : QS) : Prop := match x with
  | .lst xs => Q (.own xs.reverse)
  | _ => False
def csD : Cs → D
  | .non => .non
  | .bl b => .bl b
  | .int i => .int i
  | .str x => .str x
/-- truth -/
def truW (d : D) (Q : Bool → Prop) : Prop := match d with
  | .non => Q false
  | .bl b => Q b
  | .int i => Q (i != 0)
  | .lst xs => Q (!xs.isEmpty)
  | .tup xs => Q (!xs.isEmpty)
  | .dic false kvs => Q (!kvs.isEmpty)
  | _ => False
/-- an operand: a name's value is read where it stands -/
def argK (we : Env → QS → QX → Prop) : ME → Env → QD → QX → Prop
  | .var i, ρ, Q, _ => match ρ[i]? with
    | some (some s) => Q s.d
    | _ => False
  | _, ρ, Q, X => we ρ (fun r => Q r.d) X
def wipeE (ρ : Env) : List Nat → Env
  | [] => ρ
  | v :: vs => (wipeE ρ vs).set v none
/-- a target takes data -/
def setAll (ρ : Env) : List Nat → List D → Env
  | i :: is, d :: ds => setAll (ρ.set i (some (.val d))) is ds
  | _, _ => ρ
def tgW : Tg → D → Env → (Env → Prop) → Prop
  | .nm i, d, ρ, Q => Q (ρ.set i (some (.val d)))
  | .tp is, .tup ds, ρ, Q => ds.length = is.length ∧ Q (setAll ρ is ds)
  | .tp _, _, _, _ => False
def rgD (a : Int) (n : Nat) : List D := (List.range n).map fun i => D.int (a + (i : Nat))
def B62 (i : Int) : Prop := i < 4611686018427387904 ∧ -4611686018427387904 ≤ i
/-- the items that are walked -/
def itW : IK → List D → (List D → Prop) → Prop
  | .seq, [.lst xs], Q => Q xs
  | .seq, [.tup xs], Q => Q xs
  | .seq, [.scr ns], Q => Q (ns.map D.int)
  | .range1, [.int n], Q => B62 n ∧ Q (rgD 0 n.toNat)
  | .range2, [.int a, .int b], Q => (B62 a ∧ B62 b) ∧ Q (rgD a (b - a).toNat)
  | .range3, [.int a, .int b, .int c], Q => ∃ n : Nat, L2.RgC a b c n ∧ Q ((List.range n).map fun i => D.int (a + (i : Nat) * c))
  | .enum, [.lst xs], Q => Q (xs.zipIdx.map fun p => D.tup [.int (p.2 : Nat), p.1])
  | .enum, [.tup xs], Q => Q (xs.zipIdx.map fun p => D.tup [.int (p.2 : Nat), p.1])
  | .zip, [.lst xs, .lst ys], Q => Q ((xs.zip ys).map fun p => D.tup [p.1, p.2])
  | .zip, [.tup xs, .tup ys], Q => Q ((xs.zip ys).map fun p => D.tup [p.1, p.2])
  | .rev, [.lst xs], Q => Q xs.reverse
  | .rev, [.tup xs], Q => Q xs.reverse
  | _, _, _ => False
/-- a comprehension's turns -/
def lcW (step : D → (Option D → Prop) → Prop) (Q : QS) : List D → List D → Prop
  | [], acc => Q (.own acc)
  | x :: xs, acc => step x fun o => match o with
    | some y => acc.length < LIM ∧ lcW step Q xs (acc ++ [y])
    | none => lcW step Q xs acc
def noX : QX := fun _ => False
def scal : D → Bool
  | .non => true
  | .bl _ => true
  | .int _ => true
  | .str _ => true
  | _ => false
/-- no reference to what was handed in -/
def flatR : Sl → Bool
  | .val d => scal d
  | .own xs => xs.all scal
  | .ownd _ _ => false
mutual
/-- no list, no dict within -/
def noL : D → Bool
  | .non => true
  | .bl _ => true
  | .int _ => true
  | .str _ => true
  | .g _ _ => true
  | .tup xs => noLs xs
  | _ => false
def noLs : List D → Bool
  | [] => true
  | x :: xs => noL x && noLs xs
end
/-- no reference to a list that was lent -/
def tupR : Sl → Bool
  | .val d => noL d
  | .own xs => noLs xs
  | .ownd _ _ => false
mutual
/-- data without guarded things -/
def noG : D → Bool
  | .lst xs => noGs xs
  | .tup xs => noGs xs
  | .dic _ kvs => noGk kvs
  | .obj _ fs => noGf fs
  | .g _ _ => false
  | _ => true
def noGs : List D → Bool
  | [] => true
  | x :: xs => noG x && noGs xs
def noGk : List (D × D) → Bool
  | [] => true
  | (_, v) :: r => noG v && noGk r
def noGf : List (Str × D) → Bool
  | [] => true
  | (_, v) :: r => noG v && noGf r
end
def fnW (Γ : Tab) (f : Str) (ds : List D) (Q : QS) (X : QX) : Prop := match Γ.sp f with
  | some sp => sp ds Q X
  | none => False
def optI (es : List D) (k : Option Int → Prop) : Prop := match es with
  | [] => k none
  | [.int i] => k (some i)
  | _ => False

mutual
def WE (Γ : Tab) : ME → Env → QS → QX → Prop
  | .var i => fun ρ Q _ => match ρ[i]? with
    | some (some (.val d)) => Q (.val d)
    | _ => False
  | .cst c => fun _ Q _ => Q (.val (csD c))
  | .gint _ i => fun _ Q _ => Q (.val (.int i))
  | .gtup _ ns e => fun ρ Q X => argK (WE Γ e) e ρ (fun d => idxW (.tup (ns.map D.int)) d Q) X
  | .bin o a b => fun ρ Q X => argK (WE Γ a) a ρ (fun x => argK (WE Γ b) b ρ (fun y => opW o x y Q) X) X
  | .neg a => fun ρ Q X => argK (WE Γ a) a ρ (fun x => negW x Q) X
  | .slice a lo hi => fun ρ Q X => argK (WE Γ a) a ρ (fun x => WAs Γ lo ρ (fun l => optI l fun i => WAs Γ hi ρ (fun h => optI h fun j => sliceW x i j Q) X) X) X
  | .cal b es => fun ρ Q X => WAs Γ es ρ (fun ds => biW b ds Q) X
  | .isi T a => fun ρ Q X => argK (WE Γ a) a ρ (fun x => isiW T [x] Q) X
  | .lset a => fun ρ Q X => argK (WE Γ a) a ρ (fun x => lsetW x Q) X
  | .sset a => fun ρ Q X => argK (WE Γ a) a ρ (fun x => ssetW x Q) X
  | .tup es => fun ρ Q X => WLs Γ es ρ (fun ds => ds.length ≤ LIM ∧ Q (.val (.tup ds))) X
  | .lst es => fun ρ Q X => WLs Γ es ρ (fun ds => ds.length ≤ LIM ∧ Q (.own ds)) X
  | .andv a b => fun ρ Q X => argK (WE Γ a) a ρ (fun x => match x with
    | .bl k => if k = true then WE Γ b ρ Q X else Q (.val (.bl false))
    | _ => False) X
  | .orv a b => fun ρ Q X => argK (WE Γ a) a ρ (fun x => match x with
    | .bl k => if k = true then Q (.val (.bl true)) else WE Γ b ρ Q X
    | _ => False) X
  | .andt a b => fun ρ Q X => argK (WE Γ a) a ρ (fun x => truW x fun k => if k = true then argK (WE Γ b) b ρ (fun y => Q (.val y)) X else Q (.val (.bl false))) X
  | .ort a b => fun ρ Q X => argK (WE Γ a) a ρ (fun x => truW x fun k => if k = true then Q (.val (.bl true)) else argK (WE Γ b) b ρ (fun y => Q (.val y)) X) X
  | .not_ a => fun ρ Q X => argK (WE Γ a) a ρ (fun x => truW x fun k => Q (.val (.bl (!k)))) X
  | .ife c a b => fun ρ Q X => argK (WE Γ c) c ρ (fun x => truW x fun k => if k = true then WE Γ a ρ Q X else WE Γ b ρ Q X) X
  | .ch o p a b c => fun ρ Q X => argK (WE Γ a) a ρ (fun x => argK (WE Γ b) b ρ (fun y => opW o x y fun r => match r with
    | .val (.bl k) => if k = true then argK (WE Γ c) c ρ (fun z => opW p y z Q) X else Q (.val (.bl false))
    | _ => False) X) X
  | .call f es => fun ρ Q X => WLs Γ es ρ (fun ds => fnW Γ f ds Q X) X
  | .callb f es => fun ρ Q X => WAs Γ es ρ (fun ds => fnW Γ f ds (fun r => tupR r = true ∧ Q r) (fun ex => (ex.fs.all fun p => scal p.2) = true ∧ X ex)) X
  | .lc elt tg own ik its cond => fun ρ Q X => WAs Γ its ρ (fun ds => itW ik ds fun items =>
      lcW (fun x k => tgW tg x (wipeE ρ (own.map (·.2))) fun ρ' => WCs Γ cond ρ' fun b => if b = true then WE Γ elt ρ' (fun r => k (some r.d)) noX else k none) Q items []) X
  | .mth m a es => fun ρ Q X => argK (WE Γ a) a ρ (fun x => mtTy m x = true ∧ WLs Γ es ρ (fun ds => mtW m x ds Q) X) X
  | .calk b a d => fun ρ Q X => argK (WE Γ a) a ρ (fun x => argK (WE Γ d) d ρ (fun y => bkW b x y Q) X) X
  | .dnew t => fun _ Q _ => Q (.ownd t [])
  | .dis1 a b => fun ρ Q X => argK (WE Γ a) a ρ (fun x => isKey x = true ∧ WE Γ b ρ (fun r => Q (.ownd false [(x, r.d)])) X) X
  | .rev a => fun ρ Q X => argK (WE Γ a) a ρ (fun x => revW x Q) X
/-- operands -/
def WAs (Γ : Tab) : List ME → Env → (List D → Prop) → QX → Prop
  | [] => fun _ Q _ => Q []
  | e :: es => fun ρ Q X => argK (WE Γ e) e ρ (fun d => WAs Γ es ρ (fun ds => Q (d :: ds)) X) X
/-- items, arguments: what is handed on -/
def WLs (Γ : Tab) : List ME → Env → (List D → Prop) → QX → Prop
  | [] => fun _ Q _ => Q []
  | e :: es => fun ρ Q X => WE Γ e ρ (fun r => WLs Γ es ρ (fun ds => Q (r.d :: ds)) X) X
/-- a comprehension's tests -/
def WCs (Γ : Tab) : List ME → Env → (Bool → Prop) → Prop
  | [] => fun _ Q => Q true
  | c :: _ => fun ρ Q => argK (WE Γ c) c ρ (fun d => truW d Q) noX
end
/-- a test -/
def WT (Γ : Tab) (c : ME) (ρ : Env) (Q : Bool → Prop) (X : QX) : Prop := argK (WE Γ c) c ρ (fun d => truW d Q) X

/-! ## the text is this mini text -/
structure CC where
  N : List Str
  sc : Scope
  calm : Bool
  fn : Str → Bool
def dunder (x : Str) : Bool := (x == ("__debug__" : Str)) || (x == ("__classdict__" : Str)) || (x == ("__name__" : Str))
def vis (c : CC) (x : Str) : Bool := !dunder x && (decide (c.sc.names.lookup x = some .local) || decide (c.sc.names.lookup x = some .cell) || decide (c.sc.names.lookup x = some .free))
def glb (c : CC) (x : Str) : Bool := !dunder x && decide (c.sc.names.lookup x = some .globalImplicit)
def star : Expr → Bool
  | .Starred _ _ => true
  | _ => false
def isSlice : Expr → Bool
  | .Slice _ _ _ _ => true
  | _ => false
def Bi.nm : Bi → Str
  | .len => "len"
  | .abs => "abs"
  | .int => "int"
  | .max => "max"
  | .min => "min"
  | .sum => "sum"
  | .all => "all"
  | .any => "any"
  | .list => "list"
  | .tuple => "tuple"
  | .str => "str"
  | .sorted => "sorted"
  | .repr => "repr"
def opB : Op → Option Operator
  | .add => some .Add
  | .sub => some .Sub
  | .mul => some .Mult
  | .fdiv => some .FloorDiv
  | .mod => some .Mod
  | .pow => some .Pow
  | .shl => some .LShift
  | .shr => some .RShift
  | .band => some .BitAnd
  | .bor => some .BitOr
  | .bxor => some .BitXor
  | _ => none
def opC : Op → Option CmpOp
  | .eq => some .Eq
  | .ne => some .NotEq
  | .lt => some .Lt
  | .le => some .LtE
  | .gt => some .Gt
  | .ge => some .GtE
  | .is_ => some .Is
  | .isnt => some .IsNot
  | .in_ => some .In
  | .notin => some .NotIn
  | _ => none
/-- a name that may be set here -/
def tgN (c : CC) (x : Str) : Bool := decide (c.sc.names.lookup x = some .local) || (decide (c.sc.names.lookup x = some .cell) && c.fn x)
def chkTg (c : CC) : Tg → Expr → Bool
  | .nm i, .Name x _ => decide (c.N[i]? = some x) && tgN c x
  | .tp is, .Tuple es _ _ => chkNms c is es
  | _, _ => false
where chkNms (c : CC) : List Nat → List Expr → Bool
  | [], [] => true
  | i :: is, .Name x _ :: es => decide (c.N[i]? = some x) && tgN c x && chkNms c is es
  | _, _ => false
/-- the iterable, split into its arguments -/
def itArgs (Γ : Tab) (c : CC) (ik : IK) (e : Expr) : Option (List Expr) := match ik, e with
  | .seq, e => some [e]
  | .range1, .Call (.Name x _) [a] [] _ => if x == ("range" : Str) && glb c x && Γ.frees.contains x then some [a] else none
  | .range2, .Call (.Name x _) [a, b] [] _ => if x == ("range" : Str) && glb c x && Γ.frees.contains x then some [a, b] else none
  | .range3, .Call (.Name x _) [a, b, d] [] _ => if x == ("range" : Str) && glb c x && Γ.frees.contains x then some [a, b, d] else none
  | .enum, .Call (.Name x _) [a] [] _ => if x == ("enumerate" : Str) && glb c x && Γ.frees.contains x then some [a] else none
  | .zip, .Call (.Name x _) [a, b] [] _ => if x == ("zip" : Str) && glb c x && Γ.frees.contains x then some [a, b] else none
  | .rev, .Call (.Name x _) [a] [] _ => if x == ("reversed" : Str) && glb c x && Γ.frees.contains x then some [a] else none
  | _, _ => none
def isSetE : Expr → Bool
  | .Set _ _ _ => true
  | _ => false
def Tg.ix : Tg → List Nat
  | .nm i => [i]
  | .tp is => is
def CC.blk (c : CC) (scope : Scope) : CC := ⟨c.N, relS scope c.sc, true, fun x => scope.names.lookup x == some .cell⟩
/-- the base of an attribute, no super() -/
def plainB : Expr → Bool
  | .Call (.Name _ _) [] [] _ => false
  | _ => true
def isTp : Tg → Bool
  | .tp _ => true
  | _ => false
mutual
def chkE (Γ : Tab) : ME → Bool → CC → Expr → Bool
  | .var i => fun m c e => match e with
    | .Name x _ => decide (c.N[i]? = some x) && vis c x
    | _ => false
  | .cst k => fun m c e => match e with
    | .Constant v _ _ => (match k, v with
      | .non, .none => true
      | .bl b, .bool b' => b == b'
      | .int i, .int i' => decide (i = i')
      | .str x, .str x' => x == x'
      | _, _ => false)
    | _ => false
  | .gint x i => fun m c e => match e with
    | .Name y _ => x == y && glb c y && Γ.gints.contains (y, i)
    | _ => false
  | .gtup x ns a => fun m c e => match e with
    | .Subscript (.Name y _) ea _ => x == y && glb c y && Γ.gtups.contains (y, ns) && !isSlice ea && chkE Γ a false c ea
    | _ => false
  | .bin o a b => fun m c e => match e with
    | .BinOp ea op eb _ => decide (opB o = some op) && chkE Γ a false c ea && chkE Γ b false c eb
    | .Compare ea [op] [eb] _ => decide (opC o = some op) && !behindInMarks op eb && chkE Γ a false c ea && chkE Γ b false c eb
    | .Subscript ea eb _ => decide (o = .idx) && !isSlice eb && chkE Γ a false c ea && chkE Γ b false c eb
    | _ => false
  | .neg a => fun m c e => match e with
    | .UnaryOp .USub ea _ => chkE Γ a false c ea
    | _ => false
  | .slice a lo hi => fun m c e => match e with
    | .Subscript ea (.Slice el eh none _) _ => chkE Γ a false c ea && chkL Γ lo false c el.toList && chkL Γ hi false c eh.toList
    | _ => false
  | .cal b es => fun m c e => match e with
    | .Call (.Name x _) as [] _ => c.calm && x == b.nm && glb c x && Γ.frees.contains x && !as.isEmpty && chkL Γ es false c as
    | _ => false
  | .isi T a => fun m c e => match e with
    | .Call (.Name x _) [ea, .Name y _] [] _ => x == ("isinstance" : Str) && glb c x && Γ.frees.contains x && y == Str.ofString T && glb c y && Γ.frees.contains y && ["bool", "int", "str", "list", "tuple", "dict"].contains T && !star ea && chkE Γ a false c ea
    | _ => false
  | .lset a => fun m c e => match e with
    | .Call (.Name x _) [.Call (.Name y _) [ea] [] _] [] _ => c.calm && x == ("len" : Str) && glb c x && Γ.frees.contains x && y == ("set" : Str) && glb c y && Γ.frees.contains y && !star ea && chkE Γ a false c ea
    | _ => false
  | .sset a => fun m c e => match e with
    | .Call (.Name x _) [.Call (.Name y _) [ea] [] _] [] _ => c.calm && x == ("sorted" : Str) && glb c x && Γ.frees.contains x && y == ("set" : Str) && glb c y && Γ.frees.contains y && !star ea && chkE Γ a false c ea
    | _ => false
  | .tup es => fun m c e => match e with
    | .Tuple as _ _ => chkL Γ es false c as
    | _ => false
  | .lst es => fun m c e => match e with
    | .List as _ => chkL Γ es false c as
    | _ => false
  | .andv a b => fun m c e => match e with
    | .BoolOp .And [ea, eb] _ => !m && chkE Γ a false c ea && chkE Γ b false c eb
    | .BoolOp .And (ea :: eb :: ec :: r) p => !m && chkE Γ a false c ea && chkE Γ b false c (.BoolOp .And (eb :: ec :: r) p)
    | _ => false
  | .orv a b => fun m c e => match e with
    | .BoolOp .Or [ea, eb] _ => !m && chkE Γ a false c ea && chkE Γ b false c eb
    | .BoolOp .Or (ea :: eb :: ec :: r) p => !m && chkE Γ a false c ea && chkE Γ b false c (.BoolOp .Or (eb :: ec :: r) p)
    | _ => false
  | .andt a b => fun m c e => match e with
    | .BoolOp .And [ea, eb] _ => m && chkE Γ a true c ea && chkE Γ b true c eb
    | .BoolOp .And (ea :: eb :: ec :: r) p => m && chkE Γ a true c ea && chkE Γ b true c (.BoolOp .And (eb :: ec :: r) p)
    | _ => false
  | .ort a b => fun m c e => match e with
    | .BoolOp .Or [ea, eb] _ => m && chkE Γ a true c ea && chkE Γ b true c eb
    | .BoolOp .Or (ea :: eb :: ec :: r) p => m && chkE Γ a true c ea && chkE Γ b true c (.BoolOp .Or (eb :: ec :: r) p)
    | _ => false
  | .not_ a => fun m c e => match e with
    | .UnaryOp .Not ea _ => chkE Γ a m c ea
    | _ => false
  | .ife t a b => fun m c e => match e with
    | .IfExp et ea eb _ => !m && chkE Γ t true c et && chkE Γ a false c ea && chkE Γ b false c eb
    | _ => false
  | .ch o p a b d => fun m c e => match e with
    | .Compare ea [op, oq] [eb, ed] _ => decide (opC o = some op) && decide (opC p = some oq) && !behindInMarks oq ed && chkE Γ a false c ea && chkE Γ b false c eb && chkE Γ d false c ed
    | _ => false
  | .call f es => fun m c e => match e with
    | .Call (.Name x _) as [] _ => x == f && (Γ.sp f).isSome && glb c x && !as.isEmpty && chkL Γ es false c as
    | _ => false
  | .callb f es => fun m c e => match e with
    | .Call (.Name x _) as [] _ => x == f && (Γ.sp f).isSome && glb c x && !as.isEmpty && chkL Γ es false c as
    | _ => false
  | .lc elt tg own ik its cond => fun m c e => match e with
    | .ListComp ee [⟨et, ei, eifs, 0⟩] scope _ => c.calm && blkC c.N c.sc scope own && !isSetE ei && (match itArgs Γ c ik ei with
        | some as => chkL Γ its false c as
        | none => false) && chkTg (c.blk scope) tg et && tg.ix.all (fun i => (own.map (·.2)).contains i) && (isTp tg || !(ik == .enum || ik == .zip)) &&
        decide (eifs.length ≤ 1) && chkL Γ cond true (c.blk scope) eifs && chkE Γ elt false (c.blk scope) ee
    | _ => false
  | .mth m a es => fun _ c e => match e with
    | .Call (.Attribute o x apos) as [] cpos => x == m.nm && (apos.endLine == cpos.line) && plainB o && !as.isEmpty && decide (as.length < 30) && chkE Γ a false c o && chkL Γ es false c as
    | _ => false
  | .calk b a d => fun _ c e => match e with
    | .Call (.Name x _) [ea] [⟨some kw, ed, _⟩] _ => c.calm && x == b.nm && glb c x && Γ.frees.contains x && kw == b.kw && !star ea && chkE Γ a false c ea && chkE Γ d false c ed
    | _ => false
  | .dnew _ => fun _ _ e => match e with
    | .Dict [] [] _ => true
    | _ => false
  | .dis1 a b => fun _ c e => match e with
    | .Dict [some ka] [vb] _ => chkE Γ a false c ka && chkE Γ b false c vb
    | _ => false
  | .rev a => fun _ c e => match e with
    | .Subscript ea (.Slice none none (some (.UnaryOp .USub (.Constant (.int 1) _ _) _)) _) _ => chkE Γ a false c ea
    | _ => false
def chkL (Γ : Tab) : List ME → Bool → CC → List Expr → Bool
  | [] => fun _ _ es => es.isEmpty
  | m :: ms => fun t c es => match es with
    | e :: es => !star e && chkE Γ m t c e && chkL Γ ms t c es
    | [] => false
end
end PL

namespace PL
open PySem PySem.Spec PyProof.Rows L2

/-! ## what is known around -/
def ExOk (K : PySem.W.Frag) (mg : Str → Option Value) (W : Wd) (H : Hp) (cls : Value) (d : Option Addr) (ex : Ex) : Prop :=
  ∃ C, mg ex.cls = some (.ref C) ∧ cls = .ref C ∧ ((d = none ∧ ex.fs = []) ∨ ∃ dx fs, d = some dx ∧ H dx = some (.xd fs) ∧ DenF K mg W fs ex.fs)
/-- a def's contract over the heap -/
def lift (K : PySem.W.Frag) (mg : Str → Option Value) (fs : FSp) : Sp := fun vs H Q E => ∃ (W : Wd) (ds : List D) (Qp : QS) (Xp : QX), W.Ok H ∧ BAll K mg W H vs ds ∧ fs ds Qp Xp ∧
  (∀ v H', Out K mg W H Qp v H' → Q v H') ∧ ∀ ex W' H' cls d, W'.Ok H' → Grow W H W' H' → ExOk K mg W' H' cls d ex → Xp ex → E cls d H'
/-- a def's contract where data are handed over, to be kept -/
def liftD (K : PySem.W.Frag) (mg : Str → Option Value) (fs : FSp) : Sp := fun vs H Q E => ∃ (W : Wd) (ds : List D) (Qp : QS) (Xp : QX), W.Ok H ∧ DenAll K mg W vs ds ∧ fs ds Qp Xp ∧
  (∀ v H', Out K mg W H Qp v H' → Q v H') ∧ ∀ ex W' H' cls d, W'.Ok H' → Grow W H W' H' → ExOk K mg W' H' cls d ex → Xp ex → E cls d H'
/-- __init__ of an exception that keeps one field -/
def spInit (K : PySem.W.Frag) : Sp := fun vs H Q _ => ∃ (a C : Addr) (v : V), vs = [.ref a, v] ∧ OexC K C ∧ PySem.W.findIn K (.ref C) "name" = some none ∧ H a = some (exo a C none) ∧ ∀ dx, H dx = none → dx ≠ a → Q .non (upd (upd H dx (exd dx [("name", v)])) a (exo a C (some dx)))
/-- isinstance of such an exception can be asked -/
def IsOk (K : PySem.W.Frag) (mg : Str → Option Value) (Ca : Addr) : Prop := ExcC K Ca ∧ (∃ H2 : Addr, mg "HeardError" = some (.ref H2) ∧ PySem.W.kitOne K (.ref Ca) (.ref H2) = some true) ∧ mg "ValueError" = none ∧ PySem.W.kitOne K (.ref Ca) (.type "ValueError") = some true
/-- such an exception can be raised, its field read -/
def RzOk (P : Program) (w : World) (K : PySem.W.Frag) (mg : Str → Option Value) (base : Heap) (k : Nat) (C : Str) : Prop := ∃ Ca : Addr, mg C = some (.ref Ca) ∧ XfC K Ca ∧ PySem.W.findIn K (.ref Ca) "name" = some none ∧ OexC K Ca ∧
  ∃ (fI : Addr) (fd : FuncData) (k1 : Nat), PySem.W.findIn K (.ref Ca) "__init__" = some (some (.ref fI)) ∧ PySem.W.typeIn K (.ref fI) = some (.type "function") ∧ FnOk P w K mg base (L2.CX P w) k1 fI fd ["self", "name"] (spInit K) ∧ k1 + 1 ≤ k ∧ Binds K fd ["self", "name"] [] ∧ IsOk K mg Ca
structure GOk (Γ : Tab) (P : Program) (w : World) (K : PySem.W.Frag) (mg : Str → Option Value) (base : Heap) (k : Nat) : Prop where
  fn : ∀ f sp, Γ.sp f = some sp → ∃ (a : Addr) (fd : FuncData) (ps : List Str), FnOk P w K mg base (L2.CX P w) k a fd ps (liftD K mg sp) ∧ mg f = some (.ref a) ∧ PySem.W.keepIn K (.ref a) = true ∧ Binds K fd ps []
  fr : ∀ x ∈ Γ.frees, mg x = none
  gi : ∀ x i, (x, i) ∈ Γ.gints → ∃ t, mg x = some (.int i t)
  ex : ∀ C ∈ Γ.excs, RzOk P w K mg base k C
  xm : ∀ x y b, ((x, y), b) ∈ Γ.exm → ∃ Cx Cy : Addr, mg x = some (.ref Cx) ∧ mg y = some (.ref Cy) ∧ PySem.W.exmOne K (.ref Cx) (.ref Cy) = some b
  gt : ∀ x ns, (x, ns) ∈ Γ.gtups → ∃ a, mg x = some (.ref a) ∧ ∀ H, SqT K H a (ns.map V.int)
structure XOk (Γ : Tab) (k : Nat) (c : CC) (X : Cx) (Wx : WX) : Prop where
  N : X.N = c.N
  nd : X.N.Nodup
  sc : X.env.scope = c.sc
  calm : c.calm = true → X.calm = true
  tk : Takes X Wx
  rm : Room k X.A
  g : GOk Γ X.prog X.w X.K X.mg X.base k
  fn : ∀ x, c.fn x = true → X.fn x = true
  gd : ("repr" : Str) ∈ Γ.frees → X.A.guards = some []
def XPost (X : Cx) (Wx : WX) (W : Wd) (H : Hp) (σ : L2.St) (Q : QX) : Prop := ∀ ex W' H' cls d, W'.Ok H' → Grow W H W' H' → ExOk X.K X.mg W' H' cls d ex → Q ex → Wx cls d σ H'
theorem XPost.grow {X : Cx} {Wx : WX} {W W1 : Wd} {H H1 : Hp} {σ : L2.St} {Q : QX} (h : XPost X Wx W H σ Q) (ok : W1.Ok H1) (g : Grow W H W1 H1) : XPost X Wx W1 H1 σ Q :=
  fun ex W' H' cls d ok' g' e q => h ex W' H' cls d ok' (g.trans g' ok) e q
theorem XPost.no {X : Cx} {Wx : WX} {W : Wd} {H : Hp} {σ : L2.St} : XPost X Wx W H σ noX := fun _ _ _ _ _ _ _ _ q => q.elim

/-- an expression does what the mini text says -/
def PEm (Γ : Tab) (k : Nat) (me : ME) (c : CC) (e : Expr) : Prop := ∀ X Wx, XOk Γ k c X Wx → ∃ t, PE X e t ∧
  ∀ (W : Wd) (H : Hp) (σ : L2.St) (ρ : Env) (Q : QS) (QX : QX) (Post : VK), W.Ok H → EnvOk X.K X.mg W H σ ρ → WE Γ me ρ Q QX → XPost X Wx W H σ QX → (∀ v H', Out X.K X.mg W H Q v H' → Post v H') → t σ H Post
/-- .. as an operand -/
def PAm (Γ : Tab) (k : Nat) (me : ME) (c : CC) (e : Expr) : Prop := ∀ X Wx, XOk Γ k c X Wx → ∃ t, PE X e t ∧
  ∀ (W : Wd) (H : Hp) (σ : L2.St) (ρ : Env) (Q : QD) (QX : QX) (Post : VK), W.Ok H → EnvOk X.K X.mg W H σ ρ → argK (WE Γ me) me ρ Q QX → XPost X Wx W H σ QX → (∀ v H', OutB X.K X.mg W H Q v H' → Post v H') → t σ H Post
/-- operands in a row -/
def PAs (Γ : Tab) (k : Nat) (mes : List ME) (c : CC) (es : List Expr) : Prop := ∀ X Wx, XOk Γ k c X Wx → ∃ t, PA X es t ∧
  ∀ (W : Wd) (H : Hp) (σ : L2.St) (ρ : Env) (Q : List D → Prop) (QX : QX) (Post : List V → Hp → Prop), W.Ok H → EnvOk X.K X.mg W H σ ρ → WAs Γ mes ρ Q QX → XPost X Wx W H σ QX →
    (∀ vs W' H' ds, W'.Ok H' → Grow W H W' H' → BAll X.K X.mg W' H' vs ds → Q ds → Post vs H') → t σ H Post
/-- items in a row -/
def PLs (Γ : Tab) (k : Nat) (mes : List ME) (c : CC) (es : List Expr) : Prop := ∀ X Wx, XOk Γ k c X Wx → ∃ t, PA X es t ∧
  ∀ (W : Wd) (H : Hp) (σ : L2.St) (ρ : Env) (Q : List D → Prop) (QX : QX) (Post : List V → Hp → Prop), W.Ok H → EnvOk X.K X.mg W H σ ρ → WLs Γ mes ρ Q QX → XPost X Wx W H σ QX →
    (∀ vs W' H' ds, W'.Ok H' → Grow W H W' H' → DenAll X.K X.mg W' vs ds → Q ds → Post vs H') → t σ H Post
/-- a test -/
def PTm (Γ : Tab) (k : Nat) (me : ME) (c : CC) (e : Expr) : Prop := ∀ X Wx, XOk Γ k c X Wx → ∃ t, PT X e t ∧
  ∀ (W : Wd) (H : Hp) (σ : L2.St) (ρ : Env) (Q : Bool → Prop) (QX : QX) (Post : Bool → Hp → Prop), W.Ok H → EnvOk X.K X.mg W H σ ρ → WT Γ me ρ Q QX → XPost X Wx W H σ QX →
    (∀ b W' H', W'.Ok H' → Grow W H W' H' → Q b → Post b H') → t σ H Post

section
variable {Γ : Tab} {k : Nat} {c : CC} {X : Cx} {Wx : WX} {e : Expr} {es : List Expr} {me : ME} {mes : List ME}
theorem XOk.rm66 (h : XOk Γ k c X Wx) : Rm X := by
  have := h.rm.un
  show X.A.units + 66 < cLine
  omega
theorem dund {x : Str} (h : dunder x = false) : (x == ("__debug__" : Str)) = false ∧ (x == ("__classdict__" : Str)) = false ∧ x ≠ "__name__" := by
  unfold dunder at h
  rw [Bool.or_eq_false_iff, Bool.or_eq_false_iff] at h
  refine ⟨h.1.1, h.1.2, fun z => ?_⟩
  have := h.2
  rw [z] at this
  revert this
  decide
theorem glb_ok {x : Str} (h : XOk Γ k c X Wx) (g : glb c x = true) : Gl X x ∧ (x == ("__debug__" : Str)) = false ∧ x ≠ "__name__" := by
  unfold glb at g
  rw [Bool.and_eq_true, Bool.not_eq_true', decide_eq_true_eq] at g
  obtain ⟨h1, h2, h3⟩ := dund g.1
  refine ⟨?_, h1, h3⟩
  show X.env.scope.names.lookup x = _
  rw [h.sc]
  exact g.2
theorem vis_ok {x : Str} (h : XOk Γ k c X Wx) (g : vis c x = true) : Vis X.env.scope x ∧ (x == ("__debug__" : Str)) = false ∧ (x == ("__classdict__" : Str)) = false := by
  unfold vis at g
  rw [Bool.and_eq_true, Bool.not_eq_true', Bool.or_eq_true, Bool.or_eq_true, decide_eq_true_eq, decide_eq_true_eq, decide_eq_true_eq] at g
  obtain ⟨h1, h2, h3⟩ := dund g.1
  refine ⟨?_, h1, h2⟩
  unfold Vis
  rw [h.sc]
  rcases g.2 with (z | z) | z
  · exact .inl z
  · exact .inr (.inl z)
  · exact .inr (.inr z)
theorem star_cons (h : star e = false) (env : PySem.Env) : starEach (e :: es) env = (false, eval e env) :: starEach es env := by
  cases e <;> first | rfl | cases h
theorem noStar_any {pos : Pos} (env : PySem.Env) : ∀ {es : List Expr}, (es.all fun e => !star e) = true → (backTo pos (starEach es env)).any (·.1) = false
  | [], _ => rfl
  | e :: es, h => by
    rw [List.all_cons, Bool.and_eq_true, Bool.not_eq_true'] at h
    rw [star_cons h.1]
    exact noStar_any env h.2
theorem chkL_stars {t : Bool} : ∀ {mes : List ME} {es : List Expr}, chkL Γ mes t c es = true → (es.all fun e => !star e) = true
  | [], [], _ => rfl
  | [], _ :: _, h => by rw [chkL] at h; cases h
  | _ :: _, [], h => by rw [chkL] at h; cases h
  | m :: ms, e :: es, h => by
    rw [chkL] at h
    simp only [Bool.and_eq_true] at h
    rw [List.all_cons, Bool.and_eq_true]
    exact ⟨h.1.1, chkL_stars h.2⟩

/-- a name that is read where it stands -/
theorem pam_var {i : Nat} {x : Str} {pos : Pos} (h1 : c.N[i]? = some x) (h2 : vis c x = true) : PAm Γ k (.var i) c (.Name x pos) := by
  intro X Wx xo
  obtain ⟨hv, hd, hcd⟩ := vis_ok xo h2
  refine ⟨tVar i, pe_var (by rw [xo.N]; exact h1) hv hd hcd, fun W H σ ρ Q QX Post ok eo h _ q => ?_⟩
  have h : (match ρ[i]? with | some (some s) => Q s.d | _ => False) := h
  split at h
  · rename_i s he
    obtain ⟨v, e1, e2⟩ := eo.at_ i s he
    exact ⟨v, e1, q v H ⟨W, s.d, ok, .refl _ _, ⟨s, e2, rfl⟩, h⟩⟩
  · exact h.elim
theorem pem_var {i : Nat} {x : Str} {pos : Pos} (h1 : c.N[i]? = some x) (h2 : vis c x = true) : PEm Γ k (.var i) c (.Name x pos) := by
  intro X Wx xo
  obtain ⟨hv, hd, hcd⟩ := vis_ok xo h2
  refine ⟨tVar i, pe_var (by rw [xo.N]; exact h1) hv hd hcd, fun W H σ ρ Q QX Post ok eo h _ q => ?_⟩
  rw [WE] at h
  split at h
  · rename_i s he
    obtain ⟨v, e1, e2⟩ := eo.at_ i _ he
    exact ⟨v, e1, q v H (.now ok e2 h)⟩
  · exact h.elim
theorem argK_other {we : Env → QS → QX → Prop} (h : ∀ i, me ≠ .var i) {ρ : Env} {Q : QD} {QX : QX} : argK we me ρ Q QX = we ρ (fun r => Q r.d) QX := by
  cases me <;> first | rfl | exact absurd rfl (h _)
theorem pam_of (h : PEm Γ k me c e) (n : ∀ i, me ≠ .var i) : PAm Γ k me c e := by
  intro X Wx xo
  obtain ⟨t, pt, ht⟩ := h X Wx xo
  refine ⟨t, pt, fun W H σ ρ Q QX Post ok eo hw xp q => ht W H σ ρ _ QX Post ok eo (by rw [argK_other n] at hw; exact hw) xp fun v H' o => q v H' ?_⟩
  exact o.toD.toB
theorem pam_chk (h : PEm Γ k me c e) {t : Bool} (hc : chkE Γ me t c e = true) : PAm Γ k me c e := by
  cases me with
  | var i =>
    rw [chkE] at hc
    dsimp only at hc
    split at hc
    · rw [Bool.and_eq_true, decide_eq_true_eq] at hc
      exact pam_var hc.1 hc.2
    · cases hc
  | _ => exact pam_of h (fun _ z => nomatch z)
theorem outB_after {Q : QD} {W0 W : Wd} {H0 H : Hp} {v : V} {H' : Hp} (ok : W.Ok H) (g : Grow W0 H0 W H) (h : OutB X.K X.mg W H Q v H') : OutB X.K X.mg W0 H0 Q v H' := by
  obtain ⟨W', d, ok', g', s, q⟩ := h
  exact ⟨W', d, ok', g.trans g' ok, s, q⟩
/-- two operands -/
theorem two {a b : ME} {ea eb : Expr} (ha : PAm Γ k a c ea) (hb : PAm Γ k b c eb) (xo : XOk Γ k c X Wx) : ∃ ta tb, PE X ea ta ∧ PE X eb tb ∧
    ∀ (W : Wd) (H : Hp) (σ : L2.St) (ρ : Env) (Q : D → D → Prop) (QX : QX) (Post : V → V → Hp → Prop), W.Ok H → EnvOk X.K X.mg W H σ ρ → argK (WE Γ a) a ρ (fun x => argK (WE Γ b) b ρ (fun y => Q x y) QX) QX → XPost X Wx W H σ QX →
      (∀ x y W' H' d d', W'.Ok H' → Grow W H W' H' → BDen X.K X.mg W' H' x d → BDen X.K X.mg W' H' y d' → Q d d' → Post x y H') → ta σ H fun x H1 => tb σ H1 fun y H2 => Post x y H2 := by
  obtain ⟨ta, pa, qa⟩ := ha X Wx xo
  obtain ⟨tb, pb, qb⟩ := hb X Wx xo
  refine ⟨ta, tb, pa, pb, fun W H σ ρ Q QX Post ok eo h xp q => ?_⟩
  refine qa W H σ ρ _ QX _ ok eo h xp fun x H1 ⟨W1, d, ok1, g1, b1, h1⟩ => ?_
  refine qb W1 H1 σ ρ _ QX _ ok1 (eo.grow g1) h1 (xp.grow ok1 g1) fun y H2 ⟨W2, d', ok2, g2, b2, h2⟩ => ?_
  exact q x y W2 H2 d d' ok2 (g1.trans g2 ok1) (b1.grow g2) b2 h2
theorem plain_ix {b : Expr} (h : isSlice b = false) : PlainIx b := fun o i => by
  cases b <;> first | rfl | cases h
theorem r2_post {fw : D → D → QS → Prop} {W W' : Wd} {H H' : Hp} {x y : V} {d d' : D} {Q : QS} {Post : VK} (ok : W'.Ok H') (g : Grow W H W' H') (b1 : BDen X.K X.mg W' H' x d) (b2 : BDen X.K X.mg W' H' y d') (h : fw d d' Q) (q : ∀ v H', Out X.K X.mg W H Q v H' → Post v H') : R2D X fw x y H' Post :=
  ⟨W', d, d', Q, ok, b1, b2, h, fun v H'' o => q v H'' (o.after ok g)⟩
theorem pem_bop {o : Op} {op : Operator} {a b : ME} {ea eb : Expr} {pos : Pos} (ho : opB o = some op) (ha : PAm Γ k a c ea) (hb : PAm Γ k b c eb) : PEm Γ k (.bin o a b) c (.BinOp ea op eb pos) := by
  intro X Wx xo
  obtain ⟨ta, tb, pa, pb, q2⟩ := two ha hb xo
  have oo : OpR X (binaryOp op) (R2D X (opW o)) := by
    cases o <;> cases ho
    · exact o_add
    · exact o_sub
    · exact o_mul
    · exact o_fdiv
    · exact o_mod
    · exact o_pow
    · exact o_shl
    · exact o_shr
    · exact o_and
    · exact o_or
    · exact o_xor
  refine ⟨_, pe_op oo pa pb, fun W H σ ρ Q QX Post ok eo h xp q => ?_⟩
  rw [WE] at h
  exact q2 W H σ ρ _ QX _ ok eo h xp fun x y W' H' d d' ok' g b1 b2 h' => r2_post ok' g b1 b2 h' q
theorem cmp_ok (xo : XOk Γ k c X Wx) {o : Op} {op : CmpOp} (ho : opC o = some op) : OpR X (compareOp op) (R2D X (opW o)) := by
  have hu := xo.rm66
  cases o <;> cases ho
  · exact o_eq hu
  · exact o_ne hu
  · exact o_lt hu
  · exact o_le hu
  · exact o_gt hu
  · exact o_ge hu
  · exact o_is
  · exact o_isnt
  · exact o_in hu
  · exact o_notin hu
theorem pem_cmp {o : Op} {op : CmpOp} {a b : ME} {ea eb : Expr} {pos : Pos} (ho : opC o = some op) (hm : behindInMarks op eb = false) (ha : PAm Γ k a c ea) (hb : PAm Γ k b c eb) : PEm Γ k (.bin o a b) c (.Compare ea [op] [eb] pos) := by
  intro X Wx xo
  obtain ⟨ta, tb, pa, pb, q2⟩ := two ha hb xo
  refine ⟨_, pe_cmpR (cmp_ok xo ho) pa pb hm, fun W H σ ρ Q QX Post ok eo h xp q => ?_⟩
  rw [WE] at h
  exact q2 W H σ ρ _ QX _ ok eo h xp fun x y W' H' d d' ok' g b1 b2 h' => r2_post ok' g b1 b2 h' q
theorem pem_idx {a b : ME} {ea eb : Expr} {pos : Pos} (hs : isSlice eb = false) (ha : PAm Γ k a c ea) (hb : PAm Γ k b c eb) : PEm Γ k (.bin .idx a b) c (.Subscript ea eb pos) := by
  intro X Wx xo
  obtain ⟨ta, tb, pa, pb, q2⟩ := two ha hb xo
  refine ⟨_, pe_ix (i_idx xo.rm66) pa pb (plain_ix hs), fun W H σ ρ Q QX Post ok eo h xp q => ?_⟩
  rw [WE] at h
  exact q2 W H σ ρ _ QX _ ok eo h xp fun x y W' H' d d' ok' g b1 b2 h' => r2_post ok' g b1 b2 h' q
theorem pem_cst {k' : Cs} {v : Const} {j : Nat} {pos : Pos} (h : (match k', v with
      | .non, .none => true
      | .bl b, .bool b' => b == b'
      | .int i, .int i' => decide (i = i')
      | .str x, .str x' => x == x'
      | _, _ => false) = true) : PEm Γ k (.cst k') c (.Constant v j pos) := by
  intro X Wx xo
  split at h
  · exact ⟨_, pe_non, fun W H σ ρ Q QX Post ok eo h xp q => by rw [WE] at h; exact q _ _ (.now ok .non h)⟩
  · rw [eq_of_beq h]
    exact ⟨_, pe_bl, fun W H σ ρ Q QX Post ok eo h xp q => by rw [WE] at h; exact q _ _ (.now ok (.bl _) h)⟩
  · rw [of_decide_eq_true h]
    exact ⟨_, pe_int, fun W H σ ρ Q QX Post ok eo h xp q => by rw [WE] at h; exact q _ _ (.now ok (.int _) h)⟩
  · rw [eq_of_beq h]
    exact ⟨_, pe_str, fun W H σ ρ Q QX Post ok eo h xp q => by rw [WE] at h; exact q _ _ (.now ok (.str _) h)⟩
  · cases h
theorem pem_gint {x : Str} {i : Int} {pos : Pos} (hg : glb c x = true) (hi : Γ.gints.contains (x, i) = true) : PEm Γ k (.gint x i) c (.Name x pos) := by
  intro X Wx xo
  obtain ⟨g, hd, _⟩ := glb_ok xo hg
  obtain ⟨t, hm⟩ := xo.g.gi x i (List.contains_iff_mem.mp hi)
  exact ⟨_, pe_glob (v := .int i) g hm ⟨t, rfl⟩ hd, fun W H σ ρ Q QX Post ok eo h xp q => by rw [WE] at h; exact q _ _ (.now ok (.int _) h)⟩
theorem atI_map {α β : Type} (f : α → β) (xs : List α) (i : Int) : atI (xs.map f) i = (atI xs i).map f := by
  unfold atI
  rw [List.length_map]
  cases ixN xs.length i with
  | none => rfl
  | some j => exact List.getElem?_map
theorem idx_tup {xs : List D} {d : D} {Q : QS} (h : idxW (.tup xs) d Q) : ∃ i, d = .int i ∧ optW (atI xs i) Q := by
  cases d with
  | int i => exact ⟨i, rfl, h⟩
  | _ => exact h.elim
theorem pem_gtup {x : Str} {ns : List Int} {a : ME} {ea : Expr} {p pos : Pos} (hg : glb c x = true) (hi : Γ.gtups.contains (x, ns) = true) (hs : isSlice ea = false) (ha : PAm Γ k a c ea) : PEm Γ k (.gtup x ns a) c (.Subscript (.Name x p) ea pos) := by
  intro X Wx xo
  obtain ⟨g, hd, _⟩ := glb_ok xo hg
  obtain ⟨b, hm, hq⟩ := xo.g.gt x ns (List.contains_iff_mem.mp hi)
  obtain ⟨t, pt, ht⟩ := ha X Wx xo
  refine ⟨_, pe_ix ix_tup (pe_glob (v := .ref b) g hm rfl hd) pt (plain_ix hs), fun W H σ ρ Q QX Post ok eo h xp q => ?_⟩
  rw [WE] at h
  refine ht W H σ ρ _ QX _ ok eo h xp fun y H1 ⟨W1, d, ok1, g1, b1, h1⟩ => ?_
  obtain ⟨i, rfl, h2⟩ := idx_tup h1
  cases bd_int b1
  obtain ⟨d', e1, h2⟩ := optW_some h2
  rw [atI_map] at e1
  obtain ⟨n, en, rfl⟩ := Option.map_eq_some_iff.mp e1
  exact ⟨b, ns.map V.int, _, .int n, rfl, rfl, hq H1, by rw [atI_map, en]; rfl, q _ _ (Out.after ok1 g1 (.now ok1 (.int _) h2))⟩
theorem pem_neg {a : ME} {ea : Expr} {pos : Pos} (ha : PAm Γ k a c ea) : PEm Γ k (.neg a) c (.UnaryOp .USub ea pos) := by
  intro X Wx xo
  obtain ⟨t, pt, ht⟩ := ha X Wx xo
  refine ⟨_, pe_un u_neg pt, fun W H σ ρ Q QX Post ok eo h xp q => ?_⟩
  rw [WE] at h
  exact ht W H σ ρ _ QX _ ok eo h xp fun y H1 ⟨W1, d, ok1, g1, b1, h1⟩ => ⟨W1, d, Q, ok1, b1, h1, fun v H' o => q v H' (o.after ok1 g1)⟩
end
end PL

namespace PL
open PySem PySem.Spec PyProof.Rows L2
section
variable {Γ : Tab} {k : Nat} {c : CC} {X : Cx} {Wx : WX} {e : Expr} {es : List Expr} {me : ME} {mes : List ME}
/-! ### rows of operands, of items -/
theorem pas_nil : PAs Γ k [] c [] := by
  intro X Wx xo
  refine ⟨tNil, pa_nil, fun W H σ ρ Q QX Post ok eo h xp q => ?_⟩
  rw [WAs] at h
  exact q [] W H [] ok (.refl _ _) .nil h
theorem pas_cons (hs : star e = false) (h1 : PAm Γ k me c e) (h2 : PAs Γ k mes c es) : PAs Γ k (me :: mes) c (e :: es) := by
  intro X Wx xo
  obtain ⟨ta, pa, qa⟩ := h1 X Wx xo
  obtain ⟨tb, pb, qb⟩ := h2 X Wx xo
  refine ⟨tCons ta tb, pa_cons pa pb (star_cons hs _), fun W H σ ρ Q QX Post ok eo h xp q => ?_⟩
  rw [WAs] at h
  refine qa W H σ ρ _ QX _ ok eo h xp fun x H1 ⟨W1, d, ok1, g1, b1, h1⟩ => ?_
  refine qb W1 H1 σ ρ _ QX _ ok1 (eo.grow g1) h1 (xp.grow ok1 g1) fun vs W2 H2 ds ok2 g2 b2 h2 => ?_
  exact q _ W2 H2 _ ok2 (g1.trans g2 ok1) (.cons (b1.grow g2) b2) h2
theorem pls_nil : PLs Γ k [] c [] := by
  intro X Wx xo
  refine ⟨tNil, pa_nil, fun W H σ ρ Q QX Post ok eo h xp q => ?_⟩
  rw [WLs] at h
  exact q [] W H [] ok (.refl _ _) .nil h
theorem pls_cons (hs : star e = false) (h1 : PEm Γ k me c e) (h2 : PLs Γ k mes c es) : PLs Γ k (me :: mes) c (e :: es) := by
  intro X Wx xo
  obtain ⟨ta, pa, qa⟩ := h1 X Wx xo
  obtain ⟨tb, pb, qb⟩ := h2 X Wx xo
  refine ⟨tCons ta tb, pa_cons pa pb (star_cons hs _), fun W H σ ρ Q QX Post ok eo h xp q => ?_⟩
  rw [WLs] at h
  refine qa W H σ ρ _ QX _ ok eo h xp fun x H1 o => ?_
  obtain ⟨W1, d, ok1, g1, b1, h1⟩ := Out.toD (Q := fun d => WLs Γ mes ρ (fun ds => Q (d :: ds)) QX) o
  refine qb W1 H1 σ ρ _ QX _ ok1 (eo.grow g1) h1 (xp.grow ok1 g1) fun vs W2 H2 ds ok2 g2 b2 h2 => ?_
  exact q _ W2 H2 _ ok2 (g1.trans g2 ok1) (.cons (b1.le g2.le) b2) h2

/-! ### displays -/
theorem pem_tup {n : Nat} {pos : Pos} (h : PLs Γ k mes c es) : PEm Γ k (.tup mes) c (.Tuple es n pos) := by
  intro X Wx xo
  obtain ⟨t, pt, ht⟩ := h X Wx xo
  refine ⟨_, pe_tup pt, fun W H σ ρ Q QX Post ok eo h xp q => ?_⟩
  rw [WE] at h
  refine ht W H σ ρ _ QX _ ok eo h xp fun vs W' H' ds ok' g b h' => ?_
  refine ⟨by rw [b.length, lim_eq]; exact h'.1, fun p np => q _ _ ((Out.newT ok' np b h'.2).after ok' g)⟩
theorem pem_lst {pos : Pos} (h : PLs Γ k mes c es) : PEm Γ k (.lst mes) c (.List es pos) := by
  intro X Wx xo
  obtain ⟨t, pt, ht⟩ := h X Wx xo
  refine ⟨_, pe_lst pt, fun W H σ ρ Q QX Post ok eo h xp q => ?_⟩
  rw [WE] at h
  refine ht W H σ ρ _ QX _ ok eo h xp fun vs W' H' ds ok' g b h' => ?_
  refine ⟨by rw [b.length, lim_eq]; exact h'.1, fun p np => q _ _ ((Out.newL ok' np b h'.2).after ok' g)⟩

/-! ### calls -/
theorem bi_ok (xo : XOk Γ k c X Wx) (hc : X.calm = true) (b : Bi) (hf : b.nm ∈ Γ.frees) : (∃ id, CallR X (.builtin id) (RnD X (biW b)) ∧ bootBuiltins b.nm = some (.builtin id)) ∨ (∃ T, CallR X (.type T) (RnD X (biW b)) ∧ bootBuiltins b.nm = some (.type T)) := by
  have hu := xo.rm66
  cases b
  · exact .inl ⟨_, c_len, PySem.boot_len⟩
  · exact .inl ⟨_, c_abs, by decide +kernel⟩
  · exact .inr ⟨_, c_int, by decide +kernel⟩
  · exact .inl ⟨_, c_max hc hu, by decide +kernel⟩
  · exact .inl ⟨_, c_min hc, by decide +kernel⟩
  · exact .inl ⟨_, c_sum hc, by decide +kernel⟩
  · exact .inl ⟨_, c_all hc, by decide +kernel⟩
  · exact .inl ⟨_, c_any hc, by decide +kernel⟩
  · exact .inr ⟨_, c_list, by decide +kernel⟩
  · exact .inr ⟨_, c_tuple, by decide +kernel⟩
  · exact .inr ⟨_, c_str, by decide +kernel⟩
  · exact .inl ⟨_, c_sorted hu, by decide +kernel⟩
  · exact .inl ⟨_, c_repr hu (xo.gd hf), by decide +kernel⟩
theorem pem_cal {b : Bi} {x : Str} {p pos : Pos} (hcm : c.calm = true) (hx : x = b.nm) (hg : glb c x = true) (hf : x ∈ Γ.frees) (hs : (es.all fun e => !star e) = true) (hne : es ≠ []) (h : PAs Γ k mes c es) : PEm Γ k (.cal b mes) c (.Call (.Name x p) es [] pos) := by
  intro X Wx xo
  obtain ⟨g, hd, hn⟩ := glb_ok xo hg
  obtain ⟨t, pt, ht⟩ := h X Wx xo
  have hm := xo.g.fr x hf
  cases es with
  | nil => exact absurd rfl hne
  | cons e es =>
    have hs2 := hs
    rw [List.all_cons, Bool.and_eq_true, Bool.not_eq_true'] at hs2
    have fin : ∀ (W : Wd) (H : Hp) (σ : L2.St) (ρ : Env) (Q : QS) (QX : QX) (Post : VK), W.Ok H → EnvOk X.K X.mg W H σ ρ → WE Γ (.cal b mes) ρ Q QX → XPost X Wx W H σ QX → (∀ v H', Out X.K X.mg W H Q v H' → Post v H') → tCB (RnD X (biW b)) t σ H Post := by
      intro W H σ ρ Q QX Post ok eo h xp q
      rw [WE] at h
      exact ht W H σ ρ _ QX _ ok eo h xp fun vs W' H' ds ok' g b h' => ⟨W', ds, Q, ok', b, h', fun v H'' o => q v H'' (o.after ok' g)⟩
    rcases bi_ok xo (xo.calm hcm) b (hx ▸ hf) with ⟨id, hc, hv⟩ | ⟨T, hc, hv⟩
    · exact ⟨_, pe_callB hc g hm (by rw [hx]; exact hv) pt hn hd (star_cons hs2.1 _) (noStar_any _ hs2.2), fin⟩
    · exact ⟨_, pe_callTy hc g hm (by rw [hx]; exact hv) pt hn hd (star_cons hs2.1 _) (noStar_any _ hs2.2), fin⟩
theorem boot_tys {T : String} (h : ["bool", "int", "str", "list", "tuple", "dict"].contains T = true) : T ∈ tys ∧ bootBuiltins (Str.ofString T) = some (.type T) := by
  have h := List.contains_iff_mem.mp h
  simp only [List.mem_cons, List.not_mem_nil, or_false] at h
  rcases h with rfl | rfl | rfl | rfl | rfl | rfl <;> exact ⟨by decide, by decide +kernel⟩
theorem pem_isi {T : String} {x y : Str} {a : ME} {ea : Expr} {p p2 pos : Pos} (hx : x = ("isinstance" : Str)) (hg : glb c x = true) (hf : x ∈ Γ.frees) (hy : y = Str.ofString T) (hgy : glb c y = true) (hfy : y ∈ Γ.frees)
    (hT : ["bool", "int", "str", "list", "tuple", "dict"].contains T = true) (hs : star ea = false) (h : PAm Γ k a c ea) : PEm Γ k (.isi T a) c (.Call (.Name x p) [ea, .Name y p2] [] pos) := by
  intro X Wx xo
  obtain ⟨g, hd, hn⟩ := glb_ok xo hg
  obtain ⟨gy, hdy, hny⟩ := glb_ok xo hgy
  obtain ⟨t, pt, ht⟩ := h X Wx xo
  obtain ⟨hTm, hb⟩ := boot_tys hT
  have hm := xo.g.fr x hf
  have hmy := xo.g.fr y hfy
  subst hx hy
  refine ⟨_, pe_callB (c_isi T hTm) g hm (by decide +kernel) (pa_cons pt (pa_cons (pe_bltn (v := .ty T) gy hmy hb rfl hny hdy) pa_nil rfl) (star_cons hs _)) hn hd (star_cons hs _) rfl, fun W H σ ρ Q QX Post ok eo h xp q => ?_⟩
  rw [WE] at h
  exact ht W H σ ρ _ QX _ ok eo h xp fun v H1 ⟨W1, d, ok1, g1, b1, h1⟩ => ⟨v, rfl, W1, [d], Q, ok1, .cons b1 .nil, h1, fun v H'' o => q v H'' (o.after ok1 g1)⟩
theorem pem_lset {a : ME} {x y : Str} {ea : Expr} {q1 q2 q3 q4 : Pos} (hcm : c.calm = true) (hx : x = ("len" : Str)) (hg : glb c x = true) (hf : x ∈ Γ.frees) (hy : y = ("set" : Str)) (hgy : glb c y = true) (hfy : y ∈ Γ.frees) (hs : star ea = false) (h : PAm Γ k a c ea) :
    PEm Γ k (.lset a) c (.Call (.Name x q1) [.Call (.Name y q2) [ea] [] q3] [] q4) := by
  intro X Wx xo
  obtain ⟨g, _, _⟩ := glb_ok xo hg
  obtain ⟨gy, _, _⟩ := glb_ok xo hgy
  obtain ⟨t, pt, ht⟩ := h X Wx xo
  have hm := xo.g.fr x hf
  have hmy := xo.g.fr y hfy
  subst hx hy
  refine ⟨_, pe_lset (xo.calm hcm) g hm gy hmy pt (star_cons hs _), fun W H σ ρ Q QX Post ok eo h xp q => ?_⟩
  rw [WE] at h
  refine ht W H σ ρ _ QX _ ok eo h xp fun v H1 ⟨W1, d, ok1, g1, b1, h1⟩ => ?_
  cases d with
  | lst xs =>
    obtain ⟨is, rfl, h2, h3⟩ := h1
    obtain ⟨o, vs, rfl, e, t⟩ := bd_lst ok1 b1
    have := den_int t
    subst this
    exact ⟨o, is, rfl, .of e, h2, q _ _ (Out.after ok1 g1 (.now ok1 (.int _) h3))⟩
  | _ => exact h1.elim
theorem pem_sset {a : ME} {x y : Str} {ea : Expr} {q1 q2 q3 q4 : Pos} (hcm : c.calm = true) (hx : x = ("sorted" : Str)) (hg : glb c x = true) (hf : x ∈ Γ.frees) (hy : y = ("set" : Str)) (hgy : glb c y = true) (hfy : y ∈ Γ.frees) (hs : star ea = false) (h : PAm Γ k a c ea) :
    PEm Γ k (.sset a) c (.Call (.Name x q1) [.Call (.Name y q2) [ea] [] q3] [] q4) := by
  intro X Wx xo
  obtain ⟨g, _, _⟩ := glb_ok xo hg
  obtain ⟨gy, _, _⟩ := glb_ok xo hgy
  obtain ⟨t, pt, ht⟩ := h X Wx xo
  have hm := xo.g.fr x hf
  have hmy := xo.g.fr y hfy
  subst hx hy
  refine ⟨_, pe_sset (xo.calm hcm) g hm gy hmy pt (star_cons hs _), fun W H σ ρ Q QX Post ok eo h xp q => ?_⟩
  rw [WE] at h
  refine ht W H σ ρ _ QX _ ok eo h xp fun v H1 ⟨W1, d, ok1, g1, b1, h1⟩ => ?_
  cases d with
  | tup xs =>
    obtain ⟨is, rfl, h2, h3⟩ := h1
    obtain ⟨o, vs, rfl, e, _, t⟩ := bd_tup ok1 b1
    have := den_int t
    subst this
    exact ⟨o, is, rfl, .inl (.of e), h2, fun p ns np h4 h5 => q _ _ (Out.after ok1 g1 (.newL ok1 np (DenAll.ints ns) (h3 ns h4 h5)))⟩
  | _ => exact h1.elim
theorem attr_base {o : Expr} {m : Str} (h : plainB o = true) (X : Cx) : attributeBase o m X.env (eval o X.env) = eval o X.env := by
  unfold attributeBase
  split
  · cases h
  · rfl
theorem few_all {es : List Expr} {env : PySem.Env} {cpos : Pos} (hs : (es.all fun e => !star e) = true) (hl : es.length < 30) : ((backTo cpos (starEach es env)).all (fun x => !x.1) && (backToKw cpos (keywordEach [] env)).all (fun x => x.1.isSome)
      && decide (es.length + ([] : List Keyword).length + (if ([] : List Keyword).isEmpty then 0 else 1) < 30)) = true := by
  have h1 : (backTo cpos (starEach es env)).all (fun x => !x.1) = true := by
    have := noStar_any (pos := cpos) env hs
    rw [List.all_eq_true]
    intro x hx
    rw [List.any_eq_false] at this
    have := this x hx
    cases hxx : x.1 with
    | false => rfl
    | true => exact absurd hxx this
  rw [h1]
  have h2 : (backToKw cpos (keywordEach [] env)).all (fun x => x.1.isSome) = true := rfl
  rw [h2]
  exact decide_eq_true hl
theorem pem_mth {m : Mt} {a : ME} {x : Str} {o : Expr} {apos cpos : Pos} (hx : x = m.nm) (hl : (apos.endLine == cpos.line) = true) (hb : plainB o = true) (hne : es ≠ []) (hl30 : es.length < 30) (hs : (es.all fun e => !star e) = true) (ha : PAm Γ k a c o) (h : PLs Γ k mes c es) :
    PEm Γ k (.mth m a mes) c (.Call (.Attribute o x apos) es [] cpos) := by
  intro X Wx xo
  have hu := xo.rm66
  obtain ⟨ta, pa, hta⟩ := ha X Wx xo
  obtain ⟨t, pt, ht⟩ := h X Wx xo
  subst hx
  cases es with
  | nil => exact absurd rfl hne
  | cons e es =>
    have hs2 := hs
    rw [List.all_cons, Bool.and_eq_true, Bool.not_eq_true'] at hs2
    have fin : ∀ (W : Wd) (H : Hp) (σ : L2.St) (ρ : Env) (Q : QS) (QX : QX) (Post : VK), W.Ok H → EnvOk X.K X.mg W H σ ρ → WE Γ (.mth m a mes) ρ Q QX → XPost X Wx W H σ QX → (∀ v H', Out X.K X.mg W H Q v H' → Post v H') → tBM X.K m.ty (RmD X (mtW m)) ta t σ H Post := by
      intro W H σ ρ Q QX Post ok eo h xp q
      rw [WE] at h
      refine hta W H σ ρ _ QX _ ok eo h xp fun v H1 ⟨W1, d, ok1, g1, b1, h1, h2⟩ => ⟨mt_tyV ok1 b1 h1, ?_⟩
      refine ht W1 H1 σ ρ _ QX _ ok1 (eo.grow g1) h2 (xp.grow ok1 g1) fun vs W2 H2 ds ok2 g2 b2 h3 => ?_
      exact ⟨W2, d, ds, Q, ok2, b1.grow g2, b2, h3, fun v H'' o => q v H'' (o.after ok2 (g1.trans g2 ok1))⟩
    cases m with
    | get => exact ⟨_, pe_bm PySem.F.plainAttrs_dict PySem.F.slot_dict_get PySem.F.type_dict_get (mt_ok hu .get) pa pt (attr_base hb X) (few_all hs hl30) hl (star_cons hs2.1 _) (noStar_any _ hs2.2), fin⟩
    | index => exact ⟨_, pe_bm PySem.F.plainAttrs_list PySem.F.slot_list_index PySem.F.type_list_index (mt_ok hu .index) pa pt (attr_base hb X) (few_all hs hl30) hl (star_cons hs2.1 _) (noStar_any _ hs2.2), fin⟩
    | count => exact ⟨_, pe_bm PySem.F.plainAttrs_list PySem.F.slot_list_count PySem.F.type_list_count (mt_ok hu .count) pa pt (attr_base hb X) (few_all hs hl30) hl (star_cons hs2.1 _) (noStar_any _ hs2.2), fin⟩
theorem pem_calk {b : Bk} {a d : ME} {x kw : Str} {ea ed : Expr} {p kpos pos : Pos} (hcm : c.calm = true) (hx : x = b.nm) (hg : glb c x = true) (hf : x ∈ Γ.frees) (hk : kw = b.kw) (hs : star ea = false) (ha : PAm Γ k a c ea) (hd : PAm Γ k d c ed) :
    PEm Γ k (.calk b a d) c (.Call (.Name x p) [ea] [⟨some kw, ed, kpos⟩] pos) := by
  intro X Wx xo
  have hu := xo.rm66
  obtain ⟨g, hdb, hn⟩ := glb_ok xo hg
  obtain ⟨ta, tb, pa, pb, q2⟩ := two ha hd xo
  have hm := xo.g.fr x hf
  subst hx hk
  have fin : ∀ (W : Wd) (H : Hp) (σ : L2.St) (ρ : Env) (Q : QS) (QX : QX) (Post : VK), W.Ok H → EnvOk X.K X.mg W H σ ρ → WE Γ (.calk b a d) ρ Q QX → XPost X Wx W H σ QX → (∀ v H', Out X.K X.mg W H Q v H' → Post v H') → tCKw (RkD X (bkW b)) (tCons ta tNil) (tCons tb tNil) σ H Post := by
    intro W H σ ρ Q QX Post ok eo h xp q
    rw [WE] at h
    exact q2 W H σ ρ _ QX (fun x y H2 => RkD X (bkW b) [x] [y] H2 Post) ok eo h xp fun x y W' H' d d' ok' g b1 b2 h' => ⟨W', d, d', Q, ok', .cons b1 .nil, .cons b2 .nil, h', fun v H'' o => q v H'' (o.after ok' g)⟩
  cases b with
  | minD => exact ⟨_, pe_callBK (c_minD (xo.calm hcm) hu) g hm (by decide +kernel) (pa_cons pa pa_nil (star_cons hs _)) (pk_cons pb pk_nil) hn hdb (by show backTo pos (starEach [ea] X.env) = _; rw [star_cons hs]; rfl) (by rw [star_cons hs]; rfl) rfl rfl rfl, fin⟩
  | maxD => exact ⟨_, pe_callBK (c_maxD (xo.calm hcm) hu) g hm (by decide +kernel) (pa_cons pa pa_nil (star_cons hs _)) (pk_cons pb pk_nil) hn hdb (by show backTo pos (starEach [ea] X.env) = _; rw [star_cons hs]; rfl) (by rw [star_cons hs]; rfl) rfl rfl rfl, fin⟩
theorem pem_dnew {t : Bool} {pos : Pos} : PEm Γ k (.dnew t) c (.Dict [] [] pos) := by
  intro X Wx xo
  cases t with
  | false => exact ⟨_, pe_dnewK, fun W H σ ρ Q QX Post ok eo h xp q p np => q _ _ (.newK ok np .nil (by rw [WE] at h; exact h))⟩
  | true => exact ⟨_, pe_dnewT, fun W H σ ρ Q QX Post ok eo h xp q p np => q _ _ (.newDT ok np .nil (by rw [WE] at h; exact h))⟩
theorem pem_dis1 {a b : ME} {ka vb : Expr} {pos : Pos} (ha : PAm Γ k a c ka) (hb : PEm Γ k b c vb) : PEm Γ k (.dis1 a b) c (.Dict [some ka] [vb] pos) := by
  intro X Wx xo
  obtain ⟨ta, pa, hta⟩ := ha X Wx xo
  obtain ⟨tb, pb, htb⟩ := hb X Wx xo
  refine ⟨_, pe_disp (pps_cons pa pb pps_nil) rfl rfl (by simp) (by simp), fun W H σ ρ Q QX Post ok eo h xp q p np => ?_⟩
  rw [WE] at h
  have ok0 : W.Ok (upd H p (.dK [])) := ok.new np
  have g0 : Grow W H W (upd H p (.dK [])) := .new np
  refine hta W _ σ ρ _ QX _ ok0 (eo.grow g0) h (xp.grow ok0 g0) fun x H1 ⟨W1, d, ok1, g1, b1, h1, h⟩ => ?_
  refine htb W1 H1 σ ρ _ QX _ ok1 ((eo.grow g0).grow g1) h ((xp.grow ok0 g0).grow ok1 g1) fun y H2 o => ?_
  obtain ⟨W2, d2, ok2, g2, dn2, h⟩ := Out.toD (Q := fun z => Q (.ownd false [(d, z)])) o
  obtain ⟨κ, rfl⟩ := isKey_kD h1
  cases den_kD b1
  have gg : Grow W (upd H p (.dK [])) W2 H2 := g1.trans g2 ok1
  have fr0 : W.free p := ok.free_new np
  have hp2 : H2 p = some (.dK []) := gg.same _ _ upd_same fr0.2
  have fr2 : W2.free p := gg.free fr0 (by rw [upd_same]; intro z; cases z)
  refine ⟨hp2, [(κ, y)], rfl, by simp, q _ _ ?_⟩
  have e : mergeK [] [(κ, y)] = [(κ, y)] := rfl
  rw [e]
  refine ⟨W2, .ownd false [(kD κ, d2)], ok2.put fr2, ?_, ⟨p, _, rfl, upd_same, fr2, .cons dn2 .nil⟩, (fun _ a e => by cases e; exact np), h⟩
  exact (g0.trans gg ok0).put np
theorem pem_rev {a : ME} {ea : Expr} {j : Nat} {p1 p2 p3 pos : Pos} (ha : PAm Γ k a c ea) : PEm Γ k (.rev a) c (.Subscript ea (.Slice none none (some (.UnaryOp .USub (.Constant (.int 1) j p1) p2)) p3) pos) := by
  intro X Wx xo
  obtain ⟨t, pt, ht⟩ := ha X Wx xo
  refine ⟨_, pe_revL pt, fun W H σ ρ Q QX Post ok eo h xp q => ?_⟩
  rw [WE] at h
  refine ht W H σ ρ _ QX _ ok eo h xp fun v H1 ⟨W1, d, ok1, g1, b1, h1⟩ => ?_
  cases d with
  | lst xs =>
    obtain ⟨o, vs, rfl, e, t⟩ := bd_lst ok1 b1
    exact ⟨o, vs, rfl, .of e, fun p np => q _ _ (Out.after ok1 g1 (.newL ok1 np t.reverse h1))⟩
  | _ => exact h1.elim
theorem pem_call {f x : Str} {p pos : Pos} (hx : x = f) (hsm : (Γ.sp f).isSome = true) (hg : glb c x = true) (hs : (es.all fun e => !star e) = true) (hne : es ≠ []) (h : PLs Γ k mes c es) : PEm Γ k (.call f mes) c (.Call (.Name x p) es [] pos) := by
  intro X Wx xo
  obtain ⟨g, hd, hn⟩ := glb_ok xo hg
  obtain ⟨t, pt, ht⟩ := h X Wx xo
  cases es with
  | nil => exact absurd rfl hne
  | cons e es =>
    have hs2 := hs
    rw [List.all_cons, Bool.and_eq_true, Bool.not_eq_true'] at hs2
    obtain ⟨sp, hsp⟩ := Option.isSome_iff_exists.mp hsm
    obtain ⟨a, fd, ps, F, hm, hk, hb⟩ := xo.g.fn f sp hsp
    refine ⟨_, pe_callS F xo.rm g (by rw [hx]; exact hm) hk hb (passAt xo.tk) pt hd (star_cons hs2.1 _) (noStar_any _ hs2.2), fun W H σ ρ Q QX Post ok eo h xp q => ?_⟩
    rw [WE] at h
    refine ht W H σ ρ _ QX _ ok eo h xp fun vs W' H' ds ok' g b h' => ?_
    unfold fnW at h'
    rw [hsp] at h'
    refine ⟨W', ds, Q, QX, ok', b, h', fun v H'' o => q v H'' (o.after ok' g), fun ex W2 H2 cls d ok2 g2 e2 q2 => xp ex W2 H2 cls d ok2 (g.trans g2 ok') e2 q2⟩
mutual
theorem Den.noG {K : PySem.W.Frag} {mg : Str → Option Value} {F : Hp} {gs gs' : List Gd} : ∀ {v : V} {d : D}, Den K mg ⟨F, gs⟩ v d → noG d = true → Den K mg ⟨F, gs'⟩ v d
  | _, _, .non, _ => .non
  | _, _, .bl b, _ => .bl b
  | _, _, .int i, _ => .int i
  | _, _, .str x, _ => .str x
  | _, _, .lst e t, h => .lst e (DenAll.noG t (by rw [PL.noG] at h; exact h))
  | _, _, .tup e t, h => .tup e (DenAll.noG t (by rw [PL.noG] at h; exact h))
  | _, _, .scr e, _ => .scr e
  | _, _, .dic e t, h => .dic e (DenK.noG t (by rw [PL.noG] at h; exact h))
  | _, _, .dit e t, h => .dit e (DenT.noG t (by rw [PL.noG] at h; exact h))
  | _, _, .obj e m t, h => .obj e m (DenF.noG t (by rw [PL.noG] at h; exact h))
  | _, _, .g e k, h => by rw [PL.noG] at h; cases h
theorem DenAll.noG {K : PySem.W.Frag} {mg : Str → Option Value} {F : Hp} {gs gs' : List Gd} : ∀ {v : List V} {d : List D}, DenAll K mg ⟨F, gs⟩ v d → noGs d = true → DenAll K mg ⟨F, gs'⟩ v d
  | _, _, .nil, _ => .nil
  | _, _, .cons a b, h => by
    rw [noGs, Bool.and_eq_true] at h
    exact .cons (Den.noG a h.1) (DenAll.noG b h.2)
theorem DenK.noG {K : PySem.W.Frag} {mg : Str → Option Value} {F : Hp} {gs gs' : List Gd} : ∀ {v : List (Key × V)} {d : List (D × D)}, DenK K mg ⟨F, gs⟩ v d → noGk d = true → DenK K mg ⟨F, gs'⟩ v d
  | _, _, .nil, _ => .nil
  | _, _, .cons a b, h => by
    rw [noGk, Bool.and_eq_true] at h
    exact .cons (Den.noG a h.1) (DenK.noG b h.2)
theorem DenT.noG {K : PySem.W.Frag} {mg : Str → Option Value} {F : Hp} {gs gs' : List Gd} : ∀ {v : List (List Key × V)} {d : List (D × D)}, DenT K mg ⟨F, gs⟩ v d → noGk d = true → DenT K mg ⟨F, gs'⟩ v d
  | _, _, .nil, _ => .nil
  | _, _, .cons a b, h => by
    rw [noGk, Bool.and_eq_true] at h
    exact .cons (Den.noG a h.1) (DenT.noG b h.2)
theorem DenF.noG {K : PySem.W.Frag} {mg : Str → Option Value} {F : Hp} {gs gs' : List Gd} : ∀ {v : List (Str × V)} {d : List (Str × D)}, DenF K mg ⟨F, gs⟩ v d → noGf d = true → DenF K mg ⟨F, gs'⟩ v d
  | _, _, .nil, _ => .nil
  | _, _, .cons a b, h => by
    rw [noGf, Bool.and_eq_true] at h
    exact .cons (Den.noG a h.1) (DenF.noG b h.2)
end
theorem Den.scal {K : PySem.W.Frag} {mg : Str → Option Value} {W W' : Wd} {v : V} {d : D} (h : Den K mg W v d) (s : scal d = true) : Den K mg W' v d := by
  cases h with
  | non => exact .non
  | bl b => exact .bl b
  | int i => exact .int i
  | str x => exact .str x
  | _ => cases s
theorem DenAll.scal {K : PySem.W.Frag} {mg : Str → Option Value} {W W' : Wd} : ∀ {v : List V} {d : List D}, DenAll K mg W v d → d.all PL.scal = true → DenAll K mg W' v d
  | _, _, .nil, _ => .nil
  | _, _, .cons a b, h => by
    rw [List.all_cons, Bool.and_eq_true] at h
    exact .cons (a.scal h.1) (b.scal h.2)
theorem DenF.scal {K : PySem.W.Frag} {mg : Str → Option Value} {W W' : Wd} : ∀ {v : List (Str × V)} {d : List (Str × D)}, DenF K mg W v d → (d.all fun p => PL.scal p.2) = true → DenF K mg W' v d
  | _, _, .nil, _ => .nil
  | _, _, .cons a b, h => by
    rw [List.all_cons, Bool.and_eq_true] at h
    exact .cons (a.scal h.1) (b.scal h.2)
/-- what is held as one's own is lent, as frozen data -/
def Lent (F0 F : Hp) : Prop := ∀ a, F0 a = none → F a ≠ none → (∃ xs, F a = some (.lst xs)) ∨ (∃ kvs, F a = some (.dK kvs)) ∨ ∃ kvs, F a = some (.dT kvs)
theorem lend {W : Wd} {H : Hp} (ok : W.Ok H) : ∀ {vs : List V} {ds : List D}, BAll X.K X.mg W H vs ds → ∃ F, Same W.fz F ∧ Lent W.fz F ∧ (Wd.mk F W.gs).Ok H ∧ DenAll X.K X.mg ⟨F, W.gs⟩ vs ds
  | _, _, .nil => ⟨W.fz, Same.refl _, (fun a h k => absurd h k), ok, .nil⟩
  | _, _, .cons (v := v) (d := d) ⟨s, hs, hd⟩ b => by
    obtain ⟨F, sm, le, okF, db⟩ := lend ok b
    subst hd
    have put : ∀ (o : Addr) (u : HO), H o = some u → W.free o → ((∃ xs, u = .lst xs) ∨ (∃ kvs, u = .dK kvs) ∨ ∃ kvs, u = .dT kvs) → ∃ F2, Same F F2 ∧ Lent W.fz F2 ∧ F2 o = some u ∧ (Wd.mk F2 W.gs).Ok H := fun o u e fr hu => by
      by_cases hF : F o = none
      · have s2 : Same F (upd F o u) := fun b x q => by
          have hb : b ≠ o := fun z => by rw [z, hF] at q; cases q
          rw [upd_ne hb]; exact q
        refine ⟨upd F o u, s2, fun a h k => ?_, upd_same, ⟨fun b x q => ?_, fun g hg => g.mono _ _ _ s2 (okF.inv g hg), fun g hg a ha => ?_, okF.pw⟩⟩
        · by_cases ha : a = o
          · subst ha
            rw [upd_same]
            rcases hu with ⟨xs, rfl⟩ | ⟨kvs, rfl⟩ | ⟨kvs, rfl⟩
            · exact .inl ⟨_, rfl⟩
            · exact .inr (.inl ⟨_, rfl⟩)
            · exact .inr (.inr ⟨_, rfl⟩)
          · rw [upd_ne ha] at k ⊢
            exact le a h k
        · by_cases hb : b = o
          · subst hb
            have q2 : upd F b u b = some x := q
            rw [upd_same] at q2
            rw [e, q2]
          · have q2 : upd F o u b = some x := q
            rw [upd_ne hb] at q2
            exact okF.sub b x q2
        · have hn : a ≠ o := fun z => fr.2 g hg (z ▸ ha)
          show upd F o u a = none
          rw [upd_ne hn]
          exact okF.dj g hg a ha
      · cases hz : F o with
        | none => exact absurd hz hF
        | some x =>
          have := okF.sub o x hz
          rw [e] at this
          cases this
          exact ⟨F, Same.refl _, le, hz, okF⟩
    have up : ∀ {F2 : Hp}, Same F F2 → (Wd.mk F W.gs).Le ⟨F2, W.gs⟩ := fun s => ⟨s, [], by simp⟩
    have upW : ∀ {F2 : Hp}, Same F F2 → W.Le ⟨F2, W.gs⟩ := fun s => ⟨sm.trans s, [], by simp⟩
    cases s with
    | val d => exact ⟨F, sm, le, okF, .cons (Den.le (upW (Same.refl _)) hs) db⟩
    | own xs =>
      obtain ⟨o, ws, rfl, e, fr, t⟩ := hs
      obtain ⟨F2, s2, l2, eF, ok2⟩ := put o _ e fr (.inl ⟨_, rfl⟩)
      exact ⟨F2, sm.trans s2, l2, ok2, .cons (.lst eF (t.le (upW s2))) (db.le (up s2))⟩
    | ownd t kvs =>
      cases t with
      | false =>
        obtain ⟨o, ws, rfl, e, fr, t⟩ := hs
        obtain ⟨F2, s2, l2, eF, ok2⟩ := put o _ e fr (.inr (.inl ⟨_, rfl⟩))
        exact ⟨F2, sm.trans s2, l2, ok2, .cons (.dic eF (t.le (upW s2))) (db.le (up s2))⟩
      | true =>
        obtain ⟨o, ws, rfl, e, fr, t⟩ := hs
        obtain ⟨F2, s2, l2, eF, ok2⟩ := put o _ e fr (.inr (.inr ⟨_, rfl⟩))
        exact ⟨F2, sm.trans s2, l2, ok2, .cons (.dit eF (t.le (upW s2))) (db.le (up s2))⟩
/-- the frozen part without what was lent -/
def unlent (F0 F F' : Hp) : Hp := fun a => match F0 a, F a with
  | none, some _ => none
  | _, _ => F' a
theorem unlent_some {F0 F F' : Hp} {a : Addr} {x : HO} (h : unlent F0 F F' a = some x) : F' a = some x ∧ (F0 a = none → F a = none) := by
  unfold unlent at h
  cases h0 : F0 a with
  | none =>
    cases h1 : F a with
    | none => rw [h0, h1] at h; exact ⟨h, fun _ => rfl⟩
    | some y => rw [h0, h1] at h; cases h
  | some z => rw [h0] at h; exact ⟨h, fun k => by cases k⟩
theorem unlent_of {F0 F F' : Hp} {a : Addr} (h : F0 a = none → F a = none) : unlent F0 F F' a = F' a := by
  unfold unlent
  cases h0 : F0 a with
  | none => rw [h h0]
  | some z => rfl
/-- back from the world in which lists were lent -/
theorem back {W : Wd} {H : Hp} (ok : W.Ok H) {F : Hp} (sm : Same W.fz F) {W' : Wd} {H' : Hp} (ok' : W'.Ok H') (g : Grow ⟨F, W.gs⟩ H W' H') : (Wd.mk (unlent W.fz F W'.fz) W'.gs).Ok H' ∧ Grow W H ⟨unlent W.fz F W'.fz, W'.gs⟩ H' := by
  refine ⟨⟨fun b x q => ok'.sub b x (unlent_some q).1, fun gd hg => ?_, fun gd hg a ha => ?_, ok'.pw⟩, ⟨⟨fun a x e => ?_, g.le.gs⟩, g.same, fun a h1 h2 => ?_, g.newg⟩⟩
  · have := ok'.inv gd hg
    rcases gd.wf with ⟨_, c, _, _, hi⟩ | ⟨_, _, hi⟩
    · exact (hi _ _).mpr ((hi _ _).mp this)
    · exact (hi _ _).mpr ((hi _ _).mp this)
  · cases z : unlent W.fz F W'.fz a with
    | none => exact z
    | some x =>
      have := (unlent_some z).1
      rw [ok'.dj gd hg a ha] at this
      cases this
  · show unlent W.fz F W'.fz a = some x
    rw [unlent_of fun z => by rw [z] at e; cases e]
    exact g.le.fz a x (sm a x e)
  · cases z : unlent W.fz F W'.fz a with
    | none => exact absurd z h1
    | some x =>
      obtain ⟨k1, k2⟩ := unlent_some z
      exact g.newf a (by intro q; rw [k1] at q; cases q) (k2 h2)
mutual
theorem Den.unlent {K : PySem.W.Frag} {mg : Str → Option Value} {F0 F : Hp} {W' : Wd} (le : Lent F0 F) (sm : Same F W'.fz) : ∀ {v : V} {d : D}, Den K mg W' v d → noL d = true → Den K mg ⟨PL.unlent F0 F W'.fz, W'.gs⟩ v d
  | _, _, .non, _ => .non
  | _, _, .bl b, _ => .bl b
  | _, _, .int i, _ => .int i
  | _, _, .str x, _ => .str x
  | _, _, .lst e t, h => by simp [noL] at h
  | _, _, .tup (a := a) e t, h => by
    refine .tup ?_ (DenAll.unlent le sm t (by rw [noL] at h; exact h))
    show PL.unlent F0 F W'.fz a = _
    rw [unlent_of fun z => ?_]
    · exact e
    · cases q : F a with
      | none => rfl
      | some y =>
        have e2 := sm a y q
        rw [e] at e2
        rcases le a z (by rw [q]; intro k; cases k) with ⟨xs, k⟩ | ⟨xs, k⟩ | ⟨xs, k⟩
        all_goals
          rw [q] at k
          cases k
          cases e2
  | _, _, .scr e, h => by simp [noL] at h
  | _, _, .dic e t, h => by simp [noL] at h
  | _, _, .dit e t, h => by simp [noL] at h
  | _, _, .obj e m t, h => by simp [noL] at h
  | _, _, .g e k, _ => .g e k
theorem DenAll.unlent {K : PySem.W.Frag} {mg : Str → Option Value} {F0 F : Hp} {W' : Wd} (le : Lent F0 F) (sm : Same F W'.fz) : ∀ {v : List V} {d : List D}, DenAll K mg W' v d → noLs d = true → DenAll K mg ⟨PL.unlent F0 F W'.fz, W'.gs⟩ v d
  | _, _, .nil, _ => .nil
  | _, _, .cons a b, h => by
    rw [noLs, Bool.and_eq_true] at h
    exact .cons (Den.unlent le sm a h.1) (DenAll.unlent le sm b h.2)
end
theorem Out.back {W : Wd} {H : Hp} (ok : W.Ok H) {F : Hp} (sm : Same W.fz F) (le : Lent W.fz F) {Q : QS} {v : V} {H' : Hp} (h : Out X.K X.mg ⟨F, W.gs⟩ H (fun r => tupR r = true ∧ Q r) v H') : Out X.K X.mg W H Q v H' := by
  obtain ⟨W', r, ok', g, s, f, hf, q⟩ := h
  obtain ⟨o2, g2⟩ := PL.back ok sm ok' g
  refine ⟨_, r, o2, g2, ?_, f, q⟩
  cases r with
  | val d => exact Den.unlent le g.le.fz s hf
  | own xs =>
    obtain ⟨o, vs, rfl, e, fr, t⟩ := s
    refine ⟨o, vs, rfl, e, ⟨?_, fr.2⟩, DenAll.unlent le g.le.fz t hf⟩
    cases z : unlent W.fz F W'.fz o with
    | none => exact z
    | some x =>
      have := (unlent_some z).1
      rw [fr.1] at this
      cases this
  | ownd t kvs => cases hf
theorem pem_callb {f x : Str} {p pos : Pos} (hx : x = f) (hsm : (Γ.sp f).isSome = true) (hg : glb c x = true) (hs : (es.all fun e => !star e) = true) (hne : es ≠ []) (h : PAs Γ k mes c es) : PEm Γ k (.callb f mes) c (.Call (.Name x p) es [] pos) := by
  intro X Wx xo
  obtain ⟨g, hd, hn⟩ := glb_ok xo hg
  obtain ⟨t, pt, ht⟩ := h X Wx xo
  cases es with
  | nil => exact absurd rfl hne
  | cons e es =>
    have hs2 := hs
    rw [List.all_cons, Bool.and_eq_true, Bool.not_eq_true'] at hs2
    obtain ⟨sp, hsp⟩ := Option.isSome_iff_exists.mp hsm
    obtain ⟨a, fd, ps, F, hm, hk, hb⟩ := xo.g.fn f sp hsp
    refine ⟨_, pe_callS F xo.rm g (by rw [hx]; exact hm) hk hb (passAt xo.tk) pt hd (star_cons hs2.1 _) (noStar_any _ hs2.2), fun W H σ ρ Q QX Post ok eo h xp q => ?_⟩
    rw [WE] at h
    refine ht W H σ ρ _ QX _ ok eo h xp fun vs W' H' ds ok' g b h' => ?_
    unfold fnW at h'
    rw [hsp] at h'
    obtain ⟨F, sm, le, okF, db⟩ := lend ok' b
    refine ⟨⟨F, W'.gs⟩, ds, _, _, okF, db, h', fun v H'' o => q v H'' ((Out.back ok' sm le o).after ok' g), fun ex W2 H2 cls d ok2 g2 e2 q2 => ?_⟩
    obtain ⟨o3, g3⟩ := PL.back ok' sm ok2 g2
    refine xp ex _ H2 cls d o3 (g.trans g3 ok') ?_ q2.2
    obtain ⟨C, h1, h2, h3⟩ := e2
    refine ⟨C, h1, h2, ?_⟩
    rcases h3 with h3 | ⟨dx, fs, h4, h5, h6⟩
    · exact .inl h3
    · exact .inr ⟨dx, fs, h4, h5, h6.scal q2.1⟩

/-! ### slices -/
/-- a part of a slice: none | one operand -/
inductive PartM (Γ : Tab) (k : Nat) (c : CC) : List ME → Option Expr → Prop
  | none : PartM Γ k c [] none
  | some {l : ME} {e : Expr} : PAm Γ k l c e → PartM Γ k c [l] (some e)
theorem optI_one {d : D} {P : Option Int → Prop} (h : optI [d] P) : ∃ i, d = .int i ∧ P (some i) := by
  cases d with
  | int i => exact ⟨i, rfl, h⟩
  | _ => exact h.elim
theorem po_of {lo : List ME} {el : Option Expr} (h : PartM Γ k c lo el) (xo : XOk Γ k c X Wx) : ∃ t : TO, PO X el t ∧
    ∀ (W : Wd) (H : Hp) (σ : L2.St) (ρ : Env) (Q : Option Int → Prop) (QX : QX) (Post : Option Int → Hp → Prop), W.Ok H → EnvOk X.K X.mg W H σ ρ → WAs Γ lo ρ (fun l => optI l Q) QX → XPost X Wx W H σ QX →
      (∀ i W' H', W'.Ok H' → Grow W H W' H' → Q i → Post i H') → t σ H Post := by
  cases h with
  | none =>
    refine ⟨tNoPart, po_none, fun W H σ ρ Q QX Post ok eo h' xp q => ?_⟩
    rw [WAs] at h'
    exact q _ W H ok (.refl _ _) h'
  | some h =>
    obtain ⟨t, pt, ht⟩ := h X Wx xo
    refine ⟨tPart t, po_some pt, fun W H σ ρ Q QX Post ok eo h' xp q => ?_⟩
    rw [WAs] at h'
    refine ht W H σ ρ _ QX _ ok eo h' xp fun v H1 ⟨W1, d, ok1, g1, b1, h1⟩ => ?_
    rw [WAs] at h1
    obtain ⟨i, rfl, h2⟩ := optI_one h1
    cases bd_int b1
    exact ⟨i, rfl, q _ W1 H1 ok1 g1 h2⟩
theorem pem_slice {a : ME} {lo hi : List ME} {ea : Expr} {el eh : Option Expr} {p2 pos : Pos} (ha : PAm Γ k a c ea) (hl : PartM Γ k c lo el) (hh : PartM Γ k c hi eh) : PEm Γ k (.slice a lo hi) c (.Subscript ea (.Slice el eh none p2) pos) := by
  intro X Wx xo
  obtain ⟨t, pt, ht⟩ := ha X Wx xo
  obtain ⟨tl, ptl, htl⟩ := po_of hl xo
  obtain ⟨th, pth, hth⟩ := po_of hh xo
  refine ⟨_, pe_slice s_cut pt ptl pth, fun W H σ ρ Q QX Post ok eo h xp q => ?_⟩
  rw [WE] at h
  refine ht W H σ ρ _ QX _ ok eo h xp fun v H1 ⟨W1, d, ok1, g1, b1, h1⟩ => ?_
  refine htl W1 H1 σ ρ _ QX _ ok1 (eo.grow g1) h1 (xp.grow ok1 g1) fun i W2 H2 ok2 g2 h2 => ?_
  have g12 := g1.trans g2 ok1
  refine hth W2 H2 σ ρ _ QX _ ok2 (eo.grow g12) h2 (xp.grow ok2 g12) fun j W3 H3 ok3 g3 h3 => ?_
  exact ⟨W3, d, Q, ok3, (b1.grow g2).grow g3, h3, fun v H' o => q v H' (o.after ok3 (g12.trans g3 ok2))⟩

/-! ### truth, and, or, not -/
theorem tru_of {W : Wd} {H : Hp} {v : V} {d : D} (ok : W.Ok H) (b : BDen X.K X.mg W H v d) {Q : Bool → Prop} (h : truW d Q) : ∃ k, TruV X.K v H k ∧ Q k := by
  unfold truW at h
  split at h
  · cases bd_non b; exact ⟨_, rfl, h⟩
  · cases bd_bl b; exact ⟨_, rfl, h⟩
  · cases bd_int b; exact ⟨_, rfl, h⟩
  · obtain ⟨o, vs, rfl, e, t⟩ := bd_lst ok b
    exact ⟨_, .inl ⟨vs, .of e, rfl⟩, by cases t <;> exact h⟩
  · obtain ⟨o, vs, rfl, e, _, t⟩ := bd_tup ok b
    exact ⟨_, .inr (.inl ⟨vs, .of e, rfl⟩), by cases t <;> exact h⟩
  · obtain ⟨o, vs, rfl, e, t⟩ := bd_dK ok b
    exact ⟨_, .inr (.inr ⟨vs, e, rfl⟩), by cases t <;> exact h⟩
  · exact h.elim
theorem truW_bl {k : Bool} {Q : Bool → Prop} : truW (.bl k) Q = Q k := rfl
theorem pem_not {a : ME} {ea : Expr} {pos : Pos} (ha : PAm Γ k a c ea) : PEm Γ k (.not_ a) c (.UnaryOp .Not ea pos) := by
  intro X Wx xo
  obtain ⟨t, pt, ht⟩ := ha X Wx xo
  refine ⟨_, pe_notT pt, fun W H σ ρ Q QX Post ok eo h xp q => ?_⟩
  rw [WE] at h
  refine ht W H σ ρ _ QX _ ok eo h xp fun v H1 ⟨W1, d, ok1, g1, b1, h1⟩ => ?_
  obtain ⟨b, hb, h2⟩ := tru_of ok1 b1 h1
  exact ⟨b, hb, q _ _ (Out.after ok1 g1 (.now ok1 (.bl _) h2))⟩
theorem bl_case {x : D} {A B : Prop} (h : (match x with | .bl k => if k = true then A else B | _ => False)) : ∃ k, x = .bl k ∧ if k = true then A else B := by
  cases x with
  | bl k => exact ⟨k, rfl, h⟩
  | _ => exact h.elim
theorem pem_andv {a b : ME} {ea eb : Expr} {r : List Expr} {pos : Pos} (ha : PAm Γ k a c ea) (hb : PEm Γ k b c (.BoolOp .And (eb :: r) pos)) : PEm Γ k (.andv a b) c (.BoolOp .And (ea :: eb :: r) pos) := by
  intro X Wx xo
  obtain ⟨t, pt, ht⟩ := ha X Wx xo
  obtain ⟨u, pu, hu⟩ := hb X Wx xo
  refine ⟨_, pe_and pt pu, fun W H σ ρ Q QX Post ok eo h xp q => ?_⟩
  rw [WE] at h
  refine ht W H σ ρ _ QX _ ok eo h xp fun v H1 ⟨W1, d, ok1, g1, b1, h1⟩ => ?_
  obtain ⟨k', rfl, h2⟩ := bl_case h1
  cases bd_bl b1
  refine ⟨k', rfl, ?_⟩
  cases k' with
  | true => exact hu W1 H1 σ ρ Q QX Post ok1 (eo.grow g1) h2 (xp.grow ok1 g1) fun v' H' o => q v' H' (o.after ok1 g1)
  | false => exact q _ _ (Out.after ok1 g1 (.now ok1 (.bl _) h2))
theorem pem_orv {a b : ME} {ea eb : Expr} {r : List Expr} {pos : Pos} (ha : PAm Γ k a c ea) (hb : PEm Γ k b c (.BoolOp .Or (eb :: r) pos)) : PEm Γ k (.orv a b) c (.BoolOp .Or (ea :: eb :: r) pos) := by
  intro X Wx xo
  obtain ⟨t, pt, ht⟩ := ha X Wx xo
  obtain ⟨u, pu, hu⟩ := hb X Wx xo
  refine ⟨_, pe_or pt pu, fun W H σ ρ Q QX Post ok eo h xp q => ?_⟩
  rw [WE] at h
  refine ht W H σ ρ _ QX _ ok eo h xp fun v H1 ⟨W1, d, ok1, g1, b1, h1⟩ => ?_
  obtain ⟨k', rfl, h2⟩ := bl_case h1
  cases bd_bl b1
  refine ⟨k', rfl, ?_⟩
  cases k' with
  | false => exact hu W1 H1 σ ρ Q QX Post ok1 (eo.grow g1) h2 (xp.grow ok1 g1) fun v' H' o => q v' H' (o.after ok1 g1)
  | true => exact q _ _ (Out.after ok1 g1 (.now ok1 (.bl _) h2))
theorem pem_one {me : ME} {op : BoolOp} {pos : Pos} (h : PEm Γ k me c e) : PEm Γ k me c (.BoolOp op [e] pos) := by
  intro X Wx xo
  obtain ⟨t, pt, ht⟩ := h X Wx xo
  exact ⟨t, pe_one pt, ht⟩
theorem pem_ife {t a b : ME} {et ea eb : Expr} {pos : Pos} (ht : PTm Γ k t c et) (ha : PEm Γ k a c ea) (hb : PEm Γ k b c eb) : PEm Γ k (.ife t a b) c (.IfExp et ea eb pos) := by
  intro X Wx xo
  obtain ⟨t1, p1, h1⟩ := ht X Wx xo
  obtain ⟨t2, p2, h2⟩ := ha X Wx xo
  obtain ⟨t3, p3, h3⟩ := hb X Wx xo
  refine ⟨_, pe_ifExp p1 p2 p3, fun W H σ ρ Q QX Post ok eo h xp q => ?_⟩
  rw [WE] at h
  refine h1 W H σ ρ _ QX _ ok eo (show WT Γ t ρ _ QX from h) xp fun b W1 H1 ok1 g1 hq => ?_
  cases b with
  | true => exact h2 W1 H1 σ ρ Q QX Post ok1 (eo.grow g1) hq (xp.grow ok1 g1) fun v' H' o => q v' H' (o.after ok1 g1)
  | false => exact h3 W1 H1 σ ρ Q QX Post ok1 (eo.grow g1) hq (xp.grow ok1 g1) fun v' H' o => q v' H' (o.after ok1 g1)
/-- a < b < c -/
theorem ch_case {r : Sl} {A B : Prop} (h : (match r with | .val (.bl k) => if k = true then A else B | _ => False)) : ∃ k, r = .val (.bl k) ∧ if k = true then A else B := by
  cases r with
  | val d =>
    cases d with
    | bl k => exact ⟨k, rfl, h⟩
    | _ => exact h.elim
  | _ => exact h.elim
theorem pem_ch {o p : Op} {op oq : CmpOp} {a b d : ME} {ea eb ed : Expr} {pos : Pos} (ho : opC o = some op) (hp : opC p = some oq) (ha : PAm Γ k a c ea) (hb : PAm Γ k b c eb) (hd : PAm Γ k d c ed)
    (hm : behindInMarks oq ed = false) : PEm Γ k (.ch o p a b d) c (.Compare ea [op, oq] [eb, ed] pos) := by
  intro X Wx xo
  obtain ⟨ta, tb, pa, pb, q2⟩ := two ha hb xo
  obtain ⟨tc, pc, hc⟩ := hd X Wx xo
  refine ⟨_, pe_chain (cmp_ok xo ho) (cmp_ok xo hp) pa pb pc (by with_unfolding_all exact hm), fun W H σ ρ Q QX Post ok eo h xp q => ?_⟩
  rw [WE] at h
  refine q2 W H σ ρ (fun x y => opW o x y fun r => match r with
    | .val (.bl k) => if k = true then argK (WE Γ d) d ρ (fun z => opW p y z Q) QX else Q (.val (.bl false))
    | _ => False) QX _ ok eo h xp fun x y W' H' d1 d2 ok' g b1 b2 h' => ?_
  refine ⟨W', d1, d2, _, ok', b1, b2, h', fun z H3 o => ?_⟩
  obtain ⟨W3, r, ok3, g3, s3, _, h3⟩ := o
  obtain ⟨k', rfl, h4⟩ := ch_case h3
  cases (show Den X.K X.mg W3 z (.bl k') from s3)
  refine ⟨k', rfl, ?_⟩
  have g03 := g.trans g3 ok'
  cases k' with
  | true =>
    rw [if_pos rfl] at h4 ⊢
    refine hc W3 H3 σ ρ _ QX _ ok3 (eo.grow g03) h4 (xp.grow ok3 g03) fun z2 H4 ⟨W4, d4, ok4, g4, b4, h5⟩ => ?_
    exact ⟨W4, d2, d4, Q, ok4, (b2.grow g3).grow g4, b4, h5, fun v' H' o => q v' H' (o.after ok4 (g03.trans g4 ok3))⟩
  | false => exact q _ _ (Out.after ok3 g03 (.now ok3 (.bl _) h4))

/-! ### tests -/
def plainTest : Expr → Bool
  | .UnaryOp .Not _ _ => false
  | .BoolOp _ _ _ => false
  | .IfExp _ _ _ _ => false
  | .Compare _ _ _ _ => false
  | _ => true
theorem plain_test (h : plainTest e = true) (env : PySem.Env) : ∀ whole, isTrue e env whole = (do let v ← whole; standAt e.pos; holding [v] (truthy v)) := by
  cases e with
  | UnaryOp op a p => cases op <;> first | exact fun _ => rfl | cases h
  | BoolOp _ _ _ => cases h
  | IfExp _ _ _ _ => cases h
  | Compare _ _ _ _ => cases h
  | _ => exact fun _ => rfl
theorem ptm_plain (h : PAm Γ k me c e) (hp : plainTest e = true) : PTm Γ k me c e := by
  intro X Wx xo
  obtain ⟨t, pt, ht⟩ := h X Wx xo
  refine ⟨_, pt_truth pt (plain_test hp X.env), fun W H σ ρ Q QX Post ok eo h xp q => ?_⟩
  refine ht W H σ ρ _ QX _ ok eo h xp fun v H1 ⟨W1, d, ok1, g1, b1, h1⟩ => ?_
  obtain ⟨b, hb, h2⟩ := tru_of ok1 b1 h1
  exact ⟨b, hb, q b W1 H1 ok1 g1 h2⟩
theorem ptm_not {a : ME} {ea : Expr} {pos : Pos} (h : PTm Γ k a c ea) : PTm Γ k (.not_ a) c (.UnaryOp .Not ea pos) := by
  intro X Wx xo
  obtain ⟨t, pt, ht⟩ := h X Wx xo
  refine ⟨_, pt_not pt, fun W H σ ρ Q QX Post ok eo h xp q => ?_⟩
  have h : WT Γ (.not_ a) ρ Q QX := h
  unfold WT argK at h
  dsimp only at h
  rw [WE] at h
  exact ht W H σ ρ (fun b => Q (!b)) QX _ ok eo h xp fun b W' H' ok' g' q' => q (!b) W' H' ok' g' q'
theorem ptm_andt {a b : ME} {ea eb : Expr} {r : List Expr} {pos : Pos} (ha : PTm Γ k a c ea) (hb : ∀ X Wx, XOk Γ k c X Wx → ∃ t, PW X (.BoolOp .And (eb :: r) pos) t ∧
    ∀ (W : Wd) (H : Hp) (σ : L2.St) (ρ : Env) (Q : Bool → Prop) (QX : QX) (Post : Bool → Hp → Prop), W.Ok H → EnvOk X.K X.mg W H σ ρ → WT Γ b ρ Q QX → XPost X Wx W H σ QX → (∀ b W' H', W'.Ok H' → Grow W H W' H' → Q b → Post b H') → t σ H Post) :
    ∀ X Wx, XOk Γ k c X Wx → ∃ t, PW X (.BoolOp .And (ea :: eb :: r) pos) t ∧
    ∀ (W : Wd) (H : Hp) (σ : L2.St) (ρ : Env) (Q : Bool → Prop) (QX : QX) (Post : Bool → Hp → Prop), W.Ok H → EnvOk X.K X.mg W H σ ρ → WT Γ (.andt a b) ρ Q QX → XPost X Wx W H σ QX → (∀ b W' H', W'.Ok H' → Grow W H W' H' → Q b → Post b H') → t σ H Post := by
  intro X Wx xo
  obtain ⟨t, pt, ht⟩ := ha X Wx xo
  obtain ⟨u, pu, hu⟩ := hb X Wx xo
  refine ⟨_, pw_and pt pu, fun W H σ ρ Q QX Post ok eo h xp q => ?_⟩
  unfold WT argK at h
  dsimp only at h
  rw [WE] at h
  refine ht W H σ ρ (fun k' => if k' = true then WT Γ b ρ Q QX else Q false) QX _ ok eo ?_ xp fun k' W1 H1 ok1 g1 q1 => ?_
  · exact h
  · cases k' with
    | true => exact hu W1 H1 σ ρ Q QX Post ok1 (eo.grow g1) q1 (xp.grow ok1 g1) fun b W' H' ok' g' q' => q b W' H' ok' (g1.trans g' ok1) q'
    | false => exact q false W1 H1 ok1 g1 q1
theorem ptm_ort {a b : ME} {ea eb : Expr} {r : List Expr} {pos : Pos} (ha : PTm Γ k a c ea) (hb : ∀ X Wx, XOk Γ k c X Wx → ∃ t, PW X (.BoolOp .Or (eb :: r) pos) t ∧
    ∀ (W : Wd) (H : Hp) (σ : L2.St) (ρ : Env) (Q : Bool → Prop) (QX : QX) (Post : Bool → Hp → Prop), W.Ok H → EnvOk X.K X.mg W H σ ρ → WT Γ b ρ Q QX → XPost X Wx W H σ QX → (∀ b W' H', W'.Ok H' → Grow W H W' H' → Q b → Post b H') → t σ H Post) :
    ∀ X Wx, XOk Γ k c X Wx → ∃ t, PW X (.BoolOp .Or (ea :: eb :: r) pos) t ∧
    ∀ (W : Wd) (H : Hp) (σ : L2.St) (ρ : Env) (Q : Bool → Prop) (QX : QX) (Post : Bool → Hp → Prop), W.Ok H → EnvOk X.K X.mg W H σ ρ → WT Γ (.ort a b) ρ Q QX → XPost X Wx W H σ QX → (∀ b W' H', W'.Ok H' → Grow W H W' H' → Q b → Post b H') → t σ H Post := by
  intro X Wx xo
  obtain ⟨t, pt, ht⟩ := ha X Wx xo
  obtain ⟨u, pu, hu⟩ := hb X Wx xo
  refine ⟨_, pw_or pt pu, fun W H σ ρ Q QX Post ok eo h xp q => ?_⟩
  unfold WT argK at h
  dsimp only at h
  rw [WE] at h
  refine ht W H σ ρ (fun k' => if k' = true then Q true else WT Γ b ρ Q QX) QX _ ok eo ?_ xp fun k' W1 H1 ok1 g1 q1 => ?_
  · exact h
  · cases k' with
    | false => exact hu W1 H1 σ ρ Q QX Post ok1 (eo.grow g1) q1 (xp.grow ok1 g1) fun b W' H' ok' g' q' => q b W' H' ok' (g1.trans g' ok1) q'
    | true => exact q true W1 H1 ok1 g1 q1
end
end PL

namespace PySem
open Sem (wp)
open AutoSeq1 (wpAny_loadPart')
theorem pl_enum_new1 {v : Value} {o : Obj} {H : Heap → Prop} (B : Begins v o H) :
    Meets (Builtin.«enumerate.__new__» ⟨[.type "enumerate", v], []⟩) (fun _ R s => H s.heap ∧
      R (.ok (.ret (.ref (s.heap.push o).objs.size))) { s with heap := (s.heap.push o).push { cls := .type "enumerate", data := .fields #[.none, .bool false, .ref s.heap.objs.size, rawInt 0, .none, .none] } }) :=
  .of_wp fun prog w A R s h => by
    obtain ⟨hp, g, d, tk, os⟩ := s; obtain ⟨h1, h⟩ := h
    have hsub := sub_enumerate
    have q1 : ∀ {A' : Around} {E : Value → Shared → Prop} {Q : Value → Shared → Prop}, Q (.ref hp.objs.size) ⟨hp.push o, g, d, tk, os⟩ → wpAny (model prog w) A' (pyIter v) Q E ⟨hp, g, d, tk, os⟩ :=
      fun q => B.iter prog w _ _ ⟨hp, g, d, tk, os⟩ _ h1 q
    wp_walk using q1
    refine wpAny_stack_any fun st => wpAny_pure ?_
    split
    · rename_i c _ _ _ _ _
      cases (c == Value.type "enumerate")
      · wp_walk using q1
        exact ⟨_, rfl, h⟩
      · wp_walk using q1
        exact ⟨_, rfl, h⟩
    · wp_walk using q1
      exact ⟨_, rfl, h⟩
section
variable {prog : Program} {w : World} {A : Around} {E : Value → Shared → Prop} {s : Shared}
theorem pl_enum_begins {v : Value} {o : Obj} {H : Heap → Prop} {Q : Value → Shared → Prop} (B : Begins v o H) (h1 : H s.heap)
    (h : ∀ h', IsEnum h' (s.heap.objs.size + 1) s.heap.objs.size 0 .none → h'.get? s.heap.objs.size = some o → h'.objs.size = s.heap.objs.size + 2 →
      (∀ b o, s.heap.get? b = some o → h'.get? b = some o) → Q (.ref (s.heap.objs.size + 1)) { s with heap := h' }) :
    wpAny (model prog w) A (call (.type "enumerate") [v]) Q E s := by
  refine callType_new F.called_enumerate (by decide) (F.typeCall_enumerate_1 _) (F.newCall_enumerate_1 _) (fun obj => F.args_object_init_2 obj _) F.entry_enumerate_new
    (pl_enum_new1 B) ⟨h1, ?_⟩
  have hz : (s.heap.push o).objs.size = s.heap.objs.size + 1 := Heap.size_push ..
  show _ ∧ _
  rw [hz]
  have he : IsEnum ((s.heap.push o).push { cls := .type "enumerate", data := .fields #[.none, .bool false, .ref s.heap.objs.size, rawInt 0, .none, .none] }) (s.heap.objs.size + 1) s.heap.objs.size 0 .none := by
    have := Heap.get?_push_size (s.heap.push o) (o := { cls := .type "enumerate", data := .fields #[.none, .bool false, .ref s.heap.objs.size, rawInt 0, .none, .none] }) rfl
    rw [hz] at this; exact this
  refine ⟨⟨_, he, rfl⟩, h _ he (Heap.get?_push_of_some _ (Heap.get?_push_size _ B.free)) (by rw [Heap.size_push, hz]) fun b o x => Heap.get?_push_of_some _ (Heap.get?_push_of_some _ x)⟩
theorem pl_enum_endT {e it t : Addr} {n : Nat} {items : Array Value} {i : Int} {old : Value} {Q : Option Value → Shared → Prop} (hh : A.handled = none)
    (he : IsEnum s.heap e it i old) (hit : s.heap.IsTupleIter it t n) (ht : s.heap.IsTuple t items) (hx : items[n]? = none)
    (hQ : ∀ h', Heap.ExtBut it s.heap h' → Q none { s with heap := h' }) : wpAny (model prog w) A (pyNext (.ref e)) Q E s := by
  have hT : s.TypeIs (.ref e) "enumerate" := ⟨_, he, rfl⟩
  unfold pyNext
  refine wpAny_bind (wpAny_attempt (wpAny_callSpecial?_slot (name := Str.ofString "__next__") hT F.slot_enumerate_next
    (wpAny_call_entry F.slot_enumerate_next hT F.entry_enumerate_next ?_ (F.args_enumerate_next_1 _))))
  show wpAny _ _ (field (.ref e) 2 >>= _) _ _ _
  refine wpAny_bind (wpAny_field he rfl (x := .ref it) rfl ?_)
  refine wpAny_bind (wpAny_nextOf_tuple_end (A := A.in1) hh hit ht hx fun h' x he' hx' => ?_)
  obtain ⟨o, ho, hc⟩ := hx'
  refine wpAny_bind (wpAny_isInstance (T := "StopIteration") (b := true) ⟨o, ho, hc⟩ isSubtype_stop ?_)
  exact wpAny_pure (hQ _ he')
end
end PySem
namespace PL
open PySem PySem.Spec PyProof.Rows L2
/-! ## what is walked -/
/-- the tuple at a, the places counted -/
def IteT (K : PySem.W.Frag) (a : Addr) : It :=
  ⟨fun i H => ∃ (xs : List V) (x : V), SqT K H a xs ∧ xs[i]? = some x, fun i H v H' => ∃ T x, v = .ref T ∧ H T = none ∧ H' = upd H T (.tup [.int (i : Nat), x]) ∧ ∀ xs, SqT K H a xs → xs[i]? = some x, fun i H => ∃ xs : List V, SqT K H a xs ∧ xs.length ≤ i⟩
theorem turn_enumT {P : Program} {w : World} {K : PySem.W.Frag} {elts : List Expr} {kk : Nat} {tpos : Pos} (a e it : Addr) (hai : a ≠ it) (hae : a ≠ e) :
    Turn P w K (.Tuple elts kk tpos) (IteT K a) [e, it] e (fun i h => (∃ old, IsEnum h e it ((i : Nat) : Int) old) ∧ h.IsTupleIter it a i ∧ e ≠ it) where
  mem := by simp
  obj := fun i h st b hb => by
    obtain ⟨⟨old, he⟩, ⟨o, ho, hc, hd⟩, _⟩ := st
    have e' : b = e ∨ b = it := by simpa using hb
    rcases e' with z | z
    · rw [z]; exact ⟨_, he, fun v q => nomatch q⟩
    · rw [z]; exact ⟨o, ho, fun v q => by rw [hd] at q; cases q⟩
  keep := fun i h h' st k => let ⟨⟨old, he⟩, hi, hne⟩ := st; ⟨⟨old, k e (by simp) _ he⟩, hi.at fun o q => k it (by simp) o q, hne⟩
  item := by
    intro X hP hw hK hc i pins s σ H E I hf st hg
    subst hP hw hK
    obtain ⟨⟨old, he⟩, hit, hne⟩ := st
    obtain ⟨xs, x, hq, hx⟩ := hg
    obtain ⟨its, rv, p, hz⟩ := I.tuple hq
    obtain ⟨u, hu, ru⟩ := rv.get hx
    have hel : e < s.heap.objs.size := Heap.lt_size he
    have hil : it < s.heap.objs.size := by obtain ⟨_, q, _⟩ := hit; exact Heap.lt_size q
    have hlt : i < its.toArray.size := by
      obtain ⟨q, _⟩ := List.getElem?_eq_some_iff.mp hu
      simpa using q
    have DD := Draws.tuple (prog := X.prog) (w := X.w) (A := X.A.in1) (I.ok.hd hc) it a hai its.toArray
    refine wpAny_pyNext_enum_itemD DD he ⟨hit, show s.heap.IsTuple a its.toArray from p⟩ hlt hne ?_ fun x' h' tk hx' ho hst' hT hsz hk => ?_
    · intro z
      simp only [List.mem_cons, List.not_mem_nil, or_false] at z
      rcases z with z | z
      · exact hne z
      · exact hae z.symm
    have hx2 : x' = u := by
      have q : its.toArray[i]? = some x' := hx'
      have q2 : its.toArray[i]? = some u := by simpa using hu
      rw [q2] at q
      exact (Option.some.inj q).symm
    subst hx2
    obtain ⟨hit', _⟩ := hst'
    refine ⟨_, rfl, wpAny_letOwnedTupleGo_enum (s := { s with heap := h', toks := tk + 1 }) ho fun h'' he' sb => ?_⟩
    have hT2 : h''.get? s.heap.objs.size = some { cls := .type "tuple", data := .seq #[.int i tk, x'] } := (sb.2 _ (Nat.ne_of_gt hel)).trans hT
    have new : ObjOk X.prog X.w (upd H s.heap.objs.size (.tup [.int (i : Nat), x])) h'' s.heap.objs.size (.tup [.int (i : Nat), x]) :=
      ⟨by show 2 ≤ sizeLine; decide, [.int i tk, x'], .cons ⟨_, rfl⟩ (.cons ru .nil), ⟨_, hT2, rfl, _, rfl⟩⟩
    have I1 : Inv X pins σ (upd H s.heap.objs.size (.tup [.int (i : Nat), x])) { s with heap := h'', toks := tk + 1 } :=
      I.turnedNew (ch := [e, it]) (fun b ob hb q => (sb.2 b (fun z => hb (by simp [z]))).trans (hk b ob (fun z => hb (by simp [z])) (fun z => hb (by simp [z])) q)) hf (Nat.le_refl _) new
    refine ⟨.ref s.heap.objs.size, _, I1, rfl, ⟨_, x, rfl, I.hok.fresh (Nat.le_refl _), rfl, fun ys hy => by rw [I.tuple_inj hy hq]; exact hx⟩, ⟨⟨x', ?_⟩, hit'.at fun o q => (sb.2 it (Ne.symm hne)).trans q, hne⟩, fun b hb => ?_⟩
    · have e1 : ((i + 1 : Nat) : Int) = (i : Int) + 1 := by omega
      rw [e1]; exact he'
    · have hb' : b < s.heap.objs.size := by
        have e' : b = e ∨ b = it := by simpa using hb
        rcases e' with z | z
        · rw [z]; exact hel
        · rw [z]; exact hil
      rw [upd_ne (Nat.ne_of_lt hb')]
      exact (hf b hb).1
  done := by
    intro X hP hw hK hc i pins s σ H E I hf st hg
    subst hP hw hK
    obtain ⟨⟨old, he⟩, hit, hne⟩ := st
    obtain ⟨xs, hq, hx⟩ := hg
    obtain ⟨its, rv, p, hz⟩ := I.tuple hq
    obtain ⟨f0, f1, f2, f3, f4, f5⟩ := hf it (by simp)
    have hl := rv.length
    exact pl_enum_endT (I.ok.hd hc) he hit (show s.heap.IsTuple a its.toArray from p) (by simp; omega) fun h' eb => ⟨rfl, I.turned (t' := s.toks) (fun b o hb q => eb b o hb q) f0 f1 f3 f4 f5⟩
  self := fun A i s Q E st h => let ⟨⟨_, he⟩, _⟩ := st; wpAny_pyIter_enum he h
def iEnumA (K : PySem.W.Frag) (ta : TA) : TI := fun σ H R => ta σ H fun vs H1 => ∃ a xs, vs = [.ref a] ∧ ((SqL K H1 a xs ∧ R (Ite K a) H1) ∨ (SqT K H1 a xs ∧ R (IteT K a) H1))
theorem pi_enumA {X : Cx} {e : Expr} {ta : TA} {p pos tpos : Pos} {elts : List Expr} {kk : Nat} (hg : Gl X "enumerate") (hm : X.mg "enumerate" = none) (ha : PA X [e] ta) (hs : starEach [e] X.env = [(false, eval e X.env)]) :
    PI X (.Tuple elts kk tpos) (.Call (.Name "enumerate" p) [e] [] pos) (iEnumA X.K ta) := by
  refine ⟨fun pins s σ H R I h => ?_⟩
  refine Call_ (ld_blt I hg hm boot_enumerate (PyProof.Rows.callWith_type1 (thn (ha.run pos pins s σ H _ I h) fun us s1 ⟨vs, H1, I1, r1, q1⟩ => ?_) hs rfl))
  obtain ⟨a, xs, ex, q⟩ := q1
  subst ex
  cases r1 with
  | cons r rr =>
    cases rr
    cases r
    have fin : ∀ (b : Addr), b ∈ [s1.heap.objs.size + 1, s1.heap.objs.size] → s1.heap.objs.size ≤ b := fun b hb => by
      have e' : b = s1.heap.objs.size + 1 ∨ b = s1.heap.objs.size := by simpa using hb
      rcases e' with z | z
      · rw [z]; exact Nat.le_add_right _ _
      · rw [z]; exact Nat.le_refl _
    rcases q with ⟨hq, q⟩ | ⟨hq, q⟩
    · obtain ⟨its, rv, p', hz⟩ := I1.list hq
      refine call_enumerate_list p'.isList fun h' he hit hsz hk => wpAny_pyIter_enum he ?_
      have I2 : Inv X pins σ H1 { s1 with heap := h' } := I1.kept (t' := s1.toks) hk
      exact ⟨s1.heap.objs.size + 1, [s1.heap.objs.size + 1, s1.heap.objs.size], _, _, H1, rfl, I2, turn_enum a (s1.heap.objs.size + 1) s1.heap.objs.size, ⟨⟨.none, he⟩, hit, Nat.succ_ne_self _⟩, fun b hb => I1.fpOk (fin b hb) (I1.hok.fresh (fin b hb)), q⟩
    · obtain ⟨its, rv, p', hz⟩ := I1.tuple hq
      have hal : a < s1.heap.objs.size := p'.lt
      refine pl_enum_begins (begins_tuple a its.toArray) (show s1.heap.IsTuple a its.toArray from p') fun h' he hit hsz hk => wpAny_pyIter_enum he ?_
      have I2 : Inv X pins σ H1 { s1 with heap := h' } := I1.kept (t' := s1.toks) hk
      refine ⟨s1.heap.objs.size + 1, [s1.heap.objs.size + 1, s1.heap.objs.size], _, _, H1, rfl, I2, turn_enumT a (s1.heap.objs.size + 1) s1.heap.objs.size (Nat.ne_of_lt hal) (Nat.ne_of_lt (Nat.lt_succ_of_lt hal)), ⟨⟨.none, he⟩, ⟨_, hit, rfl, rfl⟩, Nat.succ_ne_self _⟩, fun b hb => I1.fpOk (fin b hb) (I1.hok.fresh (fin b hb)), q⟩
/-- a list or a tuple, as it is -/
def iSeq (K : PySem.W.Frag) (tl : TE) : TI := fun σ H R => tl σ H fun x H1 => ∃ a, x = .ref a ∧ (((∃ xs, SqL K H1 a xs) ∧ R (Itl K a) H1) ∨ ((∃ xs, SqT K H1 a xs) ∧ R (Itt K a) H1))
theorem pi_seq {X : Cx} {tg l : Expr} {tl : TE} (hl : PE X l tl) : PI X tg l (iSeq X.K tl) := by
  refine ⟨fun pins s σ H R I h => ?_⟩
  refine thn (hl.run pins s σ H _ I h) fun v s1 ⟨x, H1, I1, r1, q1⟩ => ?_
  obtain ⟨a, e, q1⟩ := q1
  subst e
  cases r1
  have fin : ∀ (b : Addr), b ∈ [s1.heap.objs.size] → FpOk X pins H1 b := fun b hb => by
    have e : b = s1.heap.objs.size := by simpa using hb
    subst e
    exact I1.fpOk (Nat.le_refl _) (I1.hok.fresh (Nat.le_refl _))
  rcases q1 with ⟨⟨xs, hq⟩, q⟩ | ⟨⟨xs, hq⟩, q⟩
  · obtain ⟨its, rv, p, hz⟩ := I1.list hq
    refine wpAny_pyIter_list p.isList ?_
    exact ⟨s1.heap.objs.size, [s1.heap.objs.size], _, _, H1, rfl, I1.kept (t' := s1.toks) fun b o e => Heap.get?_push_of_some _ e, turn_list a _, ⟨_, Heap.get?_push_size _ rfl, rfl, rfl⟩, fin, q⟩
  · obtain ⟨its, rv, p, hz⟩ := I1.tuple hq
    refine wpAny_pyIter_tuple (show s1.heap.IsTuple a its.toArray from p) ?_
    exact ⟨s1.heap.objs.size, [s1.heap.objs.size], _, _, H1, rfl, I1.kept (t' := s1.toks) fun b o e => Heap.get?_push_of_some _ e, turn_tuple a _, ⟨_, Heap.get?_push_size _ rfl, rfl, rfl⟩, fin, q⟩

/-- the iterator J gives these items wherever one comes to -/
def ItAt (K : PySem.W.Frag) (mg : Str → Option Value) (Rch : Wd → Hp → Prop) (J : It) (items : List D) : Prop :=
  ∀ W' H', Rch W' H' → (∀ i, i < items.length → J.go i H') ∧ J.stop items.length H' ∧ ∀ i d x H'', items[i]? = some d → J.yld i H' x H'' → OutD K mg W' H' (fun e => e = d) x H''
section
variable {K : PySem.W.Frag} {mg : Str → Option Value} {Rch : Wd → Hp → Prop} {a b : Addr} {xs ys : List D}
/-- a value stands for data wherever one comes to -/
def At (K : PySem.W.Frag) (mg : Str → Option Value) (Rch : Wd → Hp → Prop) (v : V) (d : D) : Prop := ∀ W' H', Rch W' H' → W'.Ok H' ∧ BDen K mg W' H' v d
theorem get_of {vs : List V} {W : Wd} {ds : List D} (t : DenAll K mg W vs ds) {i : Nat} (h : i < ds.length) : ∃ v, vs[i]? = some v := by
  refine ⟨vs[i]'(by rw [t.length]; exact h), List.getElem?_eq_getElem _⟩
theorem OutD.now {W : Wd} {H : Hp} {v : V} {d : D} (ok : W.Ok H) (h : Den K mg W v d) : OutD K mg W H (fun e => e = d) v H := ⟨W, d, ok, .refl _ _, h, rfl⟩
theorem at_list (h : At K mg Rch (.ref a) (.lst xs)) : ItAt K mg Rch (Itl K a) xs := fun W' H' r => by
  obtain ⟨ok, b⟩ := h W' H' r
  obtain ⟨o, vs, e, hv, t⟩ := bd_lst ok b
  cases e
  refine ⟨fun i hi => ?_, ⟨vs, .of hv, by rw [t.length]; exact Nat.le_refl _⟩, fun i d x H'' hd hy => ?_⟩
  · obtain ⟨v, ev⟩ := get_of t hi
    exact ⟨vs, v, .of hv, ev⟩
  · obtain ⟨rfl, hx⟩ := hy
    obtain ⟨v, ev, dv⟩ := t.get hd
    have := (hx vs (.of hv)).symm.trans ev
    cases this
    exact .now ok dv
theorem at_scr {ns : List Int} (h : At K mg Rch (.ref a) (.scr ns)) : ItAt K mg Rch (Itl K a) (ns.map D.int) := fun W' H' r => by
  obtain ⟨ok, b⟩ := h W' H' r
  obtain ⟨o, e, hv⟩ := bd_scr ok b
  cases e
  refine ⟨fun i hi => ?_, ⟨_, hv, by rw [List.length_map, List.length_map]; exact Nat.le_refl _⟩, fun i d x H'' hd hy => ?_⟩
  · obtain ⟨v, ev⟩ := get_of (W := W') (K := K) (mg := mg) (DenAll.ints ns) hi
    exact ⟨_, v, hv, ev⟩
  · obtain ⟨rfl, hx⟩ := hy
    obtain ⟨v, ev, dv⟩ := (DenAll.ints (K := K) (mg := mg) (W := W') ns).get hd
    have := (hx _ hv).symm.trans ev
    cases this
    exact .now ok dv
theorem at_tup (h : At K mg Rch (.ref a) (.tup xs)) : ItAt K mg Rch (Itt K a) xs := fun W' H' r => by
  obtain ⟨ok, b⟩ := h W' H' r
  obtain ⟨o, vs, e, hv, _, t⟩ := bd_tup ok b
  cases e
  refine ⟨fun i hi => ?_, ⟨vs, .of hv, by rw [t.length]; exact Nat.le_refl _⟩, fun i d x H'' hd hy => ?_⟩
  · obtain ⟨v, ev⟩ := get_of t hi
    exact ⟨vs, v, .of hv, ev⟩
  · obtain ⟨rfl, hx⟩ := hy
    obtain ⟨v, ev, dv⟩ := t.get hd
    have := (hx vs (.of hv)).symm.trans ev
    cases this
    exact .now ok dv
theorem at_range (ok : ∀ W' H', Rch W' H' → W'.Ok H') {lo : Int} {n : Nat} : ItAt K mg Rch (Itr lo n) (rgD lo n) := fun W' H' r => by
  have hl : (rgD lo n).length = n := by unfold rgD; rw [List.length_map, List.length_range]
  rw [hl]
  refine ⟨fun i hi => hi, Nat.le_refl _, fun i d x H'' hd hy => ?_⟩
  obtain ⟨rfl, rfl⟩ := hy
  unfold rgD at hd
  rw [List.getElem?_map] at hd
  obtain ⟨j, hj, rfl⟩ := Option.map_eq_some_iff.mp hd
  obtain ⟨h1, h2⟩ := List.getElem?_eq_some_iff.mp hj
  rw [List.getElem_range] at h2
  subst h2
  exact .now (ok W' _ r) (.int _)
theorem at_rangeC (ok : ∀ W' H', Rch W' H' → W'.Ok H') {lo c : Int} {n : Nat} : ItAt K mg Rch (Itc lo c n) ((List.range n).map fun i => D.int (lo + (i : Nat) * c)) := fun W' H' r => by
  have hl : ((List.range n).map fun i => D.int (lo + (i : Nat) * c)).length = n := by rw [List.length_map, List.length_range]
  rw [hl]
  refine ⟨fun i hi => hi, Nat.le_refl _, fun i d x H'' hd hy => ?_⟩
  obtain ⟨rfl, rfl⟩ := hy
  rw [List.getElem?_map] at hd
  obtain ⟨j, hj, rfl⟩ := Option.map_eq_some_iff.mp hd
  obtain ⟨h1, h2⟩ := List.getElem?_eq_some_iff.mp hj
  rw [List.getElem_range] at h2
  subst h2
  exact .now (ok W' _ r) (.int _)
theorem OutD.pair {W : Wd} {H : Hp} {T : Addr} {x y : V} {d e : D} (ok : W.Ok H) (n : H T = none) (h1 : Den K mg W x d) (h2 : Den K mg W y e) : OutD K mg W H (fun z => z = .tup [d, e]) (.ref T) (upd H T (.tup [x, y])) := by
  have o := Out.newT (K := K) (mg := mg) (Q := fun r => r.d = .tup [d, e]) ok n (.cons h1 (.cons h2 .nil)) rfl
  exact Out.toD (Q := fun z => z = .tup [d, e]) o
theorem enum_get {α : Type} {l : List α} {i : Nat} {d : α × Nat} (h : l.zipIdx[i]? = some d) : d.2 = i ∧ l[i]? = some d.1 := by
  rw [List.getElem?_zipIdx] at h
  obtain ⟨z, hz, rfl⟩ := Option.map_eq_some_iff.mp h
  exact ⟨Nat.zero_add i, hz⟩
theorem at_enumL (h : At K mg Rch (.ref a) (.lst xs)) : ItAt K mg Rch (Ite K a) (xs.zipIdx.map fun p => D.tup [.int (p.2 : Nat), p.1]) := fun W' H' r => by
  obtain ⟨ok, b⟩ := h W' H' r
  obtain ⟨o, vs, e, hv, t⟩ := bd_lst ok b
  cases e
  have hl : (xs.zipIdx.map fun p => D.tup [.int (p.2 : Nat), p.1]).length = xs.length := by rw [List.length_map, List.length_zipIdx]
  rw [hl]
  refine ⟨fun i hi => ?_, ⟨vs, .of hv, by rw [t.length]; exact Nat.le_refl _⟩, fun i d x H'' hd hy => ?_⟩
  · obtain ⟨v, ev⟩ := get_of t hi
    exact ⟨vs, v, .of hv, ev⟩
  · obtain ⟨T, x', rfl, nT, rfl, hx⟩ := hy
    rw [List.getElem?_map] at hd
    obtain ⟨p, hp, rfl⟩ := Option.map_eq_some_iff.mp hd
    obtain ⟨e1, e2⟩ := enum_get hp
    obtain ⟨v, ev, dv⟩ := t.get e2
    have := (hx vs (.of hv)).symm.trans ev
    cases this
    rw [e1]
    exact .pair ok nT (.int _) dv
theorem at_enumT (h : At K mg Rch (.ref a) (.tup xs)) : ItAt K mg Rch (IteT K a) (xs.zipIdx.map fun p => D.tup [.int (p.2 : Nat), p.1]) := fun W' H' r => by
  obtain ⟨ok, b⟩ := h W' H' r
  obtain ⟨o, vs, e, hv, _, t⟩ := bd_tup ok b
  cases e
  have hl : (xs.zipIdx.map fun p => D.tup [.int (p.2 : Nat), p.1]).length = xs.length := by rw [List.length_map, List.length_zipIdx]
  rw [hl]
  refine ⟨fun i hi => ?_, ⟨vs, .of hv, by rw [t.length]; exact Nat.le_refl _⟩, fun i d x H'' hd hy => ?_⟩
  · obtain ⟨v, ev⟩ := get_of t hi
    exact ⟨vs, v, .of hv, ev⟩
  · obtain ⟨T, x', rfl, nT, rfl, hx⟩ := hy
    rw [List.getElem?_map] at hd
    obtain ⟨p, hp, rfl⟩ := Option.map_eq_some_iff.mp hd
    obtain ⟨e1, e2⟩ := enum_get hp
    obtain ⟨v, ev, dv⟩ := t.get e2
    have := (hx vs (.of hv)).symm.trans ev
    cases this
    rw [e1]
    exact .pair ok nT (.int _) dv
theorem zip_get {α β : Type} {l : List α} {m : List β} {i : Nat} {p : α × β} (h : (l.zip m)[i]? = some p) : l[i]? = some p.1 ∧ m[i]? = some p.2 := by
  rw [List.getElem?_zip_eq_some] at h
  exact h
theorem at_zipL (h : At K mg Rch (.ref a) (.lst xs)) (k : At K mg Rch (.ref b) (.lst ys)) : ItAt K mg Rch (Itz K a b) ((xs.zip ys).map fun p => D.tup [p.1, p.2]) := fun W' H' r => by
  obtain ⟨ok, b1⟩ := h W' H' r
  obtain ⟨_, b2⟩ := k W' H' r
  obtain ⟨o, vs, e, hv, t⟩ := bd_lst ok b1
  cases e
  obtain ⟨o, ws, e, hw, u⟩ := bd_lst ok b2
  cases e
  have hl : ((xs.zip ys).map fun p => D.tup [p.1, p.2]).length = min xs.length ys.length := by rw [List.length_map, List.length_zip]
  rw [hl]
  refine ⟨fun i hi => ?_, ⟨vs, ws, .of hv, .of hw, by rw [t.length, u.length]; omega⟩, fun i d x H'' hd hy => ?_⟩
  · obtain ⟨v, ev⟩ := get_of t (Nat.lt_of_lt_of_le hi (Nat.min_le_left _ _))
    obtain ⟨w, ew⟩ := get_of u (Nat.lt_of_lt_of_le hi (Nat.min_le_right _ _))
    exact ⟨vs, ws, v, w, .of hv, .of hw, ev, ew⟩
  · obtain ⟨T, x', y', rfl, nT, rfl, hx, hy⟩ := hy
    rw [List.getElem?_map] at hd
    obtain ⟨p, hp, rfl⟩ := Option.map_eq_some_iff.mp hd
    obtain ⟨e1, e2⟩ := zip_get hp
    obtain ⟨v, ev, dv⟩ := t.get e1
    obtain ⟨w, ew, dw⟩ := u.get e2
    cases (hx vs (.of hv)).symm.trans ev
    cases (hy ws (.of hw)).symm.trans ew
    exact .pair ok nT dv dw
theorem at_zipT (h : At K mg Rch (.ref a) (.tup xs)) (k : At K mg Rch (.ref b) (.tup ys)) : ItAt K mg Rch (RZ.ItzT K a b) ((xs.zip ys).map fun p => D.tup [p.1, p.2]) := fun W' H' r => by
  obtain ⟨ok, b1⟩ := h W' H' r
  obtain ⟨_, b2⟩ := k W' H' r
  obtain ⟨o, vs, e, hv, _, t⟩ := bd_tup ok b1
  cases e
  obtain ⟨o, ws, e, hw, _, u⟩ := bd_tup ok b2
  cases e
  have hl : ((xs.zip ys).map fun p => D.tup [p.1, p.2]).length = min xs.length ys.length := by rw [List.length_map, List.length_zip]
  rw [hl]
  refine ⟨fun i hi => ?_, ⟨vs, ws, .of hv, .of hw, by rw [t.length, u.length]; omega⟩, fun i d x H'' hd hy => ?_⟩
  · obtain ⟨v, ev⟩ := get_of t (Nat.lt_of_lt_of_le hi (Nat.min_le_left _ _))
    obtain ⟨w, ew⟩ := get_of u (Nat.lt_of_lt_of_le hi (Nat.min_le_right _ _))
    exact ⟨vs, ws, v, w, .of hv, .of hw, ev, ew⟩
  · obtain ⟨T, x', y', rfl, nT, rfl, hx, hy⟩ := hy
    rw [List.getElem?_map] at hd
    obtain ⟨p, hp, rfl⟩ := Option.map_eq_some_iff.mp hd
    obtain ⟨e1, e2⟩ := zip_get hp
    obtain ⟨v, ev, dv⟩ := t.get e1
    obtain ⟨w, ew, dw⟩ := u.get e2
    cases (hx vs (.of hv)).symm.trans ev
    cases (hy ws (.of hw)).symm.trans ew
    exact .pair ok nT dv dw
theorem rev_get {α : Type} {l : List α} {i : Nat} (h : i < l.length) : l.reverse[i]? = l[l.length - 1 - i]? := List.getElem?_reverse h
theorem at_revL (h : At K mg Rch (.ref a) (.lst xs)) : ItAt K mg Rch (Itv K a xs.length) xs.reverse := fun W' H' r => by
  obtain ⟨ok, b⟩ := h W' H' r
  obtain ⟨o, vs, e, hv, t⟩ := bd_lst ok b
  cases e
  rw [List.length_reverse]
  refine ⟨fun i hi => ?_, Nat.le_refl _, fun i d x H'' hd hy => ?_⟩
  · obtain ⟨v, ev⟩ := get_of t (i := xs.length - 1 - i) (by omega)
    exact ⟨hi, vs, v, .of hv, ev⟩
  · obtain ⟨rfl, hx⟩ := hy
    have hi : i < xs.length := by
      obtain ⟨q, _⟩ := List.getElem?_eq_some_iff.mp hd
      simpa using q
    rw [rev_get hi] at hd
    obtain ⟨v, ev, dv⟩ := t.get hd
    have := (hx vs (.of hv)).symm.trans ev
    cases this
    exact .now ok dv
theorem at_revT (h : At K mg Rch (.ref a) (.tup xs)) : ItAt K mg Rch (RT.ItvT K a xs.length) xs.reverse := fun W' H' r => by
  obtain ⟨ok, b⟩ := h W' H' r
  obtain ⟨o, vs, e, hv, _, t⟩ := bd_tup ok b
  cases e
  rw [List.length_reverse]
  refine ⟨fun i hi => ?_, Nat.le_refl _, fun i d x H'' hd hy => ?_⟩
  · obtain ⟨v, ev⟩ := get_of t (i := xs.length - 1 - i) (by omega)
    exact ⟨hi, vs, v, .of hv, ev⟩
  · obtain ⟨rfl, hx⟩ := hy
    have hi : i < xs.length := by
      obtain ⟨q, _⟩ := List.getElem?_eq_some_iff.mp hd
      simpa using q
    rw [rev_get hi] at hd
    obtain ⟨v, ev, dv⟩ := t.get hd
    have := (hx vs (.of hv)).symm.trans ev
    cases this
    exact .now ok dv
end
end PL

namespace PL
open PySem PySem.Spec PyProof.Rows L2
section
variable {Γ : Tab} {k : Nat} {c : CC} {X : Cx} {Wx : WX} {e : Expr} {es : List Expr} {me : ME} {mes : List ME}
/-! ### comparisons as tests -/
theorem cmp_bl {o : Op} {op : CmpOp} (ho : opC o = some op) {x y : D} {Q : QS} (h : opW o x y Q) : opW o x y (fun r => (∃ k, r = .val (.bl k)) ∧ Q r) := by
  cases o <;> cases ho
  · rcases h with h | ⟨ks, ls, e1, e2, p1, p2, h⟩
    · exact .inl ⟨h.1, ⟨_, rfl⟩, h.2⟩
    · exact .inr ⟨ks, ls, e1, e2, p1, p2, ⟨_, rfl⟩, h⟩
  · rcases h with h | ⟨ks, ls, e1, e2, p1, p2, h⟩
    · exact .inl ⟨h.1, ⟨_, rfl⟩, h.2⟩
    · exact .inr ⟨ks, ls, e1, e2, p1, p2, ⟨_, rfl⟩, h⟩
  all_goals (cases x <;> cases y <;> first | exact ⟨⟨_, rfl⟩, h⟩ | exact ⟨h.1, ⟨_, rfl⟩, h.2⟩ | (obtain ⟨b, p, q⟩ := h; exact ⟨b, p, ⟨_, rfl⟩, q⟩) | exact h.elim)
theorem Out.bl {W : Wd} {H : Hp} {Q : Bool → Prop} {v : V} {H' : Hp} (h : Out X.K X.mg W H (fun r => (∃ k, r = .val (.bl k)) ∧ truW r.d Q) v H') : ∃ b W', v = .bl b ∧ W'.Ok H' ∧ Grow W H W' H' ∧ Q b := by
  obtain ⟨W', r, ok, g, s, _, ⟨b, rfl⟩, q⟩ := h
  cases (show Den X.K X.mg W' v (.bl b) from s)
  exact ⟨b, W', rfl, ok, g, q⟩
theorem ptm_cmp {o : Op} {op : CmpOp} {a b : ME} {ea eb : Expr} {pos : Pos} (ho : opC o = some op) (hm : behindInMarks op eb = false) (ha : PAm Γ k a c ea) (hb : PAm Γ k b c eb) : PTm Γ k (.bin o a b) c (.Compare ea [op] [eb] pos) := by
  intro X Wx xo
  obtain ⟨ta, tb, pa, pb, q2⟩ := two ha hb xo
  refine ⟨_, pt_cmpR (cmp_ok xo ho) pa pb hm, fun W H σ ρ Q QX Post ok eo h xp q => ?_⟩
  unfold WT argK at h
  dsimp only at h
  rw [WE] at h
  refine q2 W H σ ρ (fun x y => opW o x y (fun r => truW r.d Q)) QX _ ok eo h xp fun x y W' H' d d' ok' g b1 b2 h' => ?_
  refine r2_post ok' g b1 b2 (cmp_bl ho h') fun v H2 o2 => ?_
  obtain ⟨b, W2, rfl, ok2, g2, hq⟩ := o2.bl
  exact ⟨b, rfl, q b W2 H2 ok2 g2 hq⟩
theorem ptm_ch {o p : Op} {op oq : CmpOp} {a b d : ME} {ea eb ed : Expr} {pos : Pos} (ho : opC o = some op) (hp : opC p = some oq) (ha : PAm Γ k a c ea) (hb : PAm Γ k b c eb) (hd : PAm Γ k d c ed)
    (hm : behindInMarks oq ed = false) : PTm Γ k (.ch o p a b d) c (.Compare ea [op, oq] [eb, ed] pos) := by
  intro X Wx xo
  obtain ⟨ta, tb, pa, pb, q2⟩ := two ha hb xo
  obtain ⟨tc, pc, hc⟩ := hd X Wx xo
  refine ⟨_, pt_chain (cmp_ok xo ho) (cmp_ok xo hp) pa pb pc (by with_unfolding_all exact hm), fun W H σ ρ Q QX Post ok eo h xp q => ?_⟩
  unfold WT argK at h
  dsimp only at h
  rw [WE] at h
  refine q2 W H σ ρ (fun x y => opW o x y fun r => match r with
    | .val (.bl k) => if k = true then argK (WE Γ d) d ρ (fun z => opW p y z (fun r => truW r.d Q)) QX else truW (.bl false) Q
    | _ => False) QX _ ok eo h xp fun x y W' H' d1 d2 ok' g b1 b2 h' => ?_
  refine ⟨W', d1, d2, _, ok', b1, b2, h', fun z H3 o => ?_⟩
  obtain ⟨W3, r, ok3, g3, s3, _, h3⟩ := o
  obtain ⟨k', rfl, h4⟩ := ch_case h3
  cases (show Den X.K X.mg W3 z (.bl k') from s3)
  refine ⟨k', rfl, ?_⟩
  have g03 := g.trans g3 ok'
  cases k' with
  | true =>
    rw [if_pos rfl] at h4 ⊢
    refine hc W3 H3 σ ρ _ QX _ ok3 (eo.grow g03) h4 (xp.grow ok3 g03) fun z2 H4 ⟨W4, d4, ok4, g4, b4, h5⟩ => ?_
    refine ⟨W4, d2, d4, _, ok4, (b2.grow g3).grow g4, b4, cmp_bl hp h5, fun v' H' o => ?_⟩
    obtain ⟨b, W5, rfl, ok5, g5, hq⟩ := o.bl
    exact ⟨b, rfl, q b W5 H' ok5 ((g03.trans g4 ok3).trans g5 ok4) hq⟩
  | false => exact ⟨false, rfl, q false W3 H3 ok3 g03 h4⟩

/-! ### targets -/
theorem EnvOk.set {K : PySem.W.Frag} {mg : Str → Option Value} {W : Wd} {H : Hp} {σ : L2.St} {ρ : Env} (h : EnvOk K mg W H σ ρ) (i : Nat) {v : V} {d : D} (hd : Den K mg W v d) : EnvOk K mg W H (σ.set i (some v)) (ρ.set i (some (.val d))) where
  at_ := fun j s e => by
    by_cases hj : i = j
    · subst hj
      by_cases hl : i < ρ.length
      · rw [List.getElem?_set_self hl] at e
        cases e
        exact ⟨v, List.getElem?_set_self (by rw [h.len]; exact hl), hd⟩
      · rw [List.getElem?_eq_none (by simpa using hl)] at e; cases e
    · rw [List.getElem?_set_ne hj] at e ⊢
      exact h.at_ j s e
  dj := fun j l s t a hjl e1 o1 e2 o2 f1 f2 => by
    have ne : ∀ {m : Nat} {u : Sl}, (ρ.set i (some (.val d)))[m]? = some (some u) → u.isOwn = true → i ≠ m := fun {m u} e o z => by
      subst z
      by_cases hl : i < ρ.length
      · rw [List.getElem?_set_self hl] at e; cases e; cases o
      · rw [List.getElem?_eq_none (by simpa using hl)] at e; cases e
    have n1 := ne e1 o1
    have n2 := ne e2 o2
    rw [List.getElem?_set_ne n1] at e1 f1
    rw [List.getElem?_set_ne n2] at e2 f2
    exact h.dj j l s t a hjl e1 o1 e2 o2 f1 f2
  len := by rw [List.length_set, List.length_set]; exact h.len
theorem wipeE_length (ρ : Env) : ∀ vs : List Nat, (wipeE ρ vs).length = ρ.length
  | [] => rfl
  | v :: vs => by unfold wipeE; rw [List.length_set, wipeE_length ρ vs]
theorem wipeE_get {ρ : Env} : ∀ {vs : List Nat} {j : Nat} {s : Sl}, (wipeE ρ vs)[j]? = some (some s) → ρ[j]? = some (some s) ∧ j ∉ vs
  | [], _, _, h => ⟨h, by simp⟩
  | v :: vs, j, s, h => by
    unfold wipeE at h
    by_cases hj : v = j
    · subst hj
      by_cases hl : v < (wipeE ρ vs).length
      · rw [List.getElem?_set_self hl] at h; cases h
      · rw [List.getElem?_eq_none (by simpa using hl)] at h; cases h
    · rw [List.getElem?_set_ne hj] at h
      obtain ⟨h1, h2⟩ := wipeE_get h
      exact ⟨h1, by simp only [List.mem_cons, not_or]; exact ⟨fun z => hj z.symm, h2⟩⟩
theorem wipe_get {σ : L2.St} : ∀ {vs : List Nat} {j : Nat}, j ∉ vs → (wipe σ vs)[j]? = σ[j]?
  | [], _, _ => rfl
  | v :: vs, j, h => by
    unfold wipe
    rw [List.getElem?_set_ne (fun z => h (by rw [z]; exact List.mem_cons_self))]
    exact wipe_get fun z => h (List.mem_cons_of_mem _ z)
theorem EnvOk.wipe {K : PySem.W.Frag} {mg : Str → Option Value} {W : Wd} {H : Hp} {σ : L2.St} {ρ : Env} (h : EnvOk K mg W H σ ρ) (vs : List Nat) : EnvOk K mg W H (L2.wipe σ vs) (wipeE ρ vs) where
  at_ := fun j s e => by
    obtain ⟨e1, hn⟩ := wipeE_get e
    rw [wipe_get hn]
    exact h.at_ j s e1
  dj := fun j l s t a hjl e1 o1 e2 o2 f1 f2 => by
    obtain ⟨e1, n1⟩ := wipeE_get e1
    obtain ⟨e2, n2⟩ := wipeE_get e2
    rw [wipe_get n1] at f1
    rw [wipe_get n2] at f2
    exact h.dj j l s t a hjl e1 o1 e2 o2 f1 f2
  len := by rw [wipe_length, wipeE_length]; exact h.len
theorem wipe_set {σ : L2.St} {x : Option V} : ∀ {vs : List Nat} {i : Nat}, i ∈ vs → wipe (σ.set i x) vs = wipe σ vs
  | [], _, h => by simp at h
  | v :: vs, i, h => by
    unfold wipe
    by_cases hv : i ∈ vs
    · rw [wipe_set hv]
    · have e : i = v := (List.mem_cons.mp h).resolve_right hv
      subst e
      apply List.ext_getElem?
      intro j
      by_cases hj : i = j
      · subst hj
        by_cases hl : i < σ.length
        · rw [List.getElem?_set_self (by rw [wipe_length, List.length_set]; exact hl), List.getElem?_set_self (by rw [wipe_length]; exact hl)]
        · rw [List.getElem?_eq_none (by rw [List.length_set, wipe_length, List.length_set]; omega), List.getElem?_eq_none (by rw [List.length_set, wipe_length]; omega)]
      · rw [List.getElem?_set_ne hj, List.getElem?_set_ne hj]
        by_cases hjv : j ∈ vs
        · have : ∀ (τ : L2.St) (us : List Nat), j ∈ us → j < τ.length → (wipe τ us)[j]? = some none := by
            intro τ us
            induction us with
            | nil => intro z; simp at z
            | cons u us ih =>
              intro z hl
              unfold wipe
              by_cases hu : u = j
              · subst hu; rw [List.getElem?_set_self (by rw [wipe_length]; exact hl)]
              · rw [List.getElem?_set_ne hu]
                exact ih ((List.mem_cons.mp z).resolve_left fun y => hu y.symm) hl
          by_cases hl : j < σ.length
          · rw [this _ vs hjv (by rw [List.length_set]; exact hl), this _ vs hjv hl]
          · rw [List.getElem?_eq_none (by rw [wipe_length, List.length_set]; omega), List.getElem?_eq_none (by rw [wipe_length]; omega)]
        · rw [wipe_get hjv, wipe_get hjv, List.getElem?_set_ne hj]
theorem loc_ok {x : Str} (xo : XOk Γ k c X Wx) (h : tgN c x = true) : L2.Loc X.env.scope x ∧ (X.fn x = true ∨ X.env.scope.names.lookup x = some .local) := by
  unfold L2.Loc
  rw [xo.sc]
  unfold tgN at h
  rw [Bool.or_eq_true, Bool.and_eq_true, decide_eq_true_eq, decide_eq_true_eq] at h
  rcases h with h | h
  · exact ⟨.inl h, .inr h⟩
  · exact ⟨.inr h.1, .inl (xo.fn x h.2)⟩
theorem set_at {α : Type} {l : List (Option α)} {i j : Nat} {x y : α} (h : (l.set i (some x))[j]? = some (some y)) : (i = j ∧ x = y ∧ i < l.length) ∨ (i ≠ j ∧ l[j]? = some (some y)) := by
  by_cases hj : i = j
  · subst hj
    by_cases hl : i < l.length
    · rw [List.getElem?_set_self hl] at h
      cases h
      exact .inl ⟨rfl, rfl, hl⟩
    · rw [List.getElem?_eq_none (by simpa using hl)] at h; cases h
  · rw [List.getElem?_set_ne hj] at h
    exact .inr ⟨hj, h⟩
/-- where the names' own lists stand -/
def OwnP (σ : L2.St) (ρ : Env) (P : Addr → Prop) : Prop := ∀ (i : Nat) (s : Sl) (a : Addr), ρ[i]? = some (some s) → s.isOwn = true → σ[i]? = some (some (.ref a)) → P a
theorem OwnP.set {σ : L2.St} {ρ : Env} {P : Addr → Prop} (h : OwnP σ ρ P) (i : Nat) (v : V) (d : D) : OwnP (σ.set i (some v)) (ρ.set i (some (.val d))) P := fun j s a e o q => by
  rcases set_at e with ⟨rfl, rfl, _⟩ | ⟨hn, e⟩
  · cases o
  · rw [List.getElem?_set_ne hn] at q
    exact h j s a e o q
/-- a target takes data: the slots that change are its own -/
def PGm (Γ : Tab) (k : Nat) (tg : Tg) (c : CC) (e : Expr) : Prop := ∀ X Wx, XOk Γ k c X Wx → X.calm = true → ∃ g, PG X e g ∧
  ∀ (W : Wd) (H : Hp) (σ : L2.St) (ρ : Env) (v : V) (d : D) (Q : Env → Prop) (Post : L2.St → Hp → Prop), W.Ok H → EnvOk X.K X.mg W H σ ρ → Den X.K X.mg W v d → tgW tg d ρ Q →
    (∀ σ' ρ', EnvOk X.K X.mg W H σ' ρ' → (∀ vs : List Nat, (∀ i ∈ tg.ix, i ∈ vs) → wipe σ' vs = wipe σ vs) → (∀ P, OwnP σ ρ P → OwnP σ' ρ' P) → Q ρ' → Post σ' H) → g v σ H Post
theorem pgs_ok (xo : XOk Γ k c X Wx) : ∀ (is : List Nat) (es : List Expr), chkTg.chkNms c is es = true → ∃ g, PGs X es g ∧ (assignEach es X.env).length = is.length ∧ (assignEach es X.env).findIdx? (·.1) = none ∧
    ∀ (W : Wd) (H : Hp) (σ : L2.St) (ρ : Env) (vs : List V) (ds : List D) (Post : L2.St → Hp → Prop), W.Ok H → EnvOk X.K X.mg W H σ ρ → DenAll X.K X.mg W vs ds → ds.length = is.length →
      (∀ σ', EnvOk X.K X.mg W H σ' (setAll ρ is ds) → (∀ us : List Nat, (∀ i ∈ is, i ∈ us) → wipe σ' us = wipe σ us) → (∀ P, OwnP σ ρ P → OwnP σ' (setAll ρ is ds) P) → Post σ' H) → g vs σ H Post
  | [], [], _ => ⟨gNil, pgs_nil, rfl, rfl, fun W H σ ρ vs ds Post ok eo t hl q => by
      cases ds with
      | nil => cases t; exact ⟨rfl, q σ eo (fun _ _ => rfl) fun _ h => h⟩
      | cons d r => cases hl⟩
  | [], _ :: _, h => by rw [chkTg.chkNms] at h <;> first | cases h | (intros; simp_all)
  | _ :: _, [], h => by rw [chkTg.chkNms] at h <;> first | cases h | (intros; simp_all)
  | i :: is, e :: es, h => by
    cases e with
    | Name x p =>
      rw [chkTg.chkNms] at h
      simp only [Bool.and_eq_true, decide_eq_true_eq] at h
      obtain ⟨⟨h1, h2⟩, h3⟩ := h
      obtain ⟨g, pg, l1, l2, hq⟩ := pgs_ok xo is es h3
      refine ⟨gCons (gName i) g, pgs_cons (pg_name xo.nd (by rw [xo.N]; exact h1) (loc_ok xo h2).1 (loc_ok xo h2).2) pg rfl, ?_, ?_, fun W H σ ρ vs ds Post ok eo t hl q => ?_⟩
      · show (assignEach es X.env).length + 1 = is.length + 1
        rw [l1]
      · show ((false, assign (.Name x p) X.env) :: assignEach es X.env).findIdx? (·.1) = none
        rw [List.findIdx?_cons, l2]
        rfl
      · cases ds with
        | nil => cases hl
        | cons d r =>
          cases t with
          | cons a b =>
            refine ⟨_, _, rfl, ?_⟩
            refine hq W H _ (ρ.set i (some (.val d))) _ r Post ok (eo.set i a) b (Nat.succ.inj hl) fun σ' eo' hw ho => q σ' eo' (fun us hu => ?_) fun P hp => ho P (hp.set i _ d)
            rw [hw us fun j hj => hu j (List.mem_cons_of_mem _ hj), wipe_set (hu i List.mem_cons_self)]
    | _ => rw [chkTg.chkNms] at h <;> first | cases h | (intros; simp_all)
theorem pgm_ok {tg : Tg} (h : chkTg c tg e = true) : PGm Γ k tg c e := by
  intro X Wx xo hc
  cases tg with
  | nm i =>
    cases e with
    | Name x p =>
      unfold chkTg at h
      simp only [Bool.and_eq_true, decide_eq_true_eq] at h
      refine ⟨gName i, pg_name xo.nd (by rw [xo.N]; exact h.1) (loc_ok xo h.2).1 (loc_ok xo h.2).2, fun W H σ ρ v d Q Post ok eo hd hw q => ?_⟩
      exact q _ _ (eo.set i hd) (fun vs hv => wipe_set (hv i List.mem_cons_self)) (fun P hp => hp.set i v d) hw
    | _ => cases h
  | tp is =>
    cases e with
    | Tuple es n p =>
      have h : chkTg.chkNms c is es = true := h
      obtain ⟨g, pg, l1, l2, hq⟩ := pgs_ok xo is es h
      refine ⟨gTup X.K _ g, pg_tup hc pg rfl l2, fun W H σ ρ v d Q Post ok eo hd hw q => ?_⟩
      cases d with
      | tup ds =>
        obtain ⟨hl, hw⟩ := hw
        obtain ⟨a, vs, rfl, ha, _, t⟩ := bd_tup ok (.of hd)
        refine ⟨a, vs, rfl, .of ha, by rw [l1, t.length, hl], hq W H σ ρ vs ds Post ok eo t hl fun σ' eo' hw' ho => q σ' _ eo' hw' ho hw⟩
      | _ => exact hw.elim
    | _ => cases h
end
end PL

namespace PL
open PySem PySem.Spec PyProof.Rows L2
section
variable {Γ : Tab} {k : Nat} {c : CC} {X : Cx} {Wx : WX} {e : Expr} {es : List Expr} {me : ME} {mes : List ME}
/-! ### what is walked: a row of operands (b: read where they stand) -/
def Rc : Bool → Wd → Hp → Wd → Hp → Prop
  | true, W, H, W', H' => W'.Ok H' ∧ Grow W H W' H'
  | false, W, H, W', H' => W'.Ok H' ∧ W.Le W'
theorem Rc.ok {b : Bool} {W W' : Wd} {H H' : Hp} (h : Rc b W H W' H') : W'.Ok H' := by cases b <;> exact h.1
def rowW (Γ : Tab) : Bool → List ME → Env → (List D → Prop) → QX → Prop
  | true => WAs Γ
  | false => WLs Γ
def POm (Γ : Tab) (k : Nat) (b : Bool) (me : ME) (c : CC) (e : Expr) : Prop := ∀ X Wx, XOk Γ k c X Wx → ∃ t, PE X e t ∧
  ∀ (W : Wd) (H : Hp) (σ : L2.St) (ρ : Env) (Q : List D → Prop) (QX : QX) (Post : VK), W.Ok H → EnvOk X.K X.mg W H σ ρ → rowW Γ b [me] ρ Q QX → XPost X Wx W H σ QX →
    (∀ v W' H' d, W'.Ok H' → Grow W H W' H' → BDen X.K X.mg W' H' v d → (∀ W2 H2, Rc b W' H' W2 H2 → BDen X.K X.mg W2 H2 v d) → Q [d] → Post v H') → t σ H Post
def PRm (Γ : Tab) (k : Nat) (b : Bool) (mes : List ME) (c : CC) (es : List Expr) : Prop := ∀ X Wx, XOk Γ k c X Wx → ∃ t, PA X es t ∧
  ∀ (W : Wd) (H : Hp) (σ : L2.St) (ρ : Env) (Q : List D → Prop) (QX : QX) (Post : List V → Hp → Prop), W.Ok H → EnvOk X.K X.mg W H σ ρ → rowW Γ b mes ρ Q QX → XPost X Wx W H σ QX →
    (∀ vs W' H' ds, W'.Ok H' → Grow W H W' H' → BAll X.K X.mg W' H' vs ds → (∀ W2 H2, Rc b W' H' W2 H2 → BAll X.K X.mg W2 H2 vs ds) → Q ds → Post vs H') → t σ H Post
theorem pom_a (h : PAm Γ k me c e) : POm Γ k true me c e := by
  intro X Wx xo
  obtain ⟨t, pt, ht⟩ := h X Wx xo
  refine ⟨t, pt, fun W H σ ρ Q QX Post ok eo hw xp q => ?_⟩
  have hw : WAs Γ [me] ρ Q QX := hw
  rw [WAs] at hw
  refine ht W H σ ρ _ QX _ ok eo hw xp fun v H' ⟨W', d, ok', g', b', q'⟩ => ?_
  rw [WAs] at q'
  exact q v W' H' d ok' g' b' (fun W2 H2 r => b'.grow r.2) q'
theorem pom_l (h : PEm Γ k me c e) : POm Γ k false me c e := by
  intro X Wx xo
  obtain ⟨t, pt, ht⟩ := h X Wx xo
  refine ⟨t, pt, fun W H σ ρ Q QX Post ok eo hw xp q => ?_⟩
  have hw : WLs Γ [me] ρ Q QX := hw
  rw [WLs] at hw
  refine ht W H σ ρ _ QX _ ok eo hw xp fun v H' o => ?_
  obtain ⟨W', d, ok', g', b', q'⟩ := Out.toD (Q := fun d => WLs Γ [] ρ (fun ds => Q (d :: ds)) QX) o
  rw [WLs] at q'
  exact q v W' H' d ok' g' (.of b') (fun W2 H2 r => .of (b'.le r.2)) q'
theorem prm_a (h : PAs Γ k mes c es) : PRm Γ k true mes c es := by
  intro X Wx xo
  obtain ⟨t, pt, ht⟩ := h X Wx xo
  refine ⟨t, pt, fun W H σ ρ Q QX Post ok eo hw xp q => ?_⟩
  exact ht W H σ ρ _ QX _ ok eo hw xp fun vs W' H' ds ok' g' b' q' => q vs W' H' ds ok' g' b' (fun W2 H2 r => b'.grow r.2) q'
theorem prm_l (h : PLs Γ k mes c es) : PRm Γ k false mes c es := by
  intro X Wx xo
  obtain ⟨t, pt, ht⟩ := h X Wx xo
  refine ⟨t, pt, fun W H σ ρ Q QX Post ok eo hw xp q => ?_⟩
  exact ht W H σ ρ _ QX _ ok eo hw xp fun vs W' H' ds ok' g' b' q' => q vs W' H' ds ok' g' (.of b') (fun W2 H2 r => .of (b'.le r.2)) q'
/-- what is walked comes -/
def PIm (Γ : Tab) (k : Nat) (b : Bool) (ik : IK) (its : List ME) (c : CC) (tg iter : Expr) : Prop := ∀ X Wx, XOk Γ k c X Wx → ∃ wi, PI X tg iter wi ∧
  ∀ (W : Wd) (H : Hp) (σ : L2.St) (ρ : Env) (Q : List D → Prop) (QX : QX) (R : It → Hp → Prop), W.Ok H → EnvOk X.K X.mg W H σ ρ → rowW Γ b its ρ (fun ds => itW ik ds Q) QX → XPost X Wx W H σ QX →
    (∀ J W1 H1 items, W1.Ok H1 → Grow W H W1 H1 → ItAt X.K X.mg (Rc b W1 H1) J items → Q items → R J H1) → wi σ H R
theorem bd_seq {W : Wd} {H : Hp} (ok : W.Ok H) {v : V} {d : D} (b : BDen X.K X.mg W H v d) : (∀ xs, d = .lst xs → ∃ a vs, v = .ref a ∧ SqL X.K H a vs ∧ vs.length = xs.length) ∧ (∀ xs, d = .tup xs → ∃ a vs, v = .ref a ∧ SqT X.K H a vs ∧ vs.length = xs.length) := by
  refine ⟨fun xs e => ?_, fun xs e => ?_⟩
  · subst e
    obtain ⟨o, vs, rfl, e, t⟩ := bd_lst ok b
    exact ⟨o, vs, rfl, .of e, t.length⟩
  · subst e
    obtain ⟨o, vs, rfl, e, _, t⟩ := bd_tup ok b
    exact ⟨o, vs, rfl, .of e, t.length⟩
theorem itW_one {ik : IK} {d : D} {Q : List D → Prop} (h : itW ik [d] Q) : (∃ n, ik = .range1 ∧ d = .int n) ∨ ((ik = .seq ∨ ik = .enum ∨ ik = .rev) ∧ ∃ xs, d = .lst xs ∨ d = .tup xs) ∨ (ik = .seq ∧ ∃ ns, d = .scr ns) := by
  cases ik <;> cases d <;> first | exact h.elim | exact .inl ⟨_, rfl, rfl⟩ | exact .inr (.inl ⟨by simp, _, .inl rfl⟩) | exact .inr (.inl ⟨by simp, _, .inr rfl⟩) | exact .inr (.inr ⟨rfl, _, rfl⟩)
theorem pim_seq {b : Bool} {a : ME} {tg : Expr} (h : POm Γ k b a c e) : PIm Γ k b .seq [a] c tg e := by
  intro X Wx xo
  obtain ⟨t, pt, ht⟩ := h X Wx xo
  refine ⟨_, pi_seq pt, fun W H σ ρ Q QX R ok eo hw xp q => ?_⟩
  refine ht W H σ ρ _ QX _ ok eo hw xp fun v W' H' d ok' g' b' st hq => ?_
  rcases itW_one hq with ⟨n, h1, _⟩ | ⟨_, xs, rfl | rfl⟩ | ⟨h1, ns, rfl⟩
  · cases h1
  · obtain ⟨a, vs, rfl, hv, _⟩ := (bd_seq ok' b').1 xs rfl
    exact ⟨a, rfl, .inl ⟨⟨vs, hv⟩, q _ W' H' xs ok' g' (at_list fun W2 H2 r => ⟨r.ok, st W2 H2 r⟩) hq⟩⟩
  · obtain ⟨a, vs, rfl, hv, _⟩ := (bd_seq ok' b').2 xs rfl
    exact ⟨a, rfl, .inr ⟨⟨vs, hv⟩, q _ W' H' xs ok' g' (at_tup fun W2 H2 r => ⟨r.ok, st W2 H2 r⟩) hq⟩⟩
  · obtain ⟨a, rfl, hv⟩ := bd_scr ok' b'
    exact ⟨a, rfl, .inl ⟨⟨_, hv⟩, q _ W' H' _ ok' g' (at_scr fun W2 H2 r => ⟨r.ok, st W2 H2 r⟩) hq⟩⟩
theorem pim_rev {b : Bool} {a : ME} {tg : Expr} {p pos : Pos} (hg : glb c "reversed" = true) (hf : ("reversed" : Str) ∈ Γ.frees) (hs : star e = false) (h : POm Γ k b a c e) : PIm Γ k b .rev [a] c tg (.Call (.Name "reversed" p) [e] [] pos) := by
  intro X Wx xo
  obtain ⟨t, pt, ht⟩ := h X Wx xo
  refine ⟨_, RT.pi_revA (glb_ok xo hg).1 (xo.g.fr _ hf) pt (star_cons hs _), fun W H σ ρ Q QX R ok eo hw xp q => ?_⟩
  refine ht W H σ ρ _ QX _ ok eo hw xp fun v W' H' d ok' g' b' st hq => ?_
  rcases itW_one hq with ⟨n, h1, _⟩ | ⟨_, xs, rfl | rfl⟩ | ⟨h1, ns, rfl⟩
  · cases h1
  · obtain ⟨a, vs, rfl, hv, hl⟩ := (bd_seq ok' b').1 xs rfl
    refine ⟨a, vs, rfl, .inl ⟨hv, ?_⟩⟩
    rw [hl]
    exact q _ W' H' _ ok' g' (at_revL fun W2 H2 r => ⟨r.ok, st W2 H2 r⟩) hq
  · obtain ⟨a, vs, rfl, hv, hl⟩ := (bd_seq ok' b').2 xs rfl
    refine ⟨a, vs, rfl, .inr ⟨hv, ?_⟩⟩
    rw [hl]
    exact q _ W' H' _ ok' g' (at_revT fun W2 H2 r => ⟨r.ok, st W2 H2 r⟩) hq
  · cases h1
theorem bal1 {W : Wd} {H : Hp} {vs : List V} {d : D} (h : BAll X.K X.mg W H vs [d]) : ∃ v, vs = [v] ∧ BDen X.K X.mg W H v d := by
  cases h with
  | cons a b => cases b; exact ⟨_, rfl, a⟩
theorem bal2 {W : Wd} {H : Hp} {vs : List V} {d d' : D} (h : BAll X.K X.mg W H vs [d, d']) : ∃ v v', vs = [v, v'] ∧ BDen X.K X.mg W H v d ∧ BDen X.K X.mg W H v' d' := by
  cases h with
  | cons a b =>
    obtain ⟨v', rfl, b'⟩ := bal1 b
    exact ⟨_, _, rfl, a, b'⟩
theorem starE (hs : star e = false) (env : PySem.Env) : starEach [e] env = [(false, eval e env)] := star_cons hs env
theorem pim_enum {b : Bool} {a : ME} {p pos tpos : Pos} {elts : List Expr} {kk : Nat} (hg : glb c "enumerate" = true) (hf : ("enumerate" : Str) ∈ Γ.frees) (hs : star e = false) (h : PRm Γ k b [a] c [e]) : PIm Γ k b .enum [a] c (.Tuple elts kk tpos) (.Call (.Name "enumerate" p) [e] [] pos) := by
  intro X Wx xo
  obtain ⟨t, pt, ht⟩ := h X Wx xo
  refine ⟨_, pi_enumA (glb_ok xo hg).1 (xo.g.fr _ hf) pt (starE hs _), fun W H σ ρ Q QX R ok eo hw xp q => ?_⟩
  refine ht W H σ ρ _ QX _ ok eo hw xp fun vs W' H' ds ok' g' b' st hq => ?_
  have h1 : ∃ d, ds = [d] := by
    cases ds with
    | nil => exact hq.elim
    | cons d r =>
      cases r with
      | nil => exact ⟨d, rfl⟩
      | cons d' r => cases d <;> exact hq.elim
  obtain ⟨d, rfl⟩ := h1
  obtain ⟨v, rfl, b1⟩ := bal1 b'
  have st' : ∀ W2 H2, Rc b W' H' W2 H2 → BDen X.K X.mg W2 H2 v d := fun W2 H2 r => by
    obtain ⟨v2, e2, b2⟩ := bal1 (st W2 H2 r)
    cases e2
    exact b2
  rcases itW_one hq with ⟨n, h1, _⟩ | ⟨_, xs, rfl | rfl⟩ | ⟨h1, ns, rfl⟩
  · cases h1
  · obtain ⟨a, vs, rfl, hv, hl⟩ := (bd_seq ok' b1).1 xs rfl
    exact ⟨a, vs, rfl, .inl ⟨hv, q _ W' H' _ ok' g' (at_enumL fun W2 H2 r => ⟨r.ok, st' W2 H2 r⟩) hq⟩⟩
  · obtain ⟨a, vs, rfl, hv, hl⟩ := (bd_seq ok' b1).2 xs rfl
    exact ⟨a, vs, rfl, .inr ⟨hv, q _ W' H' _ ok' g' (at_enumT fun W2 H2 r => ⟨r.ok, st' W2 H2 r⟩) hq⟩⟩
  · cases h1
theorem pim_r1 {b : Bool} {a : ME} {tg : Expr} {p pos : Pos} (hg : glb c "range" = true) (hf : ("range" : Str) ∈ Γ.frees) (hs : star e = false) (h : PRm Γ k b [a] c [e]) : PIm Γ k b .range1 [a] c tg (.Call (.Name "range" p) [e] [] pos) := by
  intro X Wx xo
  obtain ⟨t, pt, ht⟩ := h X Wx xo
  refine ⟨_, pi_range1 (glb_ok xo hg).1 (xo.g.fr _ hf) pt (starE hs _), fun W H σ ρ Q QX R ok eo hw xp q => ?_⟩
  refine ht W H σ ρ _ QX _ ok eo hw xp fun vs W' H' ds ok' g' b' st hq => ?_
  have h1 : ∃ n, ds = [.int n] ∧ B62 n ∧ Q (rgD 0 n.toNat) := by
    cases ds with
    | nil => exact hq.elim
    | cons d r =>
      cases r with
      | nil => cases d <;> first | exact ⟨_, rfl, hq⟩ | exact hq.elim
      | cons d' r => cases d <;> exact hq.elim
  obtain ⟨n, rfl, hB, hq⟩ := h1
  obtain ⟨v, rfl, b1⟩ := bal1 b'
  cases bd_int b1
  refine ⟨n, rfl, by have := hB.2; omega, by have := hB.1; omega, q _ W' H' _ ok' g' (at_range fun W2 H2 r => r.ok) hq⟩
theorem star2 {e' : Expr} (hs : star e = false) (env : PySem.Env) : starEach [e, e'] env = (false, eval e env) :: starEach [e'] env := star_cons hs env
theorem pim_r2 {b : Bool} {mes : List ME} {e' tg : Expr} {p pos : Pos} (hg : glb c "range" = true) (hf : ("range" : Str) ∈ Γ.frees) (hs : star e = false) (hs' : star e' = false) (h : PRm Γ k b mes c [e, e']) : PIm Γ k b .range2 mes c tg (.Call (.Name "range" p) [e, e'] [] pos) := by
  intro X Wx xo
  obtain ⟨t, pt, ht⟩ := h X Wx xo
  refine ⟨_, pi_range2 (glb_ok xo hg).1 (xo.g.fr _ hf) pt (by rw [star2 hs, starE hs']) (starE hs' _), fun W H σ ρ Q QX R ok eo hw xp q => ?_⟩
  refine ht W H σ ρ _ QX _ ok eo hw xp fun vs W' H' ds ok' g' b' st hq => ?_
  have h1 : ∃ n m, ds = [.int n, .int m] ∧ (B62 n ∧ B62 m) ∧ Q (rgD n (m - n).toNat) := by
    unfold itW at hq
    split at hq <;> first | exact hq.elim | exact ⟨_, _, rfl, hq⟩ | (rename_i z; cases z)
  obtain ⟨n, m, rfl, hB, hq⟩ := h1
  obtain ⟨v, v', rfl, b1, b2⟩ := bal2 b'
  cases bd_int b1
  cases bd_int b2
  refine ⟨n, m, rfl, ?_, q _ W' H' _ ok' g' (at_range fun W2 H2 r => r.ok) hq⟩
  have := hB.1.1
  have := hB.1.2
  have := hB.2.1
  have := hB.2.2
  omega
theorem bal3 {W : Wd} {H : Hp} {vs : List V} {d d' d'' : D} (h : BAll X.K X.mg W H vs [d, d', d'']) : ∃ v v' v'', vs = [v, v', v''] ∧ BDen X.K X.mg W H v d ∧ BDen X.K X.mg W H v' d' ∧ BDen X.K X.mg W H v'' d'' := by
  cases h with
  | cons a b =>
    obtain ⟨v', v'', rfl, b', b''⟩ := bal2 b
    exact ⟨_, _, _, rfl, a, b', b''⟩
theorem pim_r3 {b : Bool} {mes : List ME} {e' e'' tg : Expr} {p pos : Pos} (hg : glb c "range" = true) (hf : ("range" : Str) ∈ Γ.frees) (hs : star e = false) (hs2 : ([e', e''].all fun e => !star e) = true) (h : PRm Γ k b mes c [e, e', e'']) : PIm Γ k b .range3 mes c tg (.Call (.Name "range" p) [e, e', e''] [] pos) := by
  intro X Wx xo
  obtain ⟨t, pt, ht⟩ := h X Wx xo
  refine ⟨_, pi_range3 (glb_ok xo hg).1 (xo.g.fr _ hf) pt (star_cons hs _) (noStar_any _ hs2), fun W H σ ρ Q QX R ok eo hw xp q => ?_⟩
  refine ht W H σ ρ _ QX _ ok eo hw xp fun vs W' H' ds ok' g' b' st hq => ?_
  have h1 : ∃ n m j, ds = [.int n, .int m, .int j] ∧ ∃ z : Nat, L2.RgC n m j z ∧ Q ((List.range z).map fun i => D.int (n + (i : Nat) * j)) := by
    unfold itW at hq
    split at hq <;> first | exact hq.elim | exact ⟨_, _, _, rfl, hq⟩ | (rename_i z; cases z)
  obtain ⟨n, m, j, rfl, z, hR, hq⟩ := h1
  obtain ⟨v, v', v'', rfl, b1, b2, b3⟩ := bal3 b'
  cases bd_int b1
  cases bd_int b2
  cases bd_int b3
  exact ⟨n, m, j, z, rfl, hR, q _ W' H' _ ok' g' (at_rangeC fun W2 H2 r => r.ok) hq⟩
theorem pim_zip {b : Bool} {mes : List ME} {e' : Expr} {p pos tpos : Pos} {elts : List Expr} {kk : Nat} (hg : glb c "zip" = true) (hf : ("zip" : Str) ∈ Γ.frees) (hs : star e = false) (hs' : star e' = false) (h : PRm Γ k b mes c [e, e']) : PIm Γ k b .zip mes c (.Tuple elts kk tpos) (.Call (.Name "zip" p) [e, e'] [] pos) := by
  intro X Wx xo
  obtain ⟨t, pt, ht⟩ := h X Wx xo
  refine ⟨_, RZ.pi_zipA (glb_ok xo hg).1 (xo.g.fr _ hf) pt (star2 hs _) (by rw [starE hs']; rfl), fun W H σ ρ Q QX R ok eo hw xp q => ?_⟩
  refine ht W H σ ρ _ QX _ ok eo hw xp fun vs W' H' ds ok' g' b' st hq => ?_
  have h1 : (∃ xs ys, ds = [.lst xs, .lst ys] ∧ Q ((xs.zip ys).map fun p => D.tup [p.1, p.2])) ∨ (∃ xs ys, ds = [.tup xs, .tup ys] ∧ Q ((xs.zip ys).map fun p => D.tup [p.1, p.2])) := by
    unfold itW at hq
    split at hq <;> first | exact hq.elim | exact .inl ⟨_, _, rfl, hq⟩ | exact .inr ⟨_, _, rfl, hq⟩ | (rename_i z; cases z)
  have two : ∀ {d d'}, ds = [d, d'] → ∃ v v', vs = [v, v'] ∧ (BDen X.K X.mg W' H' v d ∧ BDen X.K X.mg W' H' v' d') ∧ ∀ W2 H2, Rc b W' H' W2 H2 → BDen X.K X.mg W2 H2 v d ∧ BDen X.K X.mg W2 H2 v' d' := fun {d d'} e => by
    subst e
    obtain ⟨v, v', rfl, b1, b2⟩ := bal2 b'
    refine ⟨v, v', rfl, ⟨b1, b2⟩, fun W2 H2 r => ?_⟩
    obtain ⟨w, w', e2, c1, c2⟩ := bal2 (st W2 H2 r)
    cases e2
    exact ⟨c1, c2⟩
  rcases h1 with ⟨xs, ys, e, hq⟩ | ⟨xs, ys, e, hq⟩
  · obtain ⟨v, v', rfl, ⟨b1, b2⟩, st'⟩ := two e
    obtain ⟨a, vs, rfl, hv, _⟩ := (bd_seq ok' b1).1 xs rfl
    obtain ⟨a', vs', rfl, hv', _⟩ := (bd_seq ok' b2).1 ys rfl
    exact ⟨a, a', vs, vs', rfl, .inl ⟨hv, hv', q _ W' H' _ ok' g' (at_zipL (fun W2 H2 r => ⟨r.ok, (st' W2 H2 r).1⟩) fun W2 H2 r => ⟨r.ok, (st' W2 H2 r).2⟩) hq⟩⟩
  · obtain ⟨v, v', rfl, ⟨b1, b2⟩, st'⟩ := two e
    obtain ⟨a, vs, rfl, hv, _⟩ := (bd_seq ok' b1).2 xs rfl
    obtain ⟨a', vs', rfl, hv', _⟩ := (bd_seq ok' b2).2 ys rfl
    exact ⟨a, a', vs, vs', rfl, .inr ⟨hv, hv', q _ W' H' _ ok' g' (at_zipT (fun W2 H2 r => ⟨r.ok, (st' W2 H2 r).1⟩) fun W2 H2 r => ⟨r.ok, (st' W2 H2 r).2⟩) hq⟩⟩
end
end PL

namespace PL
open PySem PySem.Spec PyProof.Rows L2
section
variable {K : PySem.W.Frag} {mg : Str → Option Value}
theorem wipe_idem (σ : L2.St) (vs : List Nat) : wipe (wipe σ vs) vs = wipe σ vs := by
  have key : ∀ (us : List Nat), (∀ u ∈ us, u ∈ vs) → wipe (wipe σ vs) us = wipe σ vs := by
    intro us
    induction us with
    | nil => intro _; rfl
    | cons u us ih =>
      intro hu
      show (wipe (wipe σ vs) us).set u none = wipe σ vs
      rw [ih fun v hv => hu v (List.mem_cons_of_mem _ hv)]
      apply List.ext_getElem?
      intro j
      by_cases hj : u = j
      · subst hj
        by_cases hl : u < (wipe σ vs).length
        · rw [List.getElem?_set_self hl]
          have : ∀ (ws : List Nat), u ∈ ws → (wipe σ ws)[u]? = some none := by
            intro ws
            induction ws with
            | nil => intro z; simp at z
            | cons w ws ih2 =>
              intro z
              have hl2 : u < (wipe σ ws).length := by rw [wipe_length] at hl ⊢; exact hl
              show ((wipe σ ws).set w none)[u]? = some none
              by_cases hw : w = u
              · subst hw; rw [List.getElem?_set_self hl2]
              · rw [List.getElem?_set_ne hw]
                exact ih2 ((List.mem_cons.mp z).resolve_left fun y => hw y.symm)
          exact (this vs (hu u List.mem_cons_self)).symm
        · rw [List.getElem?_eq_none (by rw [List.length_set]; omega), List.getElem?_eq_none (by omega)]
      · rw [List.getElem?_set_ne hj]
  exact key vs fun _ h => h
end
section
variable {Γ : Tab} {k : Nat} {c : CC} {X : Cx} {Wx : WX} {e : Expr} {es : List Expr} {me : ME} {mes : List ME}
theorem XOk.blk (xo : XOk Γ k c X Wx) (hc : X.calm = true) (s : Shared) (H : Hp) (scope : Scope) (C : Addr) (cl : List (Str × Addr)) (fp : List Addr) : XOk Γ k (c.blk scope) (X.blk s H scope (compEnvC scope cl C X.env) fp) (fun _ _ _ _ => False) where
  N := xo.N
  nd := xo.nd
  sc := by
    show relS scope X.env.scope = relS scope c.sc
    rw [xo.sc]
  calm := fun _ => hc
  tk := takes0
  rm := xo.rm
  g := xo.g
  fn := fun _ h => h
  gd := xo.gd
/-- the strongest step that an expression, a test, a target allows -/
def SE (Γ : Tab) (K : PySem.W.Frag) (mg : Str → Option Value) (me : ME) (t : TE) : Prop := ∀ (W : Wd) (H : Hp) (σ : L2.St) (ρ : Env) (Q : QS) (Post : VK), W.Ok H → EnvOk K mg W H σ ρ → WE Γ me ρ Q noX → (∀ v H', Out K mg W H Q v H' → Post v H') → t σ H Post
def ST (Γ : Tab) (K : PySem.W.Frag) (mg : Str → Option Value) (cond : List ME) (t : TT) : Prop := ∀ (W : Wd) (H : Hp) (σ : L2.St) (ρ : Env) (Q : Bool → Prop) (Post : Bool → Hp → Prop), W.Ok H → EnvOk K mg W H σ ρ → WCs Γ cond ρ Q → (∀ b W' H', W'.Ok H' → Grow W H W' H' → Q b → Post b H') → t σ H Post
def SG (K : PySem.W.Frag) (mg : Str → Option Value) (tg : Tg) (g : TG) : Prop := ∀ (W : Wd) (H : Hp) (σ : L2.St) (ρ : Env) (v : V) (d : D) (Q : Env → Prop) (Post : L2.St → Hp → Prop), W.Ok H → EnvOk K mg W H σ ρ → Den K mg W v d → tgW tg d ρ Q →
    (∀ σ' ρ', EnvOk K mg W H σ' ρ' → (∀ vs : List Nat, (∀ i ∈ tg.ix, i ∈ vs) → wipe σ' vs = wipe σ vs) → (∀ P, OwnP σ ρ P → OwnP σ' ρ' P) → Q ρ' → Post σ' H) → g v σ H Post
def bE (Γ : Tab) (K : PySem.W.Frag) (mg : Str → Option Value) (me : ME) : TE := fun σ H Post => ∀ t, SE Γ K mg me t → t σ H Post
def bT (Γ : Tab) (K : PySem.W.Frag) (mg : Str → Option Value) (cond : List ME) : TT := fun σ H Post => ∀ t, ST Γ K mg cond t → t σ H Post
def bG (K : PySem.W.Frag) (mg : Str → Option Value) (tg : Tg) : TG := fun v σ H Post => ∀ g, SG K mg tg g → g v σ H Post
theorem bE_ok : SE Γ X.K X.mg me (bE Γ X.K X.mg me) := fun W H σ ρ Q Post ok eo h q t ht => ht W H σ ρ Q Post ok eo h q
theorem bT_ok : ST Γ X.K X.mg mes (bT Γ X.K X.mg mes) := fun W H σ ρ Q Post ok eo h q t ht => ht W H σ ρ Q Post ok eo h q
theorem bG_ok {tg : Tg} : SG X.K X.mg tg (bG X.K X.mg tg) := fun W H σ ρ v d Q Post ok eo hd h q t ht => ht W H σ ρ v d Q Post ok eo hd h q
theorem pe_bE (h : PEm Γ k me c e) (xo : XOk Γ k c X Wx) : PE X e (bE Γ X.K X.mg me) := by
  obtain ⟨t, pt, ht⟩ := h X Wx xo
  exact ⟨fun pins s σ H Q I hw => pt.run pins s σ H Q I (hw t fun W H σ ρ Q Post ok eo h q => ht W H σ ρ Q noX Post ok eo h .no q)⟩
theorem pg_bG {tg : Tg} (h : PGm Γ k tg c e) (xo : XOk Γ k c X Wx) (hc : X.calm = true) : PG X e (bG X.K X.mg tg) := by
  obtain ⟨t, pt, ht⟩ := h X Wx xo hc
  exact ⟨fun pins s σ H v u Q I r hw => pt.run pins s σ H v u Q I r (hw t fun W H σ ρ v d Q Post ok eo hd h q => ht W H σ ρ v d Q Post ok eo hd h q)⟩
/-- a comprehension's tests -/
inductive PCs (Γ : Tab) (k : Nat) (c : CC) : List ME → List Expr → Prop
  | nil : PCs Γ k c [] []
  | one {m : ME} {e : Expr} : PTm Γ k m c e → PCs Γ k c [m] [e]
theorem pts_bT (h : PCs Γ k c mes es) (xo : XOk Γ k c X Wx) : PTs X es (bT Γ X.K X.mg mes) := by
  have : ∃ t, PTs X es t ∧ ST Γ X.K X.mg mes t := by
    cases h with
    | nil =>
      refine ⟨tYes, pts_nil, fun W H σ ρ Q Post ok eo h q => ?_⟩
      rw [WCs] at h
      exact q true W H ok (.refl _ _) h
    | one h =>
      obtain ⟨t, pt, ht⟩ := h X Wx xo
      refine ⟨t, pts_one pt, fun W H σ ρ Q Post ok eo h q => ?_⟩
      rw [WCs] at h
      exact ht W H σ ρ Q noX Post ok eo h .no q
  obtain ⟨t, pt, ht⟩ := this
  exact ⟨fun pins s σ H Q I hw => pt.run pins s σ H Q I (hw t ht)⟩
theorem lc_post {elt : ME} {tg : Tg} {cond : List ME} {vs : List Nat} (hix : ∀ i ∈ tg.ix, i ∈ vs) {J : It} {W W1 : Wd} {H H1 : Hp} {σ : L2.St} {ρ : Env} {items : List D} {Q : QS} {Post : VK}
    (ok : W.Ok H) (g1 : Grow W H W1 H1) (ok1 : W1.Ok H1) (eo : EnvOk X.K X.mg W H σ ρ) (it : ItAt X.K X.mg (Rc true W1 H1) J items)
    (hq : lcW (fun x k => tgW tg x (wipeE ρ vs) fun ρ' => WCs Γ cond ρ' fun b => if b = true then WE Γ elt ρ' (fun r => k (some r.d)) noX else k none) Q items [])
    (q : ∀ v H', Out X.K X.mg W H Q v H' → Post v H') :
    ∀ D, H1 D = none → ∃ W : Nat → Nat → Hp → Prop, (∃ m, W 0 m (upd H1 D (.lst []))) ∧ ∀ i m H, W i m H →
  (J.stop i H ∧ Post (.ref D) H) ∨ (J.go i H ∧ ∃ Nx : Hp → Prop, (∀ H', Nx H' → ∃ m', m' < m ∧ W (i + 1) m' H') ∧ ∀ x H', J.yld i H x H' → bG X.K X.mg tg x (wipe σ vs) H' fun σ2 H2 => wipe σ2 vs = wipe σ vs ∧ bT Γ X.K X.mg cond σ2 H2 fun b H3 =>
    if b = true then bE Γ X.K X.mg elt σ2 H3 fun y H4 => ∃ acc, H4 D = some (.lst acc) ∧ acc.length < sizeLine ∧ Nx (upd H4 D (.lst (acc ++ [y]))) else Nx H3) := by
  intro D hD
  generalize hstep : (fun (x : PL.D) (k : Option PL.D → Prop) => tgW tg x (wipeE ρ vs) fun ρ' => WCs Γ cond ρ' fun b => if b = true then WE Γ elt ρ' (fun r => k (some r.d)) noX else k none) = step at hq
  let Iv : List PL.D → Hp → Prop := fun rest H' => ∃ W' vacc acc, W'.Ok H' ∧ Grow W1 H1 W' H' ∧ H' D = some (.lst vacc) ∧ W'.free D ∧ DenAll X.K X.mg W' vacc acc ∧ lcW step Q rest acc
  refine ⟨fun i m H' => m = items.length - i ∧ i ≤ items.length ∧ Iv (items.drop i) H', ⟨_, rfl, Nat.zero_le _, ?_⟩, ?_⟩
  · exact ⟨W1, [], [], ok1.new hD, .new hD, upd_same, ok1.free_new hD, .nil, by rw [List.drop_zero]; exact hq⟩
  · rintro i m H' ⟨rfl, hi, W', vacc, acc, ok', g', hv, fr, dn, hl⟩
    obtain ⟨ig, is, iy⟩ := it W' H' ⟨ok', g'⟩
    by_cases hlt : i < items.length
    · right
      refine ⟨ig i hlt, fun H2 => Iv (items.drop (i + 1)) H2, fun H2 n => ⟨items.length - (i + 1), by omega, rfl, hlt, n⟩, fun x H2 hy => ?_⟩
      have hd : items[i]? = some items[i] := List.getElem?_eq_getElem hlt
      obtain ⟨W2, d, ok2, g2, dx, rfl⟩ := iy i _ x H2 hd hy
      rw [List.drop_eq_getElem_cons hlt, lcW, ← hstep] at hl
      have g02 : Grow W1 H1 W2 H2 := g'.trans g2 ok'
      have own2 : SlOk X.K X.mg W2 H2 (.ref D) (.own acc) := SlOk.grow g2 (s := .own acc) ⟨D, vacc, rfl, hv, fr, dn⟩
      refine bG_ok W2 H2 _ (wipeE ρ vs) x _ _ _ ok2 ((eo.grow (g1.trans g02 ok1)).wipe vs) dx hl fun σ2 ρ2 eo2 hw2 _ hc => ⟨?_, ?_⟩
      · rw [hw2 vs hix, wipe_idem]
      · refine bT_ok W2 H2 σ2 ρ2 _ _ ok2 eo2 hc fun b W3 H3 ok3 g3 hb => ?_
        have own3 : SlOk X.K X.mg W3 H3 (.ref D) (.own acc) := own2.grow g3
        have g03 : Grow W1 H1 W3 H3 := g02.trans g3 ok2
        cases b with
        | false =>
          simp only [Bool.false_eq_true, if_false] at hb ⊢
          obtain ⟨o, vs3, eo3, h1, h2, h3⟩ := own3
          cases eo3
          rw [hstep] at hb
          exact ⟨W3, vs3, acc, ok3, g03, h1, h2, h3, hb⟩
        | true =>
          simp only [if_true] at hb ⊢
          refine bE_ok W3 H3 σ2 ρ2 _ _ ok3 (eo2.grow g3) hb fun y H4 o => ?_
          obtain ⟨W4, d4, ok4, g4, dy, hlen, hn⟩ := Out.toD (Q := fun d => acc.length < LIM ∧ lcW _ Q (items.drop (i + 1)) (acc ++ [d])) o
          obtain ⟨o, vs4, eo4, h1, h2, h3⟩ := own3.grow g4
          cases eo4
          refine ⟨vs4, h1, by rw [h3.length, lim_eq]; exact hlen, W4, vs4 ++ [y], acc ++ [d4], ok4.put h2, (g03.trans g4 ok3).put hD, upd_same, h2, h3.append (.cons dy .nil), ?_⟩
          rw [hstep] at hn
          exact hn
    · left
      have e : i = items.length := by omega
      subst e
      refine ⟨is, q _ _ ?_⟩
      rw [List.drop_length, lcW] at hl
      refine ⟨W', .own acc, ok', g1.trans g' ok1, ⟨D, vacc, rfl, hv, fr, dn⟩, fun _ a ea => ?_, hl⟩
      cases ea
      cases z : H D with
      | none => rfl
      | some o => exact absurd hD (g1.here ok1 (by rw [z]; intro y; cases y))
theorem folded (h : isSetE e = false) (env : PySem.Env) : ∀ x, foldedSetIterable e env x = pure x := fun x => by
  cases e <;> first | rfl | cases h
theorem pem_lc {elt : ME} {tg : Tg} {own : List (Str × Nat)} {ik : IK} {its cond : List ME} {ee et ei : Expr} {eifs : List Expr} {scope : Scope} {pos : Pos} (hcm : c.calm = true) (hblk : blkC c.N c.sc scope own = true) (hse : isSetE ei = false)
    (hi : PIm Γ k true ik its c et ei) (htg : chkTg (c.blk scope) tg et = true) (hix : ∀ i ∈ tg.ix, i ∈ own.map (·.2)) (hcs : PCs Γ k (c.blk scope) cond eifs) (he : PEm Γ k elt (c.blk scope) ee) :
    PEm Γ k (.lc elt tg own ik its cond) c (.ListComp ee [⟨et, ei, eifs, 0⟩] scope pos) := by
  intro X Wx xo
  obtain ⟨wi, pi, hwi⟩ := hi X Wx xo
  have hc := xo.calm hcm
  refine ⟨_, pe_lc (g := bG X.K X.mg tg) (tt := bT Γ X.K X.mg cond) (te := bE Γ X.K X.mg elt) hc xo.nd pi (blkOk_by (by rw [xo.N, xo.sc]; exact hblk)) (fun s H C cl fp => pg_bG (pgm_ok htg) (xo.blk hc s H scope C cl fp) hc) (fun s H C cl fp => pts_bT hcs (xo.blk hc s H scope C cl fp)) (fun s H C cl fp => pe_bE he (xo.blk hc s H scope C cl fp)) (folded hse _), fun W H σ ρ Q QX Post ok eo h xp q => ?_⟩
  rw [WE] at h
  exact hwi W H σ ρ _ QX _ ok eo h xp fun J W1 H1 items ok1 g1 it hq => lc_post hix ok g1 ok1 eo it hq q
/-- the same, stored at once: name = [..] on one line -/
theorem lc_wi {elt : ME} {tg : Tg} {own : List (Str × Nat)} {ik : IK} {its cond : List ME} {wi : TI} {W : Wd} {H : Hp} {σ : L2.St} {ρ : Env} {Q : QS} {QX : QX} {Post : VK} (hix : ∀ i ∈ tg.ix, i ∈ own.map (·.2)) (ok : W.Ok H) (eo : EnvOk X.K X.mg W H σ ρ)
    (hwi : ∀ (Q : List D → Prop) (R : It → Hp → Prop), rowW Γ true its ρ (fun ds => itW ik ds Q) QX → (∀ J W1 H1 items, W1.Ok H1 → Grow W H W1 H1 → ItAt X.K X.mg (Rc true W1 H1) J items → Q items → R J H1) → wi σ H R)
    (h : WE Γ (.lc elt tg own ik its cond) ρ Q QX) (q : ∀ v H', Out X.K X.mg W H Q v H' → Post v H') : tLc wi (bG X.K X.mg tg) (bT Γ X.K X.mg cond) (bE Γ X.K X.mg elt) (own.map (·.2)) σ H Post := by
  rw [WE] at h
  exact hwi _ _ h fun J W1 H1 items ok1 g1 it hq => lc_post hix ok g1 ok1 eo it hq q
end
end PL

namespace PL
open PySem PySem.Spec PyProof.Rows L2
section
variable {Γ : Tab} {k : Nat} {c : CC} {e : Expr} {es : List Expr} {me : ME} {mes : List ME}
inductive RowA (Γ : Tab) (k : Nat) (c : CC) : List ME → List Expr → Prop
  | nil : RowA Γ k c [] []
  | cons {m : ME} {ms : List ME} {e : Expr} {es : List Expr} : star e = false → PAm Γ k m c e → PEm Γ k m c e → RowA Γ k c ms es → RowA Γ k c (m :: ms) (e :: es)
theorem RowA.pas : ∀ {mes : List ME} {es : List Expr}, RowA Γ k c mes es → PAs Γ k mes c es
  | _, _, .nil => pas_nil
  | _, _, .cons s a _ r => pas_cons s a r.pas
theorem RowA.pls : ∀ {mes : List ME} {es : List Expr}, RowA Γ k c mes es → PLs Γ k mes c es
  | _, _, .nil => pls_nil
  | _, _, .cons s _ b r => pls_cons s b r.pls
theorem RowA.prm (h : RowA Γ k c mes es) : ∀ b, PRm Γ k b mes c es
  | true => prm_a h.pas
  | false => prm_l h.pls
theorem RowA.nostar : ∀ {mes : List ME} {es : List Expr}, RowA Γ k c mes es → ∀ e ∈ es, star e = false
  | _, _, .nil, _, h => by simp at h
  | _, _, .cons s _ _ r, e, h => by
    rcases List.mem_cons.mp h with rfl | h
    · exact s
    · exact r.nostar e h
theorem RowA.one (h : RowA Γ k c mes [e]) : ∃ m, mes = [m] ∧ star e = false ∧ (∀ b, POm Γ k b m c e) := by
  cases h with
  | cons s a b r =>
    cases r
    exact ⟨_, rfl, s, fun z => match z with | true => pom_a a | false => pom_l b⟩
theorem RowA.part {el : Option Expr} (h : RowA Γ k c mes el.toList) : PartM Γ k c mes el := by
  cases el with
  | none => cases h; exact .none
  | some e =>
    cases h with
    | cons s a b r => cases r; exact .some a
theorem tp_of {c' : CC} {tg : Tg} {et : Expr} (h : chkTg c' tg et = true) (ht : isTp tg = true) : ∃ es n p, et = .Tuple es n p := by
  cases tg with
  | nm i => cases ht
  | tp is => cases et <;> first | exact ⟨_, _, _, rfl⟩ | cases h
theorem pim_of {ik : IK} {b : Bool} {c' : CC} {tg : Tg} {et ei : Expr} {as : List Expr} (hit : itArgs Γ c ik ei = some as) (row : RowA Γ k c mes as) (htp : (isTp tg || !(ik == .enum || ik == .zip)) = true) (htg : chkTg c' tg et = true) : PIm Γ k b ik mes c et ei := by
  cases ik with
  | seq =>
    unfold itArgs at hit
    cases hit
    obtain ⟨m, rfl, hs, hp⟩ := row.one
    exact pim_seq (hp b)
  | range1 =>
    unfold itArgs at hit
    split at hit <;> first | (rename_i z; cases z; done) | (rename_i z _; cases z; done) | skip
    all_goals try (cases hit; done)
    · split at hit
      rotate_left
      · cases hit
      rename_i hc
      simp only [Bool.and_eq_true, List.contains_iff_mem, beq_iff_eq] at hc
      obtain ⟨⟨rfl, h2⟩, h3⟩ := hc
      cases hit
      obtain ⟨m, rfl, hs, hp⟩ := row.one
      exact pim_r1 h2 h3 hs (row.prm b)
  | range2 =>
    unfold itArgs at hit
    split at hit <;> first | (rename_i z; cases z; done) | (rename_i z _; cases z; done) | skip
    all_goals try (cases hit; done)
    · split at hit
      rotate_left
      · cases hit
      rename_i hc
      simp only [Bool.and_eq_true, List.contains_iff_mem, beq_iff_eq] at hc
      obtain ⟨⟨rfl, h2⟩, h3⟩ := hc
      cases hit
      exact pim_r2 h2 h3 (row.nostar _ (by simp)) (row.nostar _ (by simp)) (row.prm b)
  | range3 =>
    unfold itArgs at hit
    split at hit <;> first | (rename_i z; cases z; done) | (rename_i z _; cases z; done) | skip
    all_goals try (cases hit; done)
    · split at hit
      rotate_left
      · cases hit
      rename_i hc
      simp only [Bool.and_eq_true, List.contains_iff_mem, beq_iff_eq] at hc
      obtain ⟨⟨rfl, h2⟩, h3⟩ := hc
      cases hit
      exact pim_r3 h2 h3 (row.nostar _ (by simp)) (by simp [row.nostar _ (show _ ∈ _ from List.mem_cons_of_mem _ List.mem_cons_self), row.nostar _ (show _ ∈ _ from List.mem_cons_of_mem _ (List.mem_cons_of_mem _ List.mem_cons_self))]) (row.prm b)
  | enum =>
    obtain ⟨es, n, p, rfl⟩ := tp_of htg (by cases hz : isTp tg with | true => rfl | false => rw [hz] at htp; cases htp)
    unfold itArgs at hit
    split at hit <;> first | (rename_i z; cases z; done) | (rename_i z _; cases z; done) | skip
    all_goals try (cases hit; done)
    · split at hit
      rotate_left
      · cases hit
      rename_i hc
      simp only [Bool.and_eq_true, List.contains_iff_mem, beq_iff_eq] at hc
      obtain ⟨⟨rfl, h2⟩, h3⟩ := hc
      cases hit
      obtain ⟨m, rfl, hs, hp⟩ := row.one
      exact pim_enum h2 h3 hs (row.prm b)
  | zip =>
    obtain ⟨es, n, p, rfl⟩ := tp_of htg (by cases hz : isTp tg with | true => rfl | false => rw [hz] at htp; cases htp)
    unfold itArgs at hit
    split at hit <;> first | (rename_i z; cases z; done) | (rename_i z _; cases z; done) | skip
    all_goals try (cases hit; done)
    · split at hit
      rotate_left
      · cases hit
      rename_i hc
      simp only [Bool.and_eq_true, List.contains_iff_mem, beq_iff_eq] at hc
      obtain ⟨⟨rfl, h2⟩, h3⟩ := hc
      cases hit
      exact pim_zip h2 h3 (row.nostar _ (by simp)) (row.nostar _ (by simp)) (row.prm b)
  | rev =>
    unfold itArgs at hit
    split at hit <;> first | (rename_i z; cases z; done) | (rename_i z _; cases z; done) | skip
    all_goals try (cases hit; done)
    · split at hit
      rotate_left
      · cases hit
      rename_i hc
      simp only [Bool.and_eq_true, List.contains_iff_mem, beq_iff_eq] at hc
      obtain ⟨⟨rfl, h2⟩, h3⟩ := hc
      cases hit
      obtain ⟨m, rfl, hs, hp⟩ := row.one
      exact pim_rev h2 h3 hs (hp b)
/-- the form that a test of several parts has inside -/
def PWm (Γ : Tab) (k : Nat) (me : ME) (c : CC) (e : Expr) : Prop := ∀ X Wx, XOk Γ k c X Wx → ∃ t, PW X e t ∧
    ∀ (W : Wd) (H : Hp) (σ : L2.St) (ρ : Env) (Q : Bool → Prop) (QX : QX) (Post : Bool → Hp → Prop), W.Ok H → EnvOk X.K X.mg W H σ ρ → WT Γ me ρ Q QX → XPost X Wx W H σ QX → (∀ b W' H', W'.Ok H' → Grow W H W' H' → Q b → Post b H') → t σ H Post
theorem PWm.ptm (h : PWm Γ k me c e) : PTm Γ k me c e := by
  intro X Wx xo
  obtain ⟨t, pt, ht⟩ := h X Wx xo
  exact ⟨t, pt.pt, ht⟩
theorem PTm.pwA {p : Pos} (h : PTm Γ k me c e) : PWm Γ k me c (.BoolOp .And [e] p) := by
  intro X Wx xo
  obtain ⟨t, pt, ht⟩ := h X Wx xo
  exact ⟨t, pw_and1 pt, ht⟩
theorem PTm.pwO {p : Pos} (h : PTm Γ k me c e) : PWm Γ k me c (.BoolOp .Or [e] p) := by
  intro X Wx xo
  obtain ⟨t, pt, ht⟩ := h X Wx xo
  exact ⟨t, pw_or1 pt, ht⟩
def isBo : Expr → Bool
  | .BoolOp _ _ _ => true
  | _ => false
structure PTx (Γ : Tab) (k : Nat) (me : ME) (c : CC) (e : Expr) : Prop where
  t : PTm Γ k me c e
  w : isBo e = true → PWm Γ k me c e
theorem PTx.plain {me : ME} {t : Bool} (h : PEm Γ k me c e) (hc : chkE Γ me t c e = true) (hp : plainTest e = true) : PTx Γ k me c e :=
  ⟨ptm_plain (pam_chk h hc) hp, fun z => by cases e <;> first | (cases z; done) | (cases hp; done)⟩
theorem PTx.no (h : PTm Γ k me c e) (hb : isBo e = false) : PTx Γ k me c e := ⟨h, fun z => by rw [hb] at z; cases z⟩

theorem bo_and {m : ME} {a b : Expr} {r : List Expr} {p : Pos} (ha : PTm Γ k me c a) (hb : PWm Γ k m c (.BoolOp .And (b :: r) p)) : PTx Γ k (.andt me m) c (.BoolOp .And (a :: b :: r) p) :=
  have h : PWm Γ k (.andt me m) c (.BoolOp .And (a :: b :: r) p) := ptm_andt ha hb
  ⟨h.ptm, fun _ => h⟩
theorem bo_or {m : ME} {a b : Expr} {r : List Expr} {p : Pos} (ha : PTm Γ k me c a) (hb : PWm Γ k m c (.BoolOp .Or (b :: r) p)) : PTx Γ k (.ort me m) c (.BoolOp .Or (a :: b :: r) p) :=
  have h : PWm Γ k (.ort me m) c (.BoolOp .Or (a :: b :: r) p) := ptm_ort ha hb
  ⟨h.ptm, fun _ => h⟩
theorem isEmpty_ne {α : Type} {l : List α} (h : l.isEmpty = false) : l ≠ [] := fun z => by rw [z] at h; cases h
mutual
theorem sound : ∀ (me : ME) (c : CC) (e : Expr), (chkE Γ me false c e = true → PEm Γ k me c e) ∧ (chkE Γ me true c e = true → PTx Γ k me c e)
  | .var i, c, e => by
    have main : ∀ t, chkE Γ (.var i) t c e = true → PEm Γ k (.var i) c e ∧ plainTest e = true := fun t h => by
      rw [chkE] at h
      dsimp only at h
      split at h
      · rw [Bool.and_eq_true, decide_eq_true_eq] at h
        exact ⟨pem_var h.1 h.2, rfl⟩
      · cases h
    exact ⟨fun h => (main _ h).1, fun h => .plain (main _ h).1 h (main _ h).2⟩
  | .cst k', c, e => by
    have main : ∀ t, chkE Γ (.cst k') t c e = true → PEm Γ k (.cst k') c e ∧ plainTest e = true := fun t h => by
      rw [chkE] at h
      dsimp only at h
      split at h
      · exact ⟨pem_cst h, rfl⟩
      · cases h
    exact ⟨fun h => (main _ h).1, fun h => .plain (main _ h).1 h (main _ h).2⟩
  | .gint x i, c, e => by
    have main : ∀ t, chkE Γ (.gint x i) t c e = true → PEm Γ k (.gint x i) c e ∧ plainTest e = true := fun t h => by
      rw [chkE] at h
      dsimp only at h
      split at h
      · simp only [Bool.and_eq_true, beq_iff_eq] at h
        obtain ⟨⟨rfl, h2⟩, h3⟩ := h
        exact ⟨pem_gint h2 h3, rfl⟩
      · cases h
    exact ⟨fun h => (main _ h).1, fun h => .plain (main _ h).1 h (main _ h).2⟩
  | .gtup x ns a, c, e => by
    have main : ∀ t, chkE Γ (.gtup x ns a) t c e = true → PEm Γ k (.gtup x ns a) c e ∧ plainTest e = true := fun t h => by
      rw [chkE] at h
      dsimp only at h
      split at h
      · simp only [Bool.and_eq_true, beq_iff_eq, Bool.not_eq_true'] at h
        obtain ⟨⟨⟨⟨rfl, h2⟩, h3⟩, h4⟩, h5⟩ := h
        exact ⟨pem_gtup h2 h3 h4 (pam_chk ((sound a c _).1 h5) h5), rfl⟩
      · cases h
    exact ⟨fun h => (main _ h).1, fun h => .plain (main _ h).1 h (main _ h).2⟩
  | .bin o a b, c, e => by
    have main : ∀ t, chkE Γ (.bin o a b) t c e = true → PEm Γ k (.bin o a b) c e ∧ PTx Γ k (.bin o a b) c e := fun t h => by
      have h0 := h
      rw [chkE] at h
      dsimp only at h
      split at h
      · simp only [Bool.and_eq_true, decide_eq_true_eq] at h
        have p := fun pos => pem_bop (pos := pos) h.1.1 (pam_chk ((sound a c _).1 h.1.2) h.1.2) (pam_chk ((sound b c _).1 h.2) h.2)
        exact ⟨p _, .plain (p _) h0 rfl⟩
      · simp only [Bool.and_eq_true, decide_eq_true_eq, Bool.not_eq_true'] at h
        obtain ⟨⟨⟨h1, h2⟩, h3⟩, h4⟩ := h
        exact ⟨pem_cmp h1 h2 (pam_chk ((sound a c _).1 h3) h3) (pam_chk ((sound b c _).1 h4) h4), .no (ptm_cmp h1 h2 (pam_chk ((sound a c _).1 h3) h3) (pam_chk ((sound b c _).1 h4) h4)) rfl⟩
      · simp only [Bool.and_eq_true, decide_eq_true_eq, Bool.not_eq_true'] at h
        obtain ⟨⟨⟨rfl, h2⟩, h3⟩, h4⟩ := h
        have p := fun pos => pem_idx (k := k) (pos := pos) h2 (pam_chk ((sound a c _).1 h3) h3) (pam_chk ((sound b c _).1 h4) h4)
        exact ⟨p _, .plain (p _) h0 rfl⟩
      · cases h
    exact ⟨fun h => (main _ h).1, fun h => (main _ h).2⟩
  | .neg a, c, e => by
    have main : ∀ t, chkE Γ (.neg a) t c e = true → PEm Γ k (.neg a) c e ∧ plainTest e = true := fun t h => by
      rw [chkE] at h
      dsimp only at h
      split at h
      · exact ⟨pem_neg (pam_chk ((sound a c _).1 h) h), rfl⟩
      · cases h
    exact ⟨fun h => (main _ h).1, fun h => .plain (main _ h).1 h (main _ h).2⟩
  | .slice a lo hi, c, e => by
    have main : ∀ t, chkE Γ (.slice a lo hi) t c e = true → PEm Γ k (.slice a lo hi) c e ∧ plainTest e = true := fun t h => by
      rw [chkE] at h
      dsimp only at h
      split at h
      · simp only [Bool.and_eq_true] at h
        exact ⟨pem_slice (pam_chk ((sound a c _).1 h.1.1) h.1.1) (soundL lo c _ h.1.2).part (soundL hi c _ h.2).part, rfl⟩
      · cases h
    exact ⟨fun h => (main _ h).1, fun h => .plain (main _ h).1 h (main _ h).2⟩
  | .cal b es, c, e => by
    have main : ∀ t, chkE Γ (.cal b es) t c e = true → PEm Γ k (.cal b es) c e ∧ plainTest e = true := fun t h => by
      rw [chkE] at h
      dsimp only at h
      split at h
      · simp only [Bool.and_eq_true, beq_iff_eq, List.contains_iff_mem, Bool.not_eq_true'] at h
        obtain ⟨⟨⟨⟨⟨h1, h2⟩, h3⟩, h4⟩, h5⟩, h6⟩ := h
        exact ⟨pem_cal h1 h2 h3 h4 (chkL_stars h6) (isEmpty_ne h5) (soundL es c _ h6).pas, rfl⟩
      · cases h
    exact ⟨fun h => (main _ h).1, fun h => .plain (main _ h).1 h (main _ h).2⟩
  | .isi T a, c, e => by
    have main : ∀ t, chkE Γ (.isi T a) t c e = true → PEm Γ k (.isi T a) c e ∧ plainTest e = true := fun t h => by
      rw [chkE] at h
      dsimp only at h
      split at h
      · simp only [Bool.and_eq_true, beq_iff_eq, List.contains_iff_mem, Bool.not_eq_true'] at h
        obtain ⟨⟨⟨⟨⟨⟨⟨⟨h1, h2⟩, h3⟩, h4⟩, h5⟩, h6⟩, h7⟩, h8⟩, h9⟩ := h
        exact ⟨pem_isi h1 h2 h3 h4 h5 h6 (List.contains_iff_mem.mpr h7) h8 (pam_chk ((sound a c _).1 h9) h9), rfl⟩
      · cases h
    exact ⟨fun h => (main _ h).1, fun h => .plain (main _ h).1 h (main _ h).2⟩
  | .lset a, c, e => by
    have main : ∀ t, chkE Γ (.lset a) t c e = true → PEm Γ k (.lset a) c e ∧ plainTest e = true := fun t h => by
      rw [chkE] at h
      dsimp only at h
      split at h
      · simp only [Bool.and_eq_true, beq_iff_eq, List.contains_iff_mem, Bool.not_eq_true'] at h
        obtain ⟨⟨⟨⟨⟨⟨⟨⟨h1, h2⟩, h3⟩, h4⟩, h5⟩, h6⟩, h7⟩, h8⟩, h9⟩ := h
        exact ⟨pem_lset h1 h2 h3 h4 h5 h6 h7 h8 (pam_chk ((sound a c _).1 h9) h9), rfl⟩
      · cases h
    exact ⟨fun h => (main _ h).1, fun h => .plain (main _ h).1 h (main _ h).2⟩
  | .sset a, c, e => by
    have main : ∀ t, chkE Γ (.sset a) t c e = true → PEm Γ k (.sset a) c e ∧ plainTest e = true := fun t h => by
      rw [chkE] at h
      dsimp only at h
      split at h
      · simp only [Bool.and_eq_true, beq_iff_eq, List.contains_iff_mem, Bool.not_eq_true'] at h
        obtain ⟨⟨⟨⟨⟨⟨⟨⟨h1, h2⟩, h3⟩, h4⟩, h5⟩, h6⟩, h7⟩, h8⟩, h9⟩ := h
        exact ⟨pem_sset h1 h2 h3 h4 h5 h6 h7 h8 (pam_chk ((sound a c _).1 h9) h9), rfl⟩
      · cases h
    exact ⟨fun h => (main _ h).1, fun h => .plain (main _ h).1 h (main _ h).2⟩
  | .tup es, c, e => by
    have main : ∀ t, chkE Γ (.tup es) t c e = true → PEm Γ k (.tup es) c e ∧ plainTest e = true := fun t h => by
      rw [chkE] at h
      dsimp only at h
      split at h
      · exact ⟨pem_tup (soundL es c _ h).pls, rfl⟩
      · cases h
    exact ⟨fun h => (main _ h).1, fun h => .plain (main _ h).1 h (main _ h).2⟩
  | .lst es, c, e => by
    have main : ∀ t, chkE Γ (.lst es) t c e = true → PEm Γ k (.lst es) c e ∧ plainTest e = true := fun t h => by
      rw [chkE] at h
      dsimp only at h
      split at h
      · exact ⟨pem_lst (soundL es c _ h).pls, rfl⟩
      · cases h
    exact ⟨fun h => (main _ h).1, fun h => .plain (main _ h).1 h (main _ h).2⟩
  | .andv a b, c, e => by
    refine ⟨fun h => ?_, fun h => ?_⟩
    · rw [chkE] at h
      dsimp only at h
      split at h
      · simp only [Bool.and_eq_true] at h
        exact pem_andv (pam_chk ((sound a c _).1 h.1.2) h.1.2) (pem_one ((sound b c _).1 h.2))
      · simp only [Bool.and_eq_true] at h
        exact pem_andv (pam_chk ((sound a c _).1 h.1.2) h.1.2) ((sound b c _).1 h.2)
      · cases h
    · rw [chkE] at h
      dsimp only at h
      split at h <;> first | (cases h; done) | (simp only [Bool.and_eq_true, Bool.not_true, Bool.false_and] at h; cases h)
  | .orv a b, c, e => by
    refine ⟨fun h => ?_, fun h => ?_⟩
    · rw [chkE] at h
      dsimp only at h
      split at h
      · simp only [Bool.and_eq_true] at h
        exact pem_orv (pam_chk ((sound a c _).1 h.1.2) h.1.2) (pem_one ((sound b c _).1 h.2))
      · simp only [Bool.and_eq_true] at h
        exact pem_orv (pam_chk ((sound a c _).1 h.1.2) h.1.2) ((sound b c _).1 h.2)
      · cases h
    · rw [chkE] at h
      dsimp only at h
      split at h <;> first | (cases h; done) | (simp only [Bool.and_eq_true, Bool.not_true, Bool.false_and] at h; cases h)
  | .andt a b, c, e => by
    refine ⟨fun h => ?_, fun h => ?_⟩
    · rw [chkE] at h
      dsimp only at h
      split at h <;> first | (cases h; done) | (simp only [Bool.and_eq_true, Bool.false_and] at h; cases h)
    · rw [chkE] at h
      dsimp only at h
      split at h
      · simp only [Bool.and_eq_true] at h
        exact bo_and ((sound a c _).2 h.1.2).t ((sound b c _).2 h.2).t.pwA
      · simp only [Bool.and_eq_true] at h
        exact bo_and ((sound a c _).2 h.1.2).t (((sound b c _).2 h.2).w rfl)
      · cases h
  | .ort a b, c, e => by
    refine ⟨fun h => ?_, fun h => ?_⟩
    · rw [chkE] at h
      dsimp only at h
      split at h <;> first | (cases h; done) | (simp only [Bool.and_eq_true, Bool.false_and] at h; cases h)
    · rw [chkE] at h
      dsimp only at h
      split at h
      · simp only [Bool.and_eq_true] at h
        exact bo_or ((sound a c _).2 h.1.2).t ((sound b c _).2 h.2).t.pwO
      · simp only [Bool.and_eq_true] at h
        exact bo_or ((sound a c _).2 h.1.2).t (((sound b c _).2 h.2).w rfl)
      · cases h
  | .not_ a, c, e => by
    refine ⟨fun h => ?_, fun h => ?_⟩
    · rw [chkE] at h
      dsimp only at h
      split at h
      · exact pem_not (pam_chk ((sound a c _).1 h) h)
      · cases h
    · rw [chkE] at h
      dsimp only at h
      split at h
      · exact .no (ptm_not ((sound a c _).2 h).t) rfl
      · cases h
  | .ife t a b, c, e => by
    refine ⟨fun h => ?_, fun h => ?_⟩
    · rw [chkE] at h
      dsimp only at h
      split at h
      · simp only [Bool.and_eq_true] at h
        exact pem_ife ((sound t c _).2 h.1.1.2).t ((sound a c _).1 h.1.2) ((sound b c _).1 h.2)
      · cases h
    · rw [chkE] at h
      dsimp only at h
      split at h <;> first | (cases h; done) | (simp only [Bool.and_eq_true, Bool.not_true, Bool.false_and] at h; cases h)
  | .ch o p a b d, c, e => by
    have main : ∀ t, chkE Γ (.ch o p a b d) t c e = true → PEm Γ k (.ch o p a b d) c e ∧ PTx Γ k (.ch o p a b d) c e := fun t h => by
      rw [chkE] at h
      dsimp only at h
      split at h
      · simp only [Bool.and_eq_true, decide_eq_true_eq, Bool.not_eq_true'] at h
        obtain ⟨⟨⟨⟨⟨h1, h2⟩, h3⟩, h4⟩, h5⟩, h6⟩ := h
        exact ⟨pem_ch h1 h2 (pam_chk ((sound a c _).1 h4) h4) (pam_chk ((sound b c _).1 h5) h5) (pam_chk ((sound d c _).1 h6) h6) h3, .no (ptm_ch h1 h2 (pam_chk ((sound a c _).1 h4) h4) (pam_chk ((sound b c _).1 h5) h5) (pam_chk ((sound d c _).1 h6) h6) h3) rfl⟩
      · cases h
    exact ⟨fun h => (main _ h).1, fun h => (main _ h).2⟩
  | .call f es, c, e => by
    have main : ∀ t, chkE Γ (.call f es) t c e = true → PEm Γ k (.call f es) c e ∧ plainTest e = true := fun t h => by
      rw [chkE] at h
      dsimp only at h
      split at h
      · simp only [Bool.and_eq_true, beq_iff_eq, Bool.not_eq_true'] at h
        obtain ⟨⟨⟨⟨h1, h2⟩, h3⟩, h4⟩, h5⟩ := h
        exact ⟨pem_call h1 h2 h3 (chkL_stars h5) (isEmpty_ne h4) (soundL es c _ h5).pls, rfl⟩
      · cases h
    exact ⟨fun h => (main _ h).1, fun h => .plain (main _ h).1 h (main _ h).2⟩
  | .callb f es, c, e => by
    have main : ∀ t, chkE Γ (.callb f es) t c e = true → PEm Γ k (.callb f es) c e ∧ plainTest e = true := fun t h => by
      rw [chkE] at h
      dsimp only at h
      split at h
      · simp only [Bool.and_eq_true, beq_iff_eq, Bool.not_eq_true'] at h
        obtain ⟨⟨⟨⟨h1, h2⟩, h3⟩, h4⟩, h5⟩ := h
        exact ⟨pem_callb h1 h2 h3 (chkL_stars h5) (isEmpty_ne h4) (soundL es c _ h5).pas, rfl⟩
      · cases h
    exact ⟨fun h => (main _ h).1, fun h => .plain (main _ h).1 h (main _ h).2⟩
  | .lc elt tg own ik its cond, c, e => by
    have main : ∀ t, chkE Γ (.lc elt tg own ik its cond) t c e = true → PEm Γ k (.lc elt tg own ik its cond) c e ∧ plainTest e = true := fun t h => by
      rw [chkE] at h
      dsimp only at h
      split at h
      · rename_i ee et ei eifs scope pos
        simp only [Bool.and_eq_true, decide_eq_true_eq, Bool.not_eq_true', List.all_eq_true, List.contains_iff_mem] at h
        obtain ⟨⟨⟨⟨⟨⟨⟨⟨⟨h1, h2⟩, h3⟩, h4⟩, h5⟩, h6⟩, h7⟩, h8⟩, h9⟩, h10⟩ := h
        split at h4
        · rename_i as has
          exact ⟨pem_lc h1 h2 h3 (pim_of has (soundL its c _ h4) h7 h5) h5 h6 (soundC cond (c.blk scope) _ h9 h8) ((sound elt (c.blk scope) _).1 h10), rfl⟩
        · cases h4
      · cases h
    exact ⟨fun h => (main _ h).1, fun h => .plain (main _ h).1 h (main _ h).2⟩
  | .mth m a es, c, e => by
    have main : ∀ t, chkE Γ (.mth m a es) t c e = true → PEm Γ k (.mth m a es) c e ∧ plainTest e = true := fun t h => by
      rw [chkE] at h
      dsimp only at h
      split at h
      · simp only [Bool.and_eq_true, Bool.not_eq_true', decide_eq_true_eq] at h
        obtain ⟨⟨⟨⟨⟨⟨h1, h2⟩, h3⟩, h4⟩, h5⟩, h6⟩, h7⟩ := h
        exact ⟨pem_mth (eq_of_beq h1) h2 h3 (isEmpty_ne h4) h5 (chkL_stars h7) (pam_chk ((sound a c _).1 h6) h6) (soundL es c _ h7).pls, rfl⟩
      · cases h
    exact ⟨fun h => (main _ h).1, fun h => .plain (main _ h).1 h (main _ h).2⟩
  | .calk b a d, c, e => by
    have main : ∀ t, chkE Γ (.calk b a d) t c e = true → PEm Γ k (.calk b a d) c e ∧ plainTest e = true := fun t h => by
      rw [chkE] at h
      dsimp only at h
      split at h
      · simp only [Bool.and_eq_true, beq_iff_eq, List.contains_iff_mem, Bool.not_eq_true'] at h
        obtain ⟨⟨⟨⟨⟨⟨⟨h1, h2⟩, h3⟩, h4⟩, h5⟩, h6⟩, h7⟩, h8⟩ := h
        exact ⟨pem_calk h1 h2 h3 h4 h5 h6 (pam_chk ((sound a c _).1 h7) h7) (pam_chk ((sound d c _).1 h8) h8), rfl⟩
      · cases h
    exact ⟨fun h => (main _ h).1, fun h => .plain (main _ h).1 h (main _ h).2⟩
  | .dnew u, c, e => by
    have main : ∀ t, chkE Γ (.dnew u) t c e = true → PEm Γ k (.dnew u) c e ∧ plainTest e = true := fun t h => by
      rw [chkE] at h
      dsimp only at h
      split at h
      · exact ⟨pem_dnew, rfl⟩
      · cases h
    exact ⟨fun h => (main _ h).1, fun h => .plain (main _ h).1 h (main _ h).2⟩
  | .dis1 a b, c, e => by
    have main : ∀ t, chkE Γ (.dis1 a b) t c e = true → PEm Γ k (.dis1 a b) c e ∧ plainTest e = true := fun t h => by
      rw [chkE] at h
      dsimp only at h
      split at h
      · simp only [Bool.and_eq_true] at h
        exact ⟨pem_dis1 (pam_chk ((sound a c _).1 h.1) h.1) ((sound b c _).1 h.2), rfl⟩
      · cases h
    exact ⟨fun h => (main _ h).1, fun h => .plain (main _ h).1 h (main _ h).2⟩
  | .rev a, c, e => by
    have main : ∀ t, chkE Γ (.rev a) t c e = true → PEm Γ k (.rev a) c e ∧ plainTest e = true := fun t h => by
      rw [chkE] at h
      dsimp only at h
      split at h
      · exact ⟨pem_rev (pam_chk ((sound a c _).1 h) h), rfl⟩
      · cases h
    exact ⟨fun h => (main _ h).1, fun h => .plain (main _ h).1 h (main _ h).2⟩
theorem soundL : ∀ (mes : List ME) (c : CC) (es : List Expr), chkL Γ mes false c es = true → RowA Γ k c mes es
  | [], c, es, h => by
    rw [chkL] at h
    cases es with
    | nil => exact .nil
    | cons _ _ => cases h
  | m :: ms, c, es, h => by
    rw [chkL] at h
    cases es with
    | nil => cases h
    | cons e es =>
      simp only [Bool.and_eq_true, Bool.not_eq_true'] at h
      exact .cons h.1.1 (pam_chk ((sound m c e).1 h.1.2) h.1.2) ((sound m c e).1 h.1.2) (soundL ms c es h.2)
theorem soundC : ∀ (mes : List ME) (c : CC) (es : List Expr), chkL Γ mes true c es = true → es.length ≤ 1 → PCs Γ k c mes es
  | [], c, es, h, _ => by
    rw [chkL] at h
    cases es with
    | nil => exact .nil
    | cons _ _ => cases h
  | m :: ms, c, es, h, hl => by
    rw [chkL] at h
    cases es with
    | nil => cases h
    | cons e es =>
      simp only [Bool.and_eq_true, Bool.not_eq_true'] at h
      cases es with
      | cons _ _ => simp at hl
      | nil =>
        have e2 : ms = [] := by
          cases ms with
          | nil => rfl
          | cons _ _ => have := h.2; rw [chkL] at this; cases this
        subst e2
        exact .one ((sound m c e).2 h.1.2).t
end
end
end PL

namespace PL
open PySem PySem.Spec PyProof.Rows L2

/-! ## the mini text: statements -/
/-- what an except suite gives back: a constant | the field | the field == a text -/
inductive HX where
  | retc (c : Cs)
  | retn
  | retq (x : Str)
  | reti (c : Cs)
  | retiq (x : Str)
inductive MS where
  | raise_ (C : Str) (e : ME)
  | tryR (b : List MS) (C : Str) (i : Option Nat) (h : HX)
  | frz (i : Nat)
  | set (i : Nat) (e : ME)
  | setT (tg : Tg) (e : ME)
  | par2 (i j : Nat) (a b : ME)
  | par3 (i j l : Nat) (a b c : ME)
  | aug (i : Nat) (o : Op) (e : ME)
  | expr (e : ME)
  | ret (e : ME)
  | retv (i : Nat)
  | retN
  | if_ (c : ME) (a b : List MS)
  | for_ (tg : Tg) (ik : IK) (its : List ME) (b : List MS)
  | while_ (c : ME) (b : List MS)
  | brk
  | cont
  | pass
  | doc
  | append (i : Nat) (e : ME)
  | extend (i : Nat) (e : ME)
  | popx (i : Nat)
  | setix (i : Nat) (ix e : ME)
  | augix (i : Nat) (o : Op) (ix e : ME)
  | setd (i : Nat) (ix e : ME)
  | rvs (i : Nat)
  | insert (i : Nat) (es : List ME)
  | popset (tg : Tg) (i : Nat) (n : Option Nat)

structure PEnds where
  nx : Env → Prop
  rt : QS
  bk : Env → Prop
  ct : Env → Prop
  X : Ex → Env → Prop
/-- in place -/
def opI : Op → D → D → QS → Prop
  | .add => iaddW
  | .sub => subW
  | .mul => imulW
  | .fdiv => ifdivW
  | .shl => shlW
  | .shr => shrW
  | .bxor => bitW Builtin.bitXor
  | _ => fun _ _ _ => False
def ownW (ρ : Env) (i : Nat) (Q : List D → Prop) : Prop := match ρ[i]? with
  | some (some (.own xs)) => Q xs
  | _ => False
def dicW (ρ : Env) (i : Nat) (Q : Bool → List (D × D) → Prop) : Prop := match ρ[i]? with
  | some (some (.ownd t kvs)) => Q t kvs
  | _ => False
/-- the item that is popped, the rest -/
def popD (xs : List D) (n : Option Nat) (Q : D → List D → Prop) : Prop := match n with
  | none => (match xs[xs.length - 1]? with
    | some d => Q d xs.dropLast
    | none => False)
  | some j => (match xs[j]? with
    | some d => Q d (xs.eraseIdx j)
    | none => False)
def slW (ρ : Env) (i : Nat) (Q : Sl → Prop) : Prop := match ρ[i]? with
  | some (some s) => Q s
  | _ => False
def ixW (xs : List D) (d : D) (Q : Nat → Prop) : Prop := match d with
  | .int k => (match ixN xs.length k with
    | some j => Q j
    | none => False)
  | _ => False
def insW (xs ds : List D) (Q : List D → Prop) : Prop := match ds with
  | [.int n, d] => xs.length < LIM ∧ (0 ≤ n ∧ n < 9223372036854775808) ∧ Q (xs.take n.toNat ++ [d] ++ xs.drop n.toNat)
  | _ => False
def optP (x : Option D) (Q : D → Prop) : Prop := match x with
  | some y => Q y
  | none => False
def forW (step : D → Env → (Env → Prop) → Prop) (nx : Env → Prop) : List D → Env → Prop
  | [], ρ => nx ρ
  | d :: ds, ρ => step d ρ (forW step nx ds)
def argW (Γ : Tab) (e : ME) : Env → QD → QX → Prop := argK (WE Γ e) e

def hW (h : HX) (ex : Ex) (Q : QS) : Prop := match h with
  | .retc c => Q (.val (csD c))
  | .retn => (match ex.fs with
    | [(f, d)] => f = ("name" : Str) ∧ Q (.val d)
    | _ => False)
  | .retq x => (match ex.fs with
    | [(f, d)] => f = ("name" : Str) ∧ eqW d (.str x) Q
    | _ => False)
  | .reti _ => (match ex.fs with
    | [(f, d)] => f = ("name" : Str) ∧ Q (.val d)
    | _ => False)
  | .retiq x => (match ex.fs with
    | [(f, d)] => f = ("name" : Str) ∧ eqW d (.str x) Q
    | _ => False)
def exmW (Γ : Tab) (x y : Str) (Q : Bool → Prop) : Prop := match Γ.exm.lookup (x, y) with
  | some b => Q b
  | none => False
mutual
def WS (Γ : Tab) : MS → Env → PEnds → Prop
  | .raise_ C e => fun ρ E => WE Γ e ρ (fun r => E.X ⟨C, [("name", r.d)]⟩ ρ) (fun ex => E.X ex ρ)
  | .tryR b C i h => fun ρ E => WSs Γ b ρ { E with X := fun ex ρ' => i.getD 0 < ρ'.length ∧ exmW Γ ex.cls C fun k => if k = true then hW h ex E.rt else E.X ex ρ' }
  | .frz i => fun ρ E => slW ρ i fun s => E.nx (ρ.set i (some (.val s.d)))
  | .set i e => fun ρ E => WE Γ e ρ (fun r => E.nx (ρ.set i (some r))) (fun ex => E.X ex ρ)
  | .setT tg e => fun ρ E => WE Γ e ρ (fun r => tgW tg r.d ρ E.nx) (fun ex => E.X ex ρ)
  | .par2 i j a b => fun ρ E => WE Γ a ρ (fun x => WE Γ b ρ (fun y => E.nx ((ρ.set i (some x)).set j (some y))) (fun ex => E.X ex ρ)) (fun ex => E.X ex ρ)
  | .par3 i j l a b c => fun ρ E => WE Γ a ρ (fun x => WE Γ b ρ (fun y => WE Γ c ρ (fun z => E.nx (((ρ.set i (some x)).set j (some y)).set l (some z))) (fun ex => E.X ex ρ)) (fun ex => E.X ex ρ)) (fun ex => E.X ex ρ)
  | .aug i o e => fun ρ E => slW ρ i fun s => argW Γ e ρ (fun y => opI o s.d y fun r => E.nx (ρ.set i (some r))) (fun ex => E.X ex ρ)
  | .expr e => fun ρ E => WE Γ e ρ (fun _ => E.nx ρ) (fun ex => E.X ex ρ)
  | .ret e => fun ρ E => WE Γ e ρ E.rt (fun ex => E.X ex ρ)
  | .retv i => fun ρ E => slW ρ i E.rt
  | .retN => fun _ E => E.rt (.val .non)
  | .if_ c a b => fun ρ E => WT Γ c ρ (fun k => if k = true then WSs Γ a ρ E else WSs Γ b ρ E) (fun ex => E.X ex ρ)
  | .for_ tg ik its b => fun ρ E => WLs Γ its ρ (fun ds => itW ik ds fun items =>
      forW (fun d ρ nx => tgW tg d ρ fun ρ' => WSs Γ b ρ' { E with nx := nx, ct := nx, bk := E.nx }) E.nx items ρ) (fun ex => E.X ex ρ)
  | .while_ c b => fun ρ E => ∃ I : Nat → Env → Prop, (∃ m, I m ρ) ∧ ∀ m ρ, I m ρ → WT Γ c ρ (fun k => if k = true then
      WSs Γ b ρ { E with nx := fun ρ' => ∃ m', m' < m ∧ I m' ρ', ct := fun ρ' => ∃ m', m' < m ∧ I m' ρ', bk := E.nx } else E.nx ρ) (fun ex => E.X ex ρ)
  | .brk => fun ρ E => E.bk ρ
  | .cont => fun ρ E => E.ct ρ
  | .pass => fun ρ E => E.nx ρ
  | .doc => fun ρ E => E.nx ρ
  | .append i e => fun ρ E => ownW ρ i fun xs => WE Γ e ρ (fun r => xs.length < LIM ∧ E.nx (ρ.set i (some (.own (xs ++ [r.d]))))) (fun ex => E.X ex ρ)
  | .extend i e => fun ρ E => ownW ρ i fun xs => argW Γ e ρ (fun d => match d with
    | .lst ys => xs.length + ys.length ≤ LIM ∧ E.nx (ρ.set i (some (.own (xs ++ ys))))
    | .tup ys => xs.length + ys.length ≤ LIM ∧ E.nx (ρ.set i (some (.own (xs ++ ys))))
    | _ => False) (fun ex => E.X ex ρ)
  | .popx i => fun ρ E => ownW ρ i fun xs => xs ≠ [] ∧ E.nx (ρ.set i (some (.own xs.dropLast)))
  | .setix i ix e => fun ρ E => ownW ρ i fun xs => WE Γ e ρ (fun r => argW Γ ix ρ (fun d => ixW xs d fun j => E.nx (ρ.set i (some (.own (xs.set j r.d))))) (fun ex => E.X ex ρ)) (fun ex => E.X ex ρ)
  | .setd i ix e => fun ρ E => dicW ρ i fun t kvs => WE Γ e ρ (fun r => argW Γ ix ρ (fun d => (keyFits t d = true ∧ kvs.length < LIM) ∧ E.nx (ρ.set i (some (.ownd t (putD kvs d r.d))))) (fun ex => E.X ex ρ)) (fun ex => E.X ex ρ)
  | .insert i es => fun ρ E => ownW ρ i fun xs => WLs Γ es ρ (fun ds => insW xs ds fun ys => E.nx (ρ.set i (some (.own ys)))) (fun ex => E.X ex ρ)
  | .rvs i => fun ρ E => ownW ρ i fun xs => E.nx (ρ.set i (some (.own xs.reverse)))
  | .popset tg i n => fun ρ E => ownW ρ i fun xs => popD xs n fun d ys => tgW tg d (ρ.set i (some (.own ys))) E.nx
  | .augix i o ix e => fun ρ E => ownW ρ i fun xs => argW Γ ix ρ (fun d => ixW xs d fun j => optP xs[j]? fun x => argW Γ e ρ (fun y => opI o x y fun r => E.nx (ρ.set i (some (.own (xs.set j r.d))))) (fun ex => E.X ex ρ)) (fun ex => E.X ex ρ)
def WSs (Γ : Tab) : List MS → Env → PEnds → Prop
  | [] => fun ρ E => E.nx ρ
  | s :: ss => fun ρ E => WS Γ s ρ { E with nx := fun ρ' => WSs Γ ss ρ' E }
end

/-! ## checked -/
def noSw (c : CC) (value : Expr) (t : Str) (p : Pos) : Bool := match value with
  | .ListComp _ _ s _ => !(decide (c.sc.names.lookup t = some .local) && p.line == value.pos.line && !(s.names.any fun (n, k) => n == t && (k == .local || k == .cell)))
  | .SetComp _ _ s _ => !(decide (c.sc.names.lookup t = some .local) && p.line == value.pos.line && !(s.names.any fun (n, k) => n == t && (k == .local || k == .cell)))
  | .DictComp _ _ _ s _ => !(decide (c.sc.names.lookup t = some .local) && p.line == value.pos.line && !(s.names.any fun (n, k) => n == t && (k == .local || k == .cell)))
  | _ => true
/-- a comprehension that its name takes over -/
def isSw (c : CC) (value : Expr) (t : Str) (p : Pos) : Bool := match value with
  | .ListComp _ _ s vp => decide (c.sc.names.lookup t = some .local) && p.line == vp.line && !(s.names.any fun (n, k) => n == t && (k == .local || k == .cell))
  | _ => false
def isComp : Expr → Bool
  | .ListComp _ _ _ _ => true
  | .SetComp _ _ _ _ => true
  | .DictComp _ _ _ _ _ => true
  | _ => false
def stA (vs : List Expr) : Bool := vs.any fun | .Starred .. => true | _ => false
def nmsA (sc : Scope) (ts : List Expr) : List Str := ts.filterMap fun
  | .Name id pos => if sc.names.lookup id == some .local && pos.line == (ts.head?.map (·.pos.line)).getD 0 then some id else none
  | _ => none
/-- what is swapped in a, b = x, y -/
def swS (sc : Scope) (ts : List Expr) (value : Expr) : Option (Option (List Str)) := match value with
  | .Tuple vs _ _ =>
    if !(ts.length == 2 || ts.length == 3) || vs.length != ts.length then some none else
    if stA vs then some none else
    if (nmsA sc ts).length != ts.length || (nmsA sc ts).eraseDups.length != (nmsA sc ts).length then some none else
    if vs.all (foldedForSure 8) then some none else
    if vs.all (constantsAlone 8) then none else
    some (some (nmsA sc ts))
  | _ => some none
def tupE : Expr → List Expr
  | .Tuple es _ _ => es
  | _ => []
def kindFn (c : CC) : Bool := match c.sc.kind with
  | .function => true
  | _ => false
def meth (e : Expr) (m : Str) : Option (Expr × List Expr) := match e with
  | .Call (.Attribute o n apos) as [] cpos => if n == m && (apos.endLine == cpos.line) then some (o, as) else none
  | _ => none
def nmIs (c : CC) (i : Nat) (x : Str) : Bool := decide (c.N[i]? = some x)
def varIs (c : CC) (i : Nat) : Expr → Bool
  | .Name x _ => nmIs c i x && vis c x
  | _ => false
/-- a call is no comprehension, no display: nothing is put together with the name -/
def noSwP (c : CC) (v t : Expr) : Bool := match v, t with
  | .Call _ _ _ _, _ => true
  | _, _ => false
/-- pop(), pop(j) -/
def popOk (n : Option Nat) (as : List Expr) : Bool := match n, as with
  | none, [] => true
  | some j, [.Constant (.int j') _ _] => decide (j' = (j : Int)) && decide (j < 1073741824)
  | _, _ => false
def needsI : HX → Bool
  | .reti _ => true
  | .retiq _ => true
  | _ => false
/-- the suite of an except clause -/
def chkH (c : CC) (i : Option Nat) (h : HX) (ss : List Stmt) : Bool := match h, ss with
  | .retc k, [.Return (some (.Constant v _ _)) _] => (match k, v with
      | .non, .none => true
      | .bl b, .bool b' => b == b'
      | .int i, .int i' => decide (i = i')
      | .str x, .str x' => x == x'
      | _, _ => false)
  | .retn, [.Return (some (.Attribute o f _)) _] => (match i with
      | some i => varIs c i o && f == ("name" : Str)
      | none => false)
  | .retq x, [.Return (some (.Compare (.Attribute o f _) [.Eq] [.Constant (.str x') _ _] _)) _] => (match i with
      | some i => varIs c i o && f == ("name" : Str) && x == x'
      | none => false)
  | .reti k, [.Return (some (.IfExp (.Call (.Name g _) [o1, .Name cl _] [] _) (.Attribute o f _) (.Constant v _ _) _)) _] => (match i with
      | some i => varIs c i o && f == ("name" : Str) && varIs c i o1 && g == ("isinstance" : Str) && glb c g && cl == ("HeardError" : Str) && glb c cl && !star o1 && (match k, v with
        | .str x, .str x' => x == x'
        | _, _ => false)
      | none => false)
  | .retiq x, [.Return (some (.BoolOp .And [.Call (.Name g _) [o1, .Name cl _] [] _, .Call (.Name g2 _) [o2, .Name cl2 _] [] _, .Compare (.Attribute o f _) [.Eq] [.Constant (.str x') _ _] _] _)) _] => (match i with
      | some i => varIs c i o && f == ("name" : Str) && x == x' && varIs c i o1 && g == ("isinstance" : Str) && glb c g && cl == ("HeardError" : Str) && glb c cl && !star o1 && varIs c i o2 && g2 == ("isinstance" : Str) && cl2 == ("ValueError" : Str) && glb c cl2 && !star o2
      | none => false)
  | _, _ => false
def tgH (c : CC) (n : Option Str) (i : Option Nat) : Bool := match n, i with
  | none, none => true
  | some y, some j => nmIs c j y && decide (c.sc.names.lookup y = some .local)
  | _, _ => false
mutual
def chkS (Γ : Tab) : MS → CC → Stmt → Bool
  | .raise_ C e => fun c s => match s with
    | .Raise (some (.Call (.Name x _) [ea] [] _)) none _ => x == C && glb c x && Γ.excs.contains x && !star ea && chkE Γ e false c ea
    | _ => false
  | .tryR b C i h => fun c s => match s with
    | .Try sb [.ExceptHandler (some (.Name x _)) n hb _] [] [] _ => x == C && glb c x && Γ.excs.contains x && Γ.exm.all (fun e => !(e.1.2 == C && e.2) || Γ.excs.contains e.1.1) && chkSs Γ b c sb && chkH c i h hb && tgH c n i && (!needsI h || Γ.frees.contains ("isinstance" : Str))
    | _ => false
  | .frz _ => fun _ _ => false
  | .set i e => fun c s => match s with
    | .Assign [.Name x p] v _ => nmIs c i x && tgN c x && chkE Γ e false c v && (noSw c v x p || isSw c v x p)
    | _ => false
  | .setT tg e => fun c s => match s with
    | .Assign [t] v _ => isTp tg && chkTg c tg t && chkE Γ e false c v && decide (swS c.sc (tupE t) v = some none)
    | _ => false
  | .par2 i j a b => fun c s => match s with
    | .Assign [.Tuple [.Name x px, .Name y py] k1 p1] (.Tuple [ea, eb] k2 p2) _ => nmIs c i x && nmIs c j y && decide (i ≠ j) && decide (c.sc.names.lookup x = some .local) && decide (c.sc.names.lookup y = some .local) &&
        !star ea && !star eb && chkE Γ a false c ea && chkE Γ b false c eb && decide (swS c.sc [.Name x px, .Name y py] (.Tuple [ea, eb] k2 p2) = some (some [x, y]))
    | _ => false
  | .par3 i j l a b d => fun c s => match s with
    | .Assign [.Tuple [.Name x px, .Name y py, .Name z pz] k1 p1] (.Tuple [ea, eb, ed] k2 p2) _ => nmIs c i x && nmIs c j y && nmIs c l z && decide (i ≠ j) && decide (i ≠ l) && decide (j ≠ l) &&
        decide (c.sc.names.lookup x = some .local) && decide (c.sc.names.lookup y = some .local) && decide (c.sc.names.lookup z = some .local) &&
        !star ea && !star eb && !star ed && chkE Γ a false c ea && chkE Γ b false c eb && chkE Γ d false c ed && decide (swS c.sc [.Name x px, .Name y py, .Name z pz] (.Tuple [ea, eb, ed] k2 p2) = some (some [x, y, z]))
    | _ => false
  | .aug i o e => fun c s => match s with
    | .AugAssign (.Name x _) op v _ => nmIs c i x && tgN c x && decide (opB o = some op) && chkE Γ e false c v
    | _ => false
  | .expr e => fun c s => match s with
    | .Expr v _ => !isComp v && chkE Γ e false c v
    | _ => false
  | .ret e => fun c s => match s with
    | .Return (some v) _ => chkE Γ e false c v
    | _ => false
  | .retv i => fun c s => match s with
    | .Return (some v) _ => varIs c i v
    | _ => false
  | .retN => fun _ s => match s with
    | .Return none _ => true
    | _ => false
  | .if_ t a b => fun c s => match s with
    | .If et sa sb _ => chkE Γ t true c et && chkSs Γ a c sa && chkSs Γ b c sb
    | _ => false
  | .for_ tg ik its b => fun c s => match s with
    | .For et ei sb [] _ => !isSetE ei && (match itArgs Γ c ik ei with
        | some as => chkL Γ its false c as
        | none => false) && chkTg c tg et && (isTp tg || !(ik == .enum || ik == .zip)) && chkSs Γ b c sb
    | _ => false
  | .while_ t b => fun c s => match s with
    | .While et sb [] _ => chkE Γ t true c et && chkSs Γ b c sb
    | _ => false
  | .brk => fun _ s => match s with
    | .Break _ => true
    | _ => false
  | .cont => fun _ s => match s with
    | .Continue _ => true
    | _ => false
  | .pass => fun _ s => match s with
    | .Pass _ => true
    | _ => false
  | .doc => fun _ s => match s with
    | .Expr (.Constant (.str _) _ _) _ => true
    | _ => false
  | .append i e => fun c s => match s with
    | .Expr v _ => (match meth v "append" with
      | some (o, [ea]) => varIs c i o && !star ea && chkE Γ e false c ea
      | _ => false)
    | _ => false
  | .extend i e => fun c s => match s with
    | .Expr v _ => (match meth v "extend" with
      | some (o, [ea]) => varIs c i o && !star ea && chkE Γ e false c ea
      | _ => false)
    | _ => false
  | .popx i => fun c s => match s with
    | .Expr v _ => (match meth v "pop" with
      | some (o, []) => varIs c i o
      | _ => false)
    | _ => false
  | .setix i ix e => fun c s => match s with
    | .Assign [.Subscript o ei _] v _ => varIs c i o && !isSlice ei && chkE Γ ix false c ei && chkE Γ e false c v
    | _ => false
  | .setd i ix e => fun c s => match s with
    | .Assign [.Subscript o ei _] v _ => varIs c i o && !isSlice ei && chkE Γ ix false c ei && chkE Γ e false c v
    | _ => false
  | .insert i es => fun c s => match s with
    | .Expr v _ => (match meth v "insert" with
      | some (o, as) => varIs c i o && !as.isEmpty && decide (as.length < 30) && chkL Γ es false c as
      | _ => false)
    | _ => false
  | .rvs i => fun c s => match s with
    | .Expr v _ => (match meth v "reverse" with
      | some (o, []) => varIs c i o
      | _ => false)
    | _ => false
  | .popset tg i n => fun c s => match s with
    | .Assign [t] v _ => (match meth v "pop" with
      | some (o, as) => varIs c i o && popOk n as && chkTg c tg t && (match t with
        | .Name _ _ => true
        | .Tuple _ _ _ => true
        | _ => false) && noSwP c v t
      | _ => false)
    | _ => false
  | .augix i o ix e => fun c s => match s with
    | .AugAssign (.Subscript eo ei _) op v _ => varIs c i eo && !isSlice ei && decide (opB o = some op) && chkE Γ ix false c ei && chkE Γ e false c v
    | _ => false
def chkSs (Γ : Tab) : List MS → CC → List Stmt → Bool
  | [] => fun _ ss => ss.isEmpty
  | m :: ms => fun c ss => (match m with
    | .frz _ => chkSs Γ ms c ss
    | _ => match ss with
      | s :: ss => chkS Γ m c s && chkSs Γ ms c ss
      | [] => false)
end
end PL

namespace PL
open PySem PySem.Spec PyProof.Rows L2
section
variable (K : PySem.W.Frag) (mg : Str → Option Value)
structure StOk (Wb W0 : Wd) (H0 : Hp) (W : Wd) (H : Hp) (σ : L2.St) (ρ : Env) : Prop where
  ok : W.Ok H
  g : Grow W0 H0 W H
  e : EnvOk K mg W H σ ρ
  new : OwnP σ ρ fun a => H0 a = none
  lb : Wb.Le W
end
section
variable {K : PySem.W.Frag} {mg : Str → Option Value} {Wb W0 W W' : Wd} {H0 H H' : Hp} {σ : L2.St} {ρ : Env}
theorem StOk.grow (h : StOk K mg Wb W0 H0 W H σ ρ) (ok : W'.Ok H') (g : Grow W H W' H') : StOk K mg Wb W0 H0 W' H' σ ρ := ⟨ok, h.g.trans g h.ok, h.e.grow g, h.new, h.lb.trans g.le⟩
theorem SlOk.own_at {v : V} {s : Sl} (h : SlOk K mg W H v s) (o : s.isOwn = true) : ∃ a, v = .ref a ∧ H a ≠ none := by
  cases s with
  | val d => cases o
  | own xs =>
    obtain ⟨a, vs, e, h1, _⟩ := h
    exact ⟨a, e, own_ne h1⟩
  | ownd t kvs =>
    cases t <;> (obtain ⟨a, vs, e, h1, _⟩ := h; exact ⟨a, e, own_ne h1⟩)
/-- a name takes a result -/
theorem StOk.setS (h : StOk K mg Wb W0 H0 W H σ ρ) (i : Nat) {v : V} {r : Sl} (ok : W'.Ok H') (g : Grow W H W' H') (s : SlOk K mg W' H' v r) (f : Fr H v r) : StOk K mg Wb W0 H0 W' H' (σ.set i (some v)) (ρ.set i (some r)) where
  ok := ok
  g := h.g.trans g h.ok
  e := {
    at_ := fun j t e => by
      rcases set_at e with ⟨rfl, rfl, hl⟩ | ⟨hn, e⟩
      · exact ⟨v, List.getElem?_set_self (by rw [h.e.len]; exact hl), s⟩
      · obtain ⟨w, h1, h2⟩ := h.e.at_ j t e
        exact ⟨w, by rw [List.getElem?_set_ne hn]; exact h1, h2.grow g⟩
    dj := fun j l s1 s2 a hjl e1 o1 e2 o2 f1 f2 => by
      have old : ∀ {m : Nat} {u : Sl}, ρ[m]? = some (some u) → u.isOwn = true → σ[m]? = some (some (.ref a)) → H a ≠ none := fun {m u} e o q => by
        obtain ⟨w, h1, h2⟩ := h.e.at_ m u e
        obtain ⟨b, rfl, hb⟩ := h2.own_at o
        rw [q] at h1
        cases h1
        exact hb
      have new : ∀ {u : Sl}, r = u → u.isOwn = true → v = .ref a → H a = none := fun {u} e o q => by subst e; exact f o a q
      rcases set_at e1 with ⟨rfl, rfl, hl1⟩ | ⟨n1, e1⟩
      · rcases set_at e2 with ⟨rfl, rfl, _⟩ | ⟨n2, e2⟩
        · exact hjl rfl
        · rw [List.getElem?_set_self (by rw [h.e.len]; exact hl1)] at f1
          rw [List.getElem?_set_ne n2] at f2
          cases f1
          exact old e2 o2 f2 (new rfl o1 rfl)
      · rcases set_at e2 with ⟨rfl, rfl, hl2⟩ | ⟨n2, e2⟩
        · rw [List.getElem?_set_self (by rw [h.e.len]; exact hl2)] at f2
          rw [List.getElem?_set_ne n1] at f1
          cases f2
          exact old e1 o1 f1 (new rfl o2 rfl)
        · rw [List.getElem?_set_ne n1] at f1
          rw [List.getElem?_set_ne n2] at f2
          exact h.e.dj j l s1 s2 a hjl e1 o1 e2 o2 f1 f2
    len := by rw [List.length_set, List.length_set]; exact h.e.len }
  new := fun j t a e o q => by
    rcases set_at e with ⟨rfl, rfl, hl⟩ | ⟨hn, e⟩
    · rw [List.getElem?_set_self (by rw [h.e.len]; exact hl)] at q
      cases q
      have z := f o a rfl
      cases y : H0 a with
      | none => rfl
      | some u => exact absurd z (h.g.here h.ok (by rw [y]; intro x; cases x))
    · rw [List.getElem?_set_ne hn] at q
      exact h.new j t a e o q
  lb := h.lb.trans g.le
theorem StOk.set (h : StOk K mg Wb W0 H0 W H σ ρ) (i : Nat) {v : V} {d : D} (hd : Den K mg W v d) : StOk K mg Wb W0 H0 W H (σ.set i (some v)) (ρ.set i (some (.val d))) :=
  h.setS i h.ok (.refl _ _) (r := .val d) hd fun z => by cases z
/-- an own list of a name is written -/
theorem StOk.put (h : StOk K mg Wb W0 H0 W H σ ρ) {i : Nat} {s s' : Sl} {o : Addr} {u : HO} (e : ρ[i]? = some (some s)) (ho : s.isOwn = true) (ev : σ[i]? = some (some (.ref o))) (fr : W.free o) (ho' : s'.isOwn = true) (s2 : SlOk K mg W (upd H o u) (.ref o) s') : StOk K mg Wb W0 H0 W (upd H o u) σ (ρ.set i (some s')) where
  ok := h.ok.put fr
  g := h.g.put (h.new i s o e ho ev)
  e := {
    at_ := fun j t e2 => by
      rcases set_at e2 with ⟨rfl, rfl, hl⟩ | ⟨hn, e2⟩
      · exact ⟨_, ev, s2⟩
      · obtain ⟨w, h1, h2⟩ := h.e.at_ j t e2
        refine ⟨w, h1, ?_⟩
        have ne : ∀ a, t.isOwn = true → w = .ref a → a ≠ o := fun a z ea => by
          subst ea
          intro z2
          subst z2
          exact h.e.dj i j s t a hn e ho e2 z ev h1
        cases t with
        | val d => exact h2
        | own xs =>
          obtain ⟨a, vs, rfl, h3, h4, h5⟩ := h2
          exact ⟨a, vs, rfl, by rw [upd_ne (ne a rfl rfl)]; exact h3, h4, h5⟩
        | ownd t kvs =>
          cases t <;> (obtain ⟨a, vs, rfl, h3, h4, h5⟩ := h2; exact ⟨a, vs, rfl, by rw [upd_ne (ne a rfl rfl)]; exact h3, h4, h5⟩)
    dj := fun j l s1 s2 a hjl e1 o1 e2 o2 f1 f2 => by
      have back : ∀ {m : Nat} {t : Sl}, (ρ.set i (some s'))[m]? = some (some t) → t.isOwn = true → ∃ t', ρ[m]? = some (some t') ∧ t'.isOwn = true := fun {m t} e3 o3 => by
        rcases set_at e3 with ⟨rfl, rfl, hl⟩ | ⟨hn, e3⟩
        · exact ⟨s, e, ho⟩
        · exact ⟨t, e3, o3⟩
      obtain ⟨t1, q1, p1⟩ := back e1 o1
      obtain ⟨t2, q2, p2⟩ := back e2 o2
      exact h.e.dj j l t1 t2 a hjl q1 p1 q2 p2 f1 f2
    len := by rw [List.length_set]; exact h.e.len }
  new := fun j t a e2 o2 q => by
    rcases set_at e2 with ⟨rfl, rfl, hl⟩ | ⟨hn, e2⟩
    · exact h.new i s a e ho q
    · exact h.new j t a e2 o2 q
  lb := h.lb
theorem Wd.le_fz {o : Addr} {u : HO} (fr : W.free o) : W.Le ⟨upd W.fz o u, W.gs⟩ := Wd.le_freeze fr.1
/-- what a name holds as its own is data from now on -/
theorem StOk.frz (h : StOk K mg Wb W0 H0 W H σ ρ) {i : Nat} {s : Sl} (e : ρ[i]? = some (some s)) : ∃ W', StOk K mg Wb W0 H0 W' H σ (ρ.set i (some (.val s.d))) := by
  obtain ⟨v, ev, hs⟩ := h.e.at_ i s e
  have key : ∀ (o : Addr) (u : HO), v = .ref o → s.isOwn = true → H o = some u → W.free o → Den K mg ⟨upd W.fz o u, W.gs⟩ v s.d → ∃ W', StOk K mg Wb W0 H0 W' H σ (ρ.set i (some (.val s.d))) := by
    intro o u eo ho hu fr dn
    subst eo
    refine ⟨⟨upd W.fz o u, W.gs⟩, h.ok.freeze hu fr, h.g.freeze fr.1 (h.new i s o e ho ev), ⟨fun j t e2 => ?_, fun j l s1 s2 a hjl e1 o1 e2 o2 f1 f2 => ?_, by rw [List.length_set]; exact h.e.len⟩, fun j t a e2 o2 q => ?_, h.lb.trans (Wd.le_fz fr)⟩
    · rcases set_at e2 with ⟨rfl, rfl, hl⟩ | ⟨hn, e2⟩
      · exact ⟨_, ev, dn⟩
      · obtain ⟨w, h1, h2⟩ := h.e.at_ j t e2
        refine ⟨w, h1, ?_⟩
        have ne : ∀ a, t.isOwn = true → w = .ref a → a ≠ o := fun a z ea => by
          subst ea
          intro z2
          subst z2
          exact h.e.dj i j s t a hn e ho e2 z ev h1
        have fr2 : ∀ a, a ≠ o → W.free a → (Wd.mk (upd W.fz o u) W.gs).free a := fun a z f => ⟨by show upd W.fz o u a = none; rw [upd_ne z]; exact f.1, f.2⟩
        cases t with
        | val d => exact Den.le (Wd.le_fz fr) h2
        | own xs =>
          obtain ⟨a, vs, rfl, h3, h4, h5⟩ := h2
          exact ⟨a, vs, rfl, h3, fr2 a (ne a rfl rfl) h4, h5.le (Wd.le_fz fr)⟩
        | ownd t kvs =>
          cases t <;> (obtain ⟨a, vs, rfl, h3, h4, h5⟩ := h2; exact ⟨a, vs, rfl, h3, fr2 a (ne a rfl rfl) h4, h5.le (Wd.le_fz fr)⟩)
    · rcases set_at e1 with ⟨rfl, rfl, _⟩ | ⟨_, e1⟩
      · cases o1
      · rcases set_at e2 with ⟨rfl, rfl, _⟩ | ⟨_, e2⟩
        · cases o2
        · exact h.e.dj j l s1 s2 a hjl e1 o1 e2 o2 f1 f2
    · rcases set_at e2 with ⟨rfl, rfl, _⟩ | ⟨_, e2⟩
      · cases o2
      · exact h.new j t a e2 o2 q
  cases s with
  | val d =>
    have : ρ.set i (some (.val (Sl.val d).d)) = ρ := by
      apply List.ext_getElem?
      intro j
      by_cases hj : i = j
      · subst hj
        obtain ⟨hl, _⟩ := List.getElem?_eq_some_iff.mp e
        rw [List.getElem?_set_self hl, e]
        rfl
      · rw [List.getElem?_set_ne hj]
    rw [this]
    exact ⟨W, h⟩
  | own xs =>
    obtain ⟨o, vs, rfl, h1, h2, h3⟩ := hs
    exact key o _ rfl rfl h1 h2 (.lst upd_same (h3.le (Wd.le_fz h2)))
  | ownd t kvs =>
    cases t with
    | false =>
      obtain ⟨o, vs, rfl, h1, h2, h3⟩ := hs
      exact key o _ rfl rfl h1 h2 (.dic upd_same (h3.le (Wd.le_fz h2)))
    | true =>
      obtain ⟨o, vs, rfl, h1, h2, h3⟩ := hs
      exact key o _ rfl rfl h1 h2 (.dit upd_same (h3.le (Wd.le_fz h2)))
end
section
variable {Γ : Tab} {k : Nat} {c : CC} {X : Cx} {Wx : WX}
structure XS (Γ : Tab) (k : Nat) (c : CC) (X : Cx) (Wx : WX) : Prop where
  xo : XOk Γ k c X Wx
  cal : X.calm = true
  po : PassesOwn (model X.prog X.w) X.A X.env X.xe
  kd : X.env.scope.kind = .function
  stk : X.stack = X.env :: X.outer
  frm : X.env.frame = some X.env.locals
/-- the ends -/
structure EOk (X : Cx) (Wx : WX) (Wb W0 : Wd) (H0 : Hp) (E : PEnds) (D : Ends) : Prop where
  nx : ∀ W H σ ρ, StOk X.K X.mg Wb W0 H0 W H σ ρ → E.nx ρ → D.nx σ H
  rt : ∀ v H, Out X.K X.mg W0 H0 E.rt v H → D.rt v H
  bk : ∀ W H σ ρ, StOk X.K X.mg Wb W0 H0 W H σ ρ → E.bk ρ → D.bk σ H
  ct : ∀ W H σ ρ, StOk X.K X.mg Wb W0 H0 W H σ ρ → E.ct ρ → D.ct σ H
  X : ∀ ex W H cls d σ ρ, StOk X.K X.mg Wb W0 H0 W H σ ρ → ExOk X.K X.mg W H cls d ex → E.X ex ρ → Wx cls d σ H
theorem EOk.xp {Wb W0 W : Wd} {H0 H : Hp} {σ : L2.St} {ρ : Env} {E : PEnds} {D : Ends} (h : EOk X Wx Wb W0 H0 E D) (st : StOk X.K X.mg Wb W0 H0 W H σ ρ) : XPost X Wx W H σ (fun ex => E.X ex ρ) :=
  fun ex W' H' cls d ok g e q => h.X ex W' H' cls d σ ρ (st.grow ok g) e q
def PMs (Γ : Tab) (k : Nat) (ms : List MS) (c : CC) (ss : List Stmt) : Prop := ∀ X Wx, XS Γ k c X Wx → ∃ t, PSs X ss t ∧
  ∀ (Wb W0 : Wd) (H0 : Hp) (W : Wd) (H : Hp) (σ : L2.St) (ρ : Env) (E : PEnds) (D : Ends), StOk X.K X.mg Wb W0 H0 W H σ ρ → WSs Γ ms ρ E → EOk X Wx Wb W0 H0 E D → t D σ H
def PM (Γ : Tab) (k : Nat) (m : MS) (c : CC) (s : Stmt) : Prop := ∀ X Wx, XS Γ k c X Wx → ∃ t, PS X s t ∧
  ∀ (Wb W0 : Wd) (H0 : Hp) (W : Wd) (H : Hp) (σ : L2.St) (ρ : Env) (E : PEnds) (D : Ends), StOk X.K X.mg Wb W0 H0 W H σ ρ → WS Γ m ρ E → EOk X Wx Wb W0 H0 E D → t D σ H
theorem pm_nil : PMs Γ k [] c [] := by
  intro X Wx xs
  refine ⟨_, pss_nil, fun Wb W0 H0 W H σ ρ E D st h eo => ?_⟩
  rw [WSs] at h
  exact eo.nx W H σ ρ st h
theorem pm_cons {m : MS} {ms : List MS} {s : Stmt} {ss : List Stmt} (h1 : PM Γ k m c s) (h2 : PMs Γ k ms c ss) : PMs Γ k (m :: ms) c (s :: ss) := by
  intro X Wx xs
  obtain ⟨t, pt, ht⟩ := h1 X Wx xs
  obtain ⟨u, pu, hu⟩ := h2 X Wx xs
  refine ⟨_, pss_cons pt pu, fun Wb W0 H0 W H σ ρ E D st h eo => ?_⟩
  rw [WSs] at h
  exact ht Wb W0 H0 W H σ ρ _ _ st h ⟨fun W' H' σ' ρ' st' q => hu Wb W0 H0 W' H' σ' ρ' E D st' q eo, eo.rt, eo.bk, eo.ct, eo.X⟩
theorem slW_at {ρ : Env} {i : Nat} {Q : Sl → Prop} (h : slW ρ i Q) : ∃ s, ρ[i]? = some (some s) ∧ Q s := by
  unfold slW at h
  split at h
  · exact ⟨_, by assumption, h⟩
  · exact h.elim
theorem ownW_at {ρ : Env} {i : Nat} {Q : List D → Prop} (h : ownW ρ i Q) : ∃ xs, ρ[i]? = some (some (.own xs)) ∧ Q xs := by
  unfold ownW at h
  split at h
  · exact ⟨_, by assumption, h⟩
  · exact h.elim
theorem pm_frz {i : Nat} {ms : List MS} {ss : List Stmt} (h2 : PMs Γ k ms c ss) : PMs Γ k (.frz i :: ms) c ss := by
  intro X Wx xs
  obtain ⟨u, pu, hu⟩ := h2 X Wx xs
  refine ⟨u, pu, fun Wb W0 H0 W H σ ρ E D st h eo => ?_⟩
  rw [WSs, WS] at h
  obtain ⟨s, es, h⟩ := slW_at h
  obtain ⟨W', st'⟩ := st.frz es
  exact hu Wb W0 H0 W' H σ _ E D st' h eo

/-! ### names -/
theorem swapsNo (h : isComp e = false) (t : Option Expr) (l : Nat) (env : PySem.Env) : swapsWith e t l env = pure false := by
  cases e <;> first | rfl | cases h
theorem noSw_ok {e : Expr} {x : Str} {p : Pos} {l : Nat} (xo : XOk Γ k c X Wx) (hk : X.env.scope.kind = .function) (h : noSw c e x p = true) : swapsWith e (some (.Name x p)) l X.env = pure false := by
  have hb : X.env.blockKind = .function := by unfold Env.blockKind; rw [hk]; rfl
  have hs := xo.sc
  by_cases hc : isComp e = false
  · exact swapsNo hc _ _ _
  · have key : ∀ (sc : Scope), noSw c e x p = !(decide (c.sc.names.lookup x = some .local) && p.line == e.pos.line && !(sc.names.any fun (n, k) => n == x && (k == .local || k == .cell))) →
        (X.env.blockKind == .function && X.env.kindOf x == some .local && p.line == e.pos.line && !(sc.names.any fun (n, k) => n == x && (k == .local || k == .cell))) = false := fun sc e1 => by
      rw [e1] at h
      have ek : X.env.kindOf x = c.sc.names.lookup x := by show X.env.scope.names.lookup x = _; rw [hs]
      rw [hb, ek]
      cases hz : decide (c.sc.names.lookup x = some .local) with
      | false =>
        have : (c.sc.names.lookup x == some .local) = false := by
          cases hy : (c.sc.names.lookup x == some NameKind.local) with
          | false => rfl
          | true => rw [beq_iff_eq] at hy; rw [hy] at hz; simp at hz
        rw [this]; simp
      | true =>
        rw [hz, Bool.true_and] at h
        have h := (Bool.not_eq_true' _).mp h
        rw [Bool.and_assoc, h, Bool.and_false]
    cases e with
    | ListComp elt gs sc vp =>
      exact congrArg pure (key sc rfl)
    | SetComp elt gs sc vp =>
      exact congrArg pure (key sc rfl)
    | DictComp a b gs sc vp =>
      exact congrArg pure (key sc rfl)
    | _ => exact absurd rfl hc
theorem pm_set {i : Nat} {e : ME} {x : Str} {p pos : Pos} {v : Expr} (h1 : nmIs c i x = true) (h2 : tgN c x = true) (h3 : PEm Γ k e c v) (h4 : noSw c v x p = true) : PM Γ k (.set i e) c (.Assign [.Name x p] v pos) := by
  intro X Wx xs
  obtain ⟨t, pt, ht⟩ := h3 X Wx xs.xo
  obtain ⟨l1, l2⟩ := loc_ok xs.xo h2
  refine ⟨_, ps_set xs.xo.nd (by rw [xs.xo.N]; exact of_decide_eq_true h1) l1 pt (noSw_ok xs.xo xs.kd h4) l2, fun Wb W0 H0 W H σ ρ E D st h eo => ?_⟩
  rw [WS] at h
  exact ht W H σ ρ _ _ _ st.ok st.e h (eo.xp st) fun v H' ⟨W', r, ok', g', s', f', q'⟩ => eo.nx W' H' _ _ (st.setS i ok' g' s' f') q'
theorem pm_expr {e : ME} {pos : Pos} {v : Expr} (h1 : isComp v = false) (h3 : PEm Γ k e c v) : PM Γ k (.expr e) c (.Expr v pos) := by
  intro X Wx xs
  obtain ⟨t, pt, ht⟩ := h3 X Wx xs.xo
  refine ⟨_, ps_expr pt (swapsNo h1 _ _ _), fun Wb W0 H0 W H σ ρ E D st h eo => ?_⟩
  rw [WS] at h
  exact ht W H σ ρ _ _ _ st.ok st.e h (eo.xp st) fun v H' ⟨W', r, ok', g', s', f', q'⟩ => eo.nx W' H' _ _ (st.grow ok' g') q'
theorem pm_ret {e : ME} {pos : Pos} {v : Expr} (h3 : PEm Γ k e c v) : PM Γ k (.ret e) c (.Return (some v) pos) := by
  intro X Wx xs
  obtain ⟨t, pt, ht⟩ := h3 X Wx xs.xo
  refine ⟨_, ps_ret pt, fun Wb W0 H0 W H σ ρ E D st h eo => ?_⟩
  rw [WS] at h
  exact ht W H σ ρ _ _ _ st.ok st.e h (eo.xp st) fun v H' o => eo.rt v H' (o.after st.ok st.g)
theorem varIs_eq {i : Nat} {e : Expr} (h : varIs c i e = true) : ∃ x p, e = .Name x p ∧ c.N[i]? = some x ∧ vis c x = true := by
  unfold varIs at h
  split at h
  · rw [Bool.and_eq_true] at h
    exact ⟨_, _, rfl, of_decide_eq_true h.1, h.2⟩
  · cases h
/-- a name's value, whatever it holds -/
theorem var_ok {i : Nat} {e : Expr} (h : varIs c i e = true) (xo : XOk Γ k c X Wx) : PE X e (tVar i) := by
  obtain ⟨x, p, rfl, h1, h2⟩ := varIs_eq h
  obtain ⟨hv, hd, hcd⟩ := vis_ok xo h2
  exact pe_var (by rw [xo.N]; exact h1) hv hd hcd
theorem pm_retv {i : Nat} {pos : Pos} {v : Expr} (h : varIs c i v = true) : PM Γ k (.retv i) c (.Return (some v) pos) := by
  intro X Wx xs
  refine ⟨_, ps_ret (var_ok h xs.xo), fun Wb W0 H0 W H σ ρ E D st h eo => ?_⟩
  rw [WS] at h
  obtain ⟨s, es, h⟩ := slW_at h
  obtain ⟨v, ev, hs⟩ := st.e.at_ i s es
  refine ⟨v, ev, eo.rt v H ⟨W, s, st.ok, st.g, hs, fun o a ea => ?_, h⟩⟩
  subst ea
  exact st.new i s a es o ev
theorem pm_retN {pos : Pos} : PM Γ k .retN c (.Return none pos) := by
  intro X Wx xs
  refine ⟨_, ps_retN, fun Wb W0 H0 W H σ ρ E D st h eo => ?_⟩
  rw [WS] at h
  exact eo.rt .non H ((Out.now st.ok .non h).after st.ok st.g)
theorem pm_brk {pos : Pos} : PM Γ k .brk c (.Break pos) := by
  intro X Wx xs
  refine ⟨_, ps_break, fun Wb W0 H0 W H σ ρ E D st h eo => ?_⟩
  rw [WS] at h
  exact eo.bk W H σ ρ st h
theorem pm_cont {pos : Pos} : PM Γ k .cont c (.Continue pos) := by
  intro X Wx xs
  refine ⟨_, ps_continue, fun Wb W0 H0 W H σ ρ E D st h eo => ?_⟩
  rw [WS] at h
  exact eo.ct W H σ ρ st h
theorem pm_pass {pos : Pos} : PM Γ k .pass c (.Pass pos) := by
  intro X Wx xs
  refine ⟨_, ps_pass, fun Wb W0 H0 W H σ ρ E D st h eo => ?_⟩
  rw [WS] at h
  exact eo.nx W H σ ρ st h
theorem pm_doc {x j pos pos'} : PM Γ k .doc c (.Expr (.Constant (.str x) j pos) pos') := by
  intro X Wx xs
  refine ⟨_, ps_doc, fun Wb W0 H0 W H σ ρ E D st h eo => ?_⟩
  rw [WS] at h
  exact eo.nx W H σ ρ st h
theorem pm_if {t : ME} {a b : List MS} {et : Expr} {sa sb : List Stmt} {pos : Pos} (h1 : PTm Γ k t c et) (h2 : PMs Γ k a c sa) (h3 : PMs Γ k b c sb) : PM Γ k (.if_ t a b) c (.If et sa sb pos) := by
  intro X Wx xs
  obtain ⟨t1, p1, q1⟩ := h1 X Wx xs.xo
  obtain ⟨t2, p2, q2⟩ := h2 X Wx xs
  obtain ⟨t3, p3, q3⟩ := h3 X Wx xs
  refine ⟨_, ps_if p1 p2 p3, fun Wb W0 H0 W H σ ρ E D st h eo => ?_⟩
  rw [WS] at h
  refine q1 W H σ ρ _ _ _ st.ok st.e h (eo.xp st) fun b W' H' ok' g' hb => ?_
  cases b with
  | true => exact q2 Wb W0 H0 W' H' σ ρ E D (st.grow ok' g') hb eo
  | false => exact q3 Wb W0 H0 W' H' σ ρ E D (st.grow ok' g') hb eo
theorem pm_while {t : ME} {b : List MS} {et : Expr} {sb : List Stmt} {pos : Pos} (h1 : PTm Γ k t c et) (h2 : PMs Γ k b c sb) : PM Γ k (.while_ t b) c (.While et sb [] pos) := by
  intro X Wx xs
  obtain ⟨t1, p1, q1⟩ := h1 X Wx xs.xo
  obtain ⟨t2, p2, q2⟩ := h2 X Wx xs
  refine ⟨_, ps_while xs.po p1 p2, fun Wb W0 H0 W H σ ρ E D st h eo => ?_⟩
  rw [WS] at h
  obtain ⟨I, ⟨m0, i0⟩, turn⟩ := h
  refine ⟨fun m σ H => ∃ W ρ, StOk X.K X.mg Wb W0 H0 W H σ ρ ∧ I m ρ, ⟨m0, W, ρ, st, i0⟩, ?_⟩
  rintro m σ H ⟨W, ρ, st, im⟩
  refine q1 W H σ ρ _ _ _ st.ok st.e (turn m ρ im) (eo.xp st) fun b W' H' ok' g' hb => ?_
  cases b with
  | true =>
    refine ⟨fun σ' H' => ∃ m', m' < m ∧ ∃ W ρ, StOk X.K X.mg Wb W0 H0 W H' σ' ρ ∧ I m' ρ, fun σ' H' q => q, ?_⟩
    refine q2 Wb W0 H0 W' H' σ ρ _ _ (st.grow ok' g') hb ⟨fun W2 H2 σ2 ρ2 st2 ⟨m', hm, i2⟩ => ⟨m', hm, W2, ρ2, st2, i2⟩, eo.rt, fun W2 H2 σ2 ρ2 st2 q => eo.nx W2 H2 σ2 ρ2 st2 q, fun W2 H2 σ2 ρ2 st2 ⟨m', hm, i2⟩ => ⟨m', hm, W2, ρ2, st2, i2⟩, eo.X⟩
  | false => exact eo.nx W' H' σ ρ (st.grow ok' g') hb
theorem pm_for {tg : Tg} {ik : IK} {its : List ME} {b : List MS} {et ei : Expr} {sb : List Stmt} {pos : Pos} (hse : isSetE ei = false) (h1 : PIm Γ k false ik its c et ei) (htg : chkTg c tg et = true) (h2 : PMs Γ k b c sb) : PM Γ k (.for_ tg ik its b) c (.For et ei sb [] pos) := by
  intro X Wx xs
  obtain ⟨wi, p1, q1⟩ := h1 X Wx xs.xo
  obtain ⟨g, pg, hg⟩ := pgm_ok (k := k) htg X Wx xs.xo xs.cal
  obtain ⟨t2, p2, q2⟩ := h2 X Wx xs
  refine ⟨_, ps_for xs.po xs.cal p1 pg p2 (folded hse _), fun Wb W0 H0 W H σ ρ E D st h eo => ?_⟩
  rw [WS] at h
  refine q1 W H σ ρ _ _ _ st.ok st.e h (eo.xp st) fun J W1 H1 items ok1 g1 it hq => ?_
  have st1 := st.grow ok1 g1
  have up : ∀ {W' : Wd} {H' : Hp} {σ' : L2.St} {ρ' : Env}, StOk X.K X.mg W1 W0 H0 W' H' σ' ρ' → StOk X.K X.mg Wb W0 H0 W' H' σ' ρ' := fun s => ⟨s.ok, s.g, s.e, s.new, st1.lb.trans s.lb⟩
  refine ⟨fun i m σ' H' => m = items.length - i ∧ i ≤ items.length ∧ ∃ W' ρ', StOk X.K X.mg W1 W0 H0 W' H' σ' ρ' ∧ forW (fun d ρ nx => tgW tg d ρ fun ρ' => WSs Γ b ρ' { E with nx := nx, ct := nx, bk := E.nx }) E.nx (items.drop i) ρ', ⟨_, rfl, Nat.zero_le _, W1, ρ, ⟨st1.ok, st1.g, st1.e, st1.new, .refl _⟩, by rw [List.drop_zero]; exact hq⟩, ?_⟩
  rintro i m σ' H' ⟨rfl, hi, W', ρ', st', hf⟩
  obtain ⟨ig, is, iy⟩ := it W' H' ⟨st'.ok, st'.lb⟩
  by_cases hlt : i < items.length
  · right
    refine ⟨ig i hlt, fun σ2 H2 => ∃ W2 ρ2, StOk X.K X.mg W1 W0 H0 W2 H2 σ2 ρ2 ∧ forW (fun d ρ nx => tgW tg d ρ fun ρ' => WSs Γ b ρ' { E with nx := nx, ct := nx, bk := E.nx }) E.nx (items.drop (i + 1)) ρ2, fun σ2 H2 n => ⟨items.length - (i + 1), by omega, rfl, hlt, n⟩, fun x H2 hy => ?_⟩
    have hd : items[i]? = some items[i] := List.getElem?_eq_getElem hlt
    obtain ⟨W2, d, ok2, g2, dx, rfl⟩ := iy i _ x H2 hd hy
    rw [List.drop_eq_getElem_cons hlt, forW] at hf
    have st2 := st'.grow ok2 g2
    refine hg W2 H2 σ' ρ' x _ _ _ ok2 st2.e dx hf fun σ3 ρ3 e3 hw ho hb => ?_
    exact q2 W1 W0 H0 W2 H2 σ3 ρ3 _ _ ⟨ok2, st2.g, e3, ho _ st2.new, st2.lb⟩ hb ⟨fun W4 H4 σ4 ρ4 st4 q => ⟨W4, ρ4, st4, q⟩, eo.rt, fun W4 H4 σ4 ρ4 st4 q => eo.nx W4 H4 σ4 ρ4 (up st4) q, fun W4 H4 σ4 ρ4 st4 q => ⟨W4, ρ4, st4, q⟩, fun ex W4 H4 cls d σ4 ρ4 st4 e4 q => eo.X ex W4 H4 cls d σ4 ρ4 (up st4) e4 q⟩
  · left
    have e : i = items.length := by omega
    subst e
    refine ⟨is, ?_⟩
    rw [List.drop_length, forW] at hf
    exact eo.nx W' H' σ' ρ' (up st') hf
end
end PL

namespace PySem
open Sem (wp)
open AutoSeq1 (wpAny_loadPart')
theorem pl_extend_tup (l : Addr) (us : Array Value) (n : Nat) (t : Addr) (od : Option Addr) (sl : Array (Option Value)) (ws : Array Value) (m : Nat) (short : ¬(!us.isEmpty && Builtin.List.listTooLong (us.size + ws.size)) = true) (z1 : us.size ≤ sizeLine) (z2 : us.size + ws.size ≤ sizeLine + 1) :
    Meets (Builtin.«list.extend» ⟨[.ref l, .ref t], []⟩) (fun _ R s => s.heap.get? l = some { cls := .type "list", dict := none, data := .seq us n, slots := #[] } ∧ s.heap.get? t = some { cls := .type "tuple", dict := od, data := .seq ws m, slots := sl } ∧
      R (.ok (.ret Value.none)) { s with heap := s.heap.update l (Obj.mapSeq fun x => x ++ ws), toks := s.toks }) :=
  .of_wp fun prog w A R s hh => by
    obtain ⟨hp, g, d, tk, os⟩ := s
    obtain ⟨hl, hb, h⟩ := hh
    have f1 := AutoSeq1.idx_int
    have f2 := AutoSeq1.sub_tuple_tuple
    have f3 := AutoSeq1.sub_list_list
    have f4 := AutoSeq1.sub_tuple_list
    have f5 := AutoSeq1.sub_list_tuple
    have z3 : (us ++ ws).size ≤ sizeLine + 1 := by rw [Array.size_append]; exact z2
    wp_walk using (wpAny_updateSeq hl rfl (hz := z1) (_hz' := z3)), wpAny_loadPart' hl, wpAny_loadPart' hb
    exact ⟨_, rfl, h⟩
end PySem
namespace PL
open PySem PySem.Spec PyProof.Rows L2
section
variable {Γ : Tab} {k : Nat} {c : CC} {X : Cx} {Wx : WX}
/-- xs[i], a list, for xs[i] op= e -/
theorem get_list : PGet X (rIxL X.K) := by
  intro pins s σ H x y v u Q I rx ry h
  obtain ⟨p, xs, i, z, rfl, rfl, hq, he, q⟩ := h
  cases rx
  obtain ⟨t, rfl⟩ := ry
  obtain ⟨its, r, pl, hz⟩ := I.list hq
  obtain ⟨j, h1, h2, h3, h4, h5⟩ := atI_get he
  obtain ⟨w, ew, rw'⟩ := r.get h2
  have hl := r.length
  have hn := line63
  have fin : EP X pins σ Q w s := ⟨z, H, I, rw', q⟩
  by_cases h0 : 0 ≤ i
  · have hj : i.toNat = j := by
      rw [seqIndex_of h0 h5] at h1
      exact Option.some.inj h1
    exact wpAny_getItem_list pl.isList h0 (by omega) (by rw [hj]; simpa using ew) fin
  · have hj : (i + (its.toArray.size : Int)).toNat = j := by
      rw [seqIndex_neg (by omega) h4] at h1
      rw [List.size_toArray, ← hl]
      exact Option.some.inj h1
    exact wpAny_getItem_list_neg pl.isList (by omega) (by rw [List.size_toArray] <;> omega) (by omega) (by rw [hj]; simpa using ew) fin

/-! ### stores -/
theorem swS_ok {ts : List Expr} {n : Nat} {p : Pos} {v : Expr} {r : Option (List Str)} (xo : XOk Γ k c X Wx) (hk : X.env.scope.kind = .function) (h : swS c.sc ts v = some r) : swappedStores [.Tuple ts n p] v X.env = pure r := by
  have hb : X.env.blockKind = .function := by unfold Env.blockKind; rw [hk]; rfl
  cases v with
  | Tuple vs k2 p2 =>
    have key : swappedStores [.Tuple ts n p] (.Tuple vs k2 p2) X.env = (if (!(ts.length == 2 || ts.length == 3) || vs.length != ts.length || X.env.blockKind != .function) = true then pure none else
      if stA vs = true then pure none else
      if ((nmsA X.env.scope ts).length != ts.length || (nmsA X.env.scope ts).eraseDups.length != (nmsA X.env.scope ts).length) = true then pure none else
      if vs.all (foldedForSure 8) = true then pure none else
      if vs.all (constantsAlone 8) = true then (unsupported "assign.tuple-of-constant-expressions:order-of-the-stores" >>= fun _ => pure (some (nmsA X.env.scope ts))) else
      pure (some (nmsA X.env.scope ts))) := rfl
    rw [key, xo.sc]
    have e1 : (X.env.blockKind != ScopeKind.function) = false := by rw [hb]; rfl
    rw [e1, Bool.or_false]
    unfold swS at h
    dsimp only at h
    split at h
    · rename_i h1
      cases h
      rw [if_pos h1]
    · rename_i h1
      rw [if_neg h1]
      split at h
      · rename_i h2
        cases h
        rw [if_pos h2]
      · rename_i h2
        rw [if_neg h2]
        split at h
        · rename_i h3
          cases h
          rw [if_pos h3]
        · rename_i h3
          rw [if_neg h3]
          split at h
          · rename_i h4
            cases h
            rw [if_pos h4]
          · rename_i h4
            rw [if_neg h4]
            split at h
            · cases h
            · rename_i h5
              cases h
              rw [if_neg h5]
  | _ => cases h; rfl
theorem swapsTup {e : Expr} {es : List Expr} {n : Nat} {p : Pos} {l : Nat} {env : PySem.Env} : swapsWithSole [.Tuple es n p] e l env = pure false := by
  show swapsWith e (some (.Tuple es n p)) l env = _
  cases e <;> rfl
theorem swapsSub {e o i : Expr} {p : Pos} {l : Nat} {env : PySem.Env} : swapsWithSole [.Subscript o i p] e l env = pure false := by
  show swapsWith e (some (.Subscript o i p)) l env = _
  cases e <;> rfl
theorem swapped_sub {e o i : Expr} {p : Pos} {env : PySem.Env} : swappedStores [.Subscript o i p] e env = pure none := by
  unfold swappedStores
  rfl
theorem pm_setT {tg : Tg} {e : ME} {t v : Expr} {pos : Pos} (h0 : isTp tg = true) (h1 : chkTg c tg t = true) (h2 : PEm Γ k e c v) (h3 : swS c.sc (tupE t) v = some none) : PM Γ k (.setT tg e) c (.Assign [t] v pos) := by
  intro X Wx xs
  obtain ⟨te, pe, he⟩ := h2 X Wx xs.xo
  obtain ⟨g, pg, hg⟩ := pgm_ok (k := k) h1 X Wx xs.xo xs.cal
  obtain ⟨es, n, p, rfl⟩ := tp_of h1 h0
  refine ⟨_, ps_asg pe pg swapsTup (swS_ok xs.xo xs.kd h3) rfl, fun Wb W0 H0 W H σ ρ E D st h eo => ?_⟩
  rw [WS] at h
  refine he W H σ ρ _ _ _ st.ok st.e h (eo.xp st) fun x H1 o => ?_
  obtain ⟨W1, d, ok1, g1, dx, hq⟩ := Out.toD (Q := fun d => tgW tg d ρ E.nx) o
  have st1 := st.grow ok1 g1
  exact hg W1 H1 σ ρ x d _ _ ok1 st1.e dx hq fun σ' ρ' e' _ ho q => eo.nx W1 H1 σ' ρ' ⟨ok1, st1.g, e', ho _ st1.new, st1.lb⟩ q
theorem pm_par2 {i j : Nat} {a b : ME} {x y : Str} {px py p1 p2 pos : Pos} {k1 k2 : Nat} {ea eb : Expr} (hi : nmIs c i x = true) (hj : nmIs c j y = true) (hij : i ≠ j) (hx : c.sc.names.lookup x = some .local) (hy : c.sc.names.lookup y = some .local)
    (s1 : star ea = false) (s2 : star eb = false) (ha : PEm Γ k a c ea) (hb : PEm Γ k b c eb) (hsw : swS c.sc [.Name x px, .Name y py] (.Tuple [ea, eb] k2 p2) = some (some [x, y])) :
    PM Γ k (.par2 i j a b) c (.Assign [.Tuple [.Name x px, .Name y py] k1 p1] (.Tuple [ea, eb] k2 p2) pos) := by
  intro X Wx xs
  obtain ⟨t1, q1, h1⟩ := ha X Wx xs.xo
  obtain ⟨t2, q2, h2⟩ := hb X Wx xs.xo
  refine ⟨_, ps_par xs.cal xs.xo.nd (by rw [xs.xo.N]; exact of_decide_eq_true hi) (by rw [xs.xo.N]; exact of_decide_eq_true hj) hij (by rw [xs.xo.sc]; exact hx) (by rw [xs.xo.sc]; exact hy) (pa_cons q1 (pa_cons q2 pa_nil (starE s2 _)) (star_cons s1 _)) (swS_ok xs.xo xs.kd hsw) swapsTup, fun Wb W0 H0 W H σ ρ E D st h eo => ?_⟩
  rw [WS] at h
  refine h1 W H σ ρ _ _ _ st.ok st.e h (eo.xp st) fun v1 H1 ⟨W1, r1, ok1, g1, so1, f1, h⟩ => ?_
  have st1 := st.grow ok1 g1
  refine h2 W1 H1 σ ρ _ _ _ ok1 st1.e h (eo.xp st1) fun v2 H2 ⟨W2, r2, ok2, g2, so2, f2, h⟩ => ?_
  exact ⟨v1, v2, rfl, eo.nx W2 H2 _ _ ((st.setS i ok1 g1 so1 f1).setS j ok2 g2 so2 f2) h⟩
theorem pm_par3 {i j l : Nat} {a b d : ME} {x y z : Str} {px py pz p1 p2 pos : Pos} {k1 k2 : Nat} {ea eb ed : Expr} (hi : nmIs c i x = true) (hj : nmIs c j y = true) (hl : nmIs c l z = true) (hij : i ≠ j) (hil : i ≠ l) (hjl : j ≠ l) (hx : c.sc.names.lookup x = some .local) (hy : c.sc.names.lookup y = some .local) (hz : c.sc.names.lookup z = some .local)
    (s1 : star ea = false) (s2 : star eb = false) (s3 : star ed = false) (ha : PEm Γ k a c ea) (hb : PEm Γ k b c eb) (hd : PEm Γ k d c ed) (hsw : swS c.sc [.Name x px, .Name y py, .Name z pz] (.Tuple [ea, eb, ed] k2 p2) = some (some [x, y, z])) :
    PM Γ k (.par3 i j l a b d) c (.Assign [.Tuple [.Name x px, .Name y py, .Name z pz] k1 p1] (.Tuple [ea, eb, ed] k2 p2) pos) := by
  intro X Wx xs
  obtain ⟨t1, q1, h1⟩ := ha X Wx xs.xo
  obtain ⟨t2, q2, h2⟩ := hb X Wx xs.xo
  obtain ⟨t3, q3, h3⟩ := hd X Wx xs.xo
  refine ⟨_, ps_par3 xs.cal xs.xo.nd (by rw [xs.xo.N]; exact of_decide_eq_true hi) (by rw [xs.xo.N]; exact of_decide_eq_true hj) (by rw [xs.xo.N]; exact of_decide_eq_true hl) hij hil hjl (by rw [xs.xo.sc]; exact hx) (by rw [xs.xo.sc]; exact hy) (by rw [xs.xo.sc]; exact hz) (pa_cons q1 (pa_cons q2 (pa_cons q3 pa_nil (starE s3 _)) (star_cons s2 _)) (star_cons s1 _)) (swS_ok xs.xo xs.kd hsw) swapsTup, fun Wb W0 H0 W H σ ρ E D st h eo => ?_⟩
  rw [WS] at h
  refine h1 W H σ ρ _ _ _ st.ok st.e h (eo.xp st) fun v1 H1 ⟨W1, r1, ok1, g1, so1, f1, h⟩ => ?_
  have st1 := st.grow ok1 g1
  refine h2 W1 H1 σ ρ _ _ _ ok1 st1.e h (eo.xp st1) fun v2 H2 ⟨W2, r2, ok2, g2, so2, f2, h⟩ => ?_
  have st2 := st1.grow ok2 g2
  refine h3 W2 H2 σ ρ _ _ _ ok2 st2.e h (eo.xp st2) fun v3 H3 ⟨W3, r3, ok3, g3, so3, f3, h⟩ => ?_
  exact ⟨v1, v2, v3, rfl, eo.nx W3 H3 _ _ (((st.setS i ok1 g1 so1 f1).setS j ok2 g2 so2 f2).setS l ok3 g3 so3 f3) h⟩
theorem opI_ok {o : Op} {op : Operator} (h : opB o = some op) : PIp X op (R2D X (opI o)) := by
  have no : ∀ {o : Op} {op : Operator}, (opI o = fun _ _ _ => False) → PIp X op (R2D X (opI o)) := fun {o op} e pins s σ H x y v u Q I r1 r2 ⟨W, d, e', Qp, ok, hd, he, h, q⟩ => by rw [e] at h; exact h.elim
  cases o <;> cases h
  · exact o_iadd
  · exact o_isub
  · exact o_imul
  · exact o_ifdiv
  · exact no rfl
  · exact no rfl
  · exact o_ishl
  · exact o_ishr
  · exact no rfl
  · exact no rfl
  · exact o_ixor
theorem pm_aug {i : Nat} {o : Op} {op : Operator} {e : ME} {x : Str} {p pos : Pos} {v : Expr} (h1 : nmIs c i x = true) (h2 : tgN c x = true) (h3 : opB o = some op) (h4 : PAm Γ k e c v) : PM Γ k (.aug i o e) c (.AugAssign (.Name x p) op v pos) := by
  intro X Wx xs
  obtain ⟨t, pt, ht⟩ := h4 X Wx xs.xo
  obtain ⟨l1, l2⟩ := loc_ok xs.xo h2
  refine ⟨_, ps_aug xs.xo.nd (by rw [xs.xo.N]; exact of_decide_eq_true h1) l1 pt (opI_ok h3) l2, fun Wb W0 H0 W H σ ρ E D st h eo => ?_⟩
  rw [WS] at h
  obtain ⟨s, es, h⟩ := slW_at h
  obtain ⟨v, ev, hs⟩ := st.e.at_ i s es
  refine ⟨v, ev, ht W H σ ρ _ _ _ st.ok st.e h (eo.xp st) fun y H1 ⟨W1, d, ok1, g1, b1, hq⟩ => ?_⟩
  refine ⟨W1, s.d, d, _, ok1, ⟨s, hs.grow g1, rfl⟩, b1, hq, fun z H2 ⟨W2, r, ok2, g2, s2, f2, q⟩ => ?_⟩
  exact eo.nx W2 H2 _ _ ((st.grow ok1 g1).setS i ok2 g2 s2 f2) q

/-! ### methods of lists -/
theorem meth_eq {v o : Expr} {m : Str} {as : List Expr} (h : meth v m = some (o, as)) : ∃ apos cpos, v = .Call (.Attribute o m apos) as [] cpos ∧ (apos.endLine == cpos.line) = true := by
  unfold meth at h
  split at h
  · split at h
    · rename_i hc
      rw [Bool.and_eq_true, beq_iff_eq] at hc
      cases h
      exact ⟨_, _, by rw [hc.1], hc.2⟩
    · cases h
  · cases h
theorem few1 {e : Expr} {env : PySem.Env} {cpos : Pos} (hs : star e = false) : ((backTo cpos (starEach [e] env)).all (fun x => !x.1) && (backToKw cpos (keywordEach [] env)).all (fun x => x.1.isSome)
      && decide (([e] : List Expr).length + ([] : List Keyword).length + (if ([] : List Keyword).isEmpty then 0 else 1) < 30)) = true := by
  rw [starE hs]
  rfl
theorem base_var {i : Nat} {e : Expr} {m : Str} (h : varIs c i e = true) : attributeBase e m X.env (eval e X.env) = eval e X.env := by
  obtain ⟨x, p, rfl, _, _⟩ := varIs_eq h
  rfl
theorem own_st {Wb W0 W : Wd} {H0 H : Hp} {σ : L2.St} {ρ : Env} {i : Nat} {xs : List D} (st : StOk X.K X.mg Wb W0 H0 W H σ ρ) (e : ρ[i]? = some (some (.own xs))) : ∃ o vs, σ[i]? = some (some (.ref o)) ∧ H o = some (.lst vs) ∧ W.free o ∧ DenAll X.K X.mg W vs xs := by
  obtain ⟨v, ev, o, vs, rfl, h1, h2, h3⟩ := st.e.at_ i _ e
  exact ⟨o, vs, ev, h1, h2, h3⟩
theorem put_st {Wb W0 W : Wd} {H0 H : Hp} {σ : L2.St} {ρ : Env} {i : Nat} {xs ys : List D} {o : Addr} {ws : List V} (st : StOk X.K X.mg Wb W0 H0 W H σ ρ) (e : ρ[i]? = some (some (.own xs))) (ev : σ[i]? = some (some (.ref o))) (fr : W.free o) (dn : DenAll X.K X.mg W ws ys) :
    StOk X.K X.mg Wb W0 H0 W (upd H o (.lst ws)) σ (ρ.set i (some (.own ys))) :=
  st.put e rfl ev fr (s' := .own ys) rfl ⟨o, ws, rfl, upd_same, fr, dn⟩
theorem pm_append {i : Nat} {e : ME} {v o ea : Expr} {pos : Pos} (hm : meth v "append" = some (o, [ea])) (hv : varIs c i o = true) (hs : star ea = false) (he : PEm Γ k e c ea) : PM Γ k (.append i e) c (.Expr v pos) := by
  obtain ⟨apos, cpos, rfl, hl⟩ := meth_eq hm
  intro X Wx xs
  obtain ⟨t, pt, ht⟩ := he X Wx xs.xo
  refine ⟨_, ps_expr (pe_bm PySem.F.plainAttrs_list PySem.F.slot_list_append PySem.F.type_list_append mt_append (var_ok hv xs.xo) (pa_cons pt pa_nil (starE hs _)) (base_var hv) (few1 hs) hl (starE hs _) rfl) (swapsNo rfl _ _ _), fun Wb W0 H0 W H σ ρ E D st h eo => ?_⟩
  rw [WS] at h
  obtain ⟨xs', es, h⟩ := ownW_at h
  obtain ⟨a, vs, ev, ha, fr, dn⟩ := own_st st es
  refine ⟨_, ev, .inl ⟨rfl, _, SqL.of ha⟩, ht W H σ ρ _ _ _ st.ok st.e h (eo.xp st) fun x H1 o1 => ?_⟩
  obtain ⟨W1, d, ok1, g1, dx, hlen, hq⟩ := Out.toD (Q := fun d => xs'.length < LIM ∧ E.nx (ρ.set i (some (.own (xs' ++ [d]))))) o1
  have st1 := st.grow ok1 g1
  obtain ⟨a', vs', ev', ha', fr', dn'⟩ := own_st st1 es
  rw [ev] at ev'
  cases ev'
  exact ⟨a, vs', x, rfl, rfl, ha', by rw [dn'.length, lim_eq]; exact hlen, eo.nx W1 _ _ _ (put_st st1 es ev fr' (dn'.append (.cons dx .nil))) hq⟩
theorem seq_case {d : D} {P : List D → Prop} (h : (match d with | .lst ys => P ys | .tup ys => P ys | _ => False)) : ∃ ys, (d = .lst ys ∨ d = .tup ys) ∧ P ys := by
  cases d with
  | lst ys => exact ⟨ys, .inl rfl, h⟩
  | tup ys => exact ⟨ys, .inr rfl, h⟩
  | _ => exact h.elim
/-- xs.extend(a tuple) -/
def rExtT (K : PySem.W.Frag) : V → List V → Hp → VK → Prop := fun o as H Post => ∃ (l t : Addr) (us ws : List V), o = .ref l ∧ as = [.ref t] ∧ H l = some (.lst us) ∧ SqT K H t ws ∧ us.length + ws.length ≤ sizeLine ∧ Post .non (upd H l (.lst (us ++ ws)))
theorem mt_extT : MtM X "list.extend" (rExtT X.K) := by
  intro pins s σ H o as ov avs Post inv ro ras ⟨l, t, us, ws, eo, ea, hl, ht, len, post⟩
  subst eo ea
  cases ro
  obtain ⟨tv, rfl, rt⟩ := ras.one
  cases rt
  obtain ⟨_, lits, ln, lrel, llen, lat⟩ := inv.lstM hl
  obtain ⟨tits, trel, tat, _⟩ := inv.tuple ht
  obtain ⟨tob, t1, t2, tn, t3⟩ := tat
  have tlen := trel.length
  have both : lits.toArray.size + tits.toArray.size ≤ sizeLine := by
    rw [List.size_toArray, List.size_toArray]
    omega
  have short : ¬ (!lits.toArray.isEmpty && Builtin.List.listTooLong (lits.toArray.size + tits.toArray.size)) = true := by
    rw [notLongL both, Bool.and_false]
    exact Bool.false_ne_true
  obtain ⟨tc, td, tdat, tsl⟩ := tob
  dsimp only at t2 t3
  subst t2 t3
  refine call_meets F.slot_list_extend ⟨_, lat, rfl⟩ F.entry_list_extend (F.args_list_extend_2 _ _) (PySem.pl_extend_tup l lits.toArray ln t td tsl tits.toArray tn short (by rw [List.size_toArray]; omega) (by omega)) ⟨lat, t1, ?_⟩
  refine ⟨.non, _, inv.lset (its' := lits ++ tits) hl lat (by simp) (lrel.append trel) ?_, rfl, post⟩
  rw [List.length_append]
  omega
theorem pm_extend {i : Nat} {e : ME} {v o ea : Expr} {pos : Pos} (hm : meth v "extend" = some (o, [ea])) (hv : varIs c i o = true) (hs : star ea = false) (he : PAm Γ k e c ea) : PM Γ k (.extend i e) c (.Expr v pos) := by
  obtain ⟨apos, cpos, rfl, hl⟩ := meth_eq hm
  intro X Wx xs
  obtain ⟨t, pt, ht⟩ := he X Wx xs.xo
  refine ⟨_, ps_expr (pe_bm PySem.F.plainAttrs_list PySem.F.slot_list_extend PySem.F.type_list_extend (MtR.or mt_extend mt_extT) (var_ok hv xs.xo) (pa_cons pt pa_nil (starE hs _)) (base_var hv) (few1 hs) hl (starE hs _) rfl) (swapsNo rfl _ _ _), fun Wb W0 H0 W H σ ρ E D st h eo => ?_⟩
  rw [WS] at h
  obtain ⟨xs', es, h⟩ := ownW_at h
  obtain ⟨a, vs, ev, ha, fr, dn⟩ := own_st st es
  refine ⟨_, ev, .inl ⟨rfl, _, SqL.of ha⟩, ht W H σ ρ _ _ _ st.ok st.e h (eo.xp st) fun x H1 ⟨W1, d, ok1, g1, b1, hq⟩ => ?_⟩
  obtain ⟨ys, hd, hlen, hnx⟩ : ∃ ys, (d = .lst ys ∨ d = .tup ys) ∧ xs'.length + ys.length ≤ LIM ∧ E.nx (ρ.set i (some (.own (xs' ++ ys)))) := by
    cases d with
    | lst ys => exact ⟨ys, .inl rfl, hq⟩
    | tup ys => exact ⟨ys, .inr rfl, hq⟩
    | _ => exact hq.elim
  have st1 := st.grow ok1 g1
  obtain ⟨a', vs', ev', ha', fr', dn'⟩ := own_st st1 es
  rw [ev] at ev'
  cases ev'
  rcases hd with rfl | rfl
  · obtain ⟨b, ws, rfl, hb, dw⟩ := bd_lst ok1 b1
    exact .inl ⟨a, b, vs', ws, rfl, rfl, ha', hb, by rw [dn'.length, dw.length, lim_eq]; exact hlen, eo.nx W1 _ _ _ (put_st st1 es ev fr' (dn'.append dw)) hnx⟩
  · obtain ⟨b, ws, rfl, hb, _, dw⟩ := bd_tup ok1 b1
    exact .inr ⟨a, b, vs', ws, rfl, rfl, ha', .of hb, by rw [dn'.length, dw.length, lim_eq]; exact hlen, eo.nx W1 _ _ _ (put_st st1 es ev fr' (dn'.append dw)) hnx⟩
theorem pm_popx {i : Nat} {v o : Expr} {pos : Pos} (hm : meth v "pop" = some (o, [])) (hv : varIs c i o = true) : PM Γ k (.popx i) c (.Expr v pos) := by
  obtain ⟨apos, cpos, rfl, hl⟩ := meth_eq hm
  intro X Wx xs
  refine ⟨_, ps_expr (pe_bm0 PySem.F.plainAttrs_list PySem.F.slot_list_pop PySem.F.type_list_pop mt_pop (var_ok hv xs.xo) (base_var hv) hl) (swapsNo rfl _ _ _), fun Wb W0 H0 W H σ ρ E D st h eo => ?_⟩
  rw [WS] at h
  obtain ⟨xs', es, hne, h⟩ := ownW_at h
  obtain ⟨a, vs, ev, ha, fr, dn⟩ := own_st st es
  have hl : 0 < vs.length := by
    rw [dn.length]
    cases xs' with
    | nil => exact absurd rfl hne
    | cons _ _ => exact Nat.succ_pos _
  refine ⟨_, ev, .inl ⟨rfl, _, SqL.of ha⟩, a, vs, vs[vs.length - 1]'(by omega), rfl, rfl, ha, List.getElem?_eq_getElem _, eo.nx W _ _ _ (put_st st es ev fr dn.dropLast) h⟩
theorem ixW_at {xs : List D} {d : D} {Q : Nat → Prop} (h : ixW xs d Q) : ∃ n j, d = .int n ∧ ixN xs.length n = some j ∧ Q j := by
  unfold ixW at h
  split at h
  · split at h
    · exact ⟨_, _, rfl, by assumption, h⟩
    · exact h.elim
  · exact h.elim
theorem asg_sub {o i : Expr} {pos : Pos} (hs : isSlice i = false) (env : PySem.Env) (v : Value) : assign (.Subscript o i pos) env v = (do
      let ov ← holding [v] (eval o env)
      let iv ← holding [v, ov] (eval i env)
      standAt pos
      holding [v, ov, iv] (setItem ov iv v)
      release [v, ov, iv] []) := by
  cases i <;> first | rfl | cases hs
theorem aug_sub {i : Expr} (hs : isSlice i = false) (ov iv new : Value) : augStore i ov iv new = (do holding [new, ov, iv] (setItem ov iv new); release [new, ov, iv] []; pure .next) := by
  cases i <;> first | rfl | cases hs
theorem pm_setix {i : Nat} {ix e : ME} {o ei v : Expr} {p pos : Pos} (hv : varIs c i o = true) (hs : isSlice ei = false) (hi : PAm Γ k ix c ei) (he : PEm Γ k e c v) : PM Γ k (.setix i ix e) c (.Assign [.Subscript o ei p] v pos) := by
  intro X Wx xs
  obtain ⟨te, pe, hte⟩ := he X Wx xs.xo
  obtain ⟨ti, pi, hti⟩ := hi X Wx xs.xo
  refine ⟨_, ps_asg pe (pg_sub (var_ok hv xs.xo) pi set_list (asg_sub hs _)) swapsSub swapped_sub rfl, fun Wb W0 H0 W H σ ρ E D st h eo => ?_⟩
  rw [WS] at h
  obtain ⟨xs', es, h⟩ := ownW_at h
  refine hte W H σ ρ _ _ _ st.ok st.e h (eo.xp st) fun x H1 o1 => ?_
  obtain ⟨W1, d, ok1, g1, dx, h⟩ := Out.toD (Q := fun d => argW Γ ix ρ (fun q => ixW xs' q fun j => E.nx (ρ.set i (some (.own (xs'.set j d))))) (fun ex => E.X ex ρ)) o1
  have st1 := st.grow ok1 g1
  obtain ⟨a, vs, ev, ha, fr, dn⟩ := own_st st1 es
  refine ⟨_, ev, hti W1 H1 σ ρ _ _ _ ok1 st1.e h (eo.xp st1) fun y H2 ⟨W2, d2, ok2, g2, b2, h⟩ => ?_⟩
  obtain ⟨n, j, rfl, hj, h⟩ := ixW_at h
  cases bd_int b2
  have st2 := st1.grow ok2 g2
  obtain ⟨a', vs', ev', ha', fr', dn'⟩ := own_st st2 es
  rw [ev] at ev'
  cases ev'
  exact ⟨a, vs', n, j, rfl, rfl, ha', by rw [dn'.length]; exact hj, eo.nx W2 _ _ _ (put_st st2 es ev fr' (dn'.set (dx.le g2.le) j)) h⟩
theorem dicW_at {ρ : Env} {i : Nat} {Q : Bool → List (D × D) → Prop} (h : dicW ρ i Q) : ∃ t kvs, ρ[i]? = some (some (.ownd t kvs)) ∧ Q t kvs := by
  unfold dicW at h
  split at h
  · exact ⟨_, _, by assumption, h⟩
  · exact h.elim
theorem pm_setd {i : Nat} {ix e : ME} {o ei v : Expr} {p pos : Pos} (hv : varIs c i o = true) (hs : isSlice ei = false) (hi : PAm Γ k ix c ei) (he : PEm Γ k e c v) : PM Γ k (.setd i ix e) c (.Assign [.Subscript o ei p] v pos) := by
  intro X Wx xs
  have hu : X.A.units + 1 < cLine := by have : X.A.units + 66 < cLine := xs.xo.rm66; omega
  obtain ⟨te, pe, hte⟩ := he X Wx xs.xo
  obtain ⟨ti, pi, hti⟩ := hi X Wx xs.xo
  have sw : ∀ l env, swapsWith v (some (.Subscript o ei p)) l env = pure false := fun l env => by cases v <;> rfl
  refine ⟨_, ps_dput hu (var_ok hv xs.xo) pi pe (sw _ _), fun Wb W0 H0 W H σ ρ E D st h eo => ?_⟩
  rw [WS] at h
  obtain ⟨t, kvs, es, h⟩ := dicW_at h
  refine hte W H σ ρ _ _ _ st.ok st.e h (eo.xp st) fun x H1 o1 => ?_
  obtain ⟨W1, d, ok1, g1, dx, h⟩ := Out.toD (Q := fun d => argW Γ ix ρ (fun q => (keyFits t q = true ∧ kvs.length < LIM) ∧ E.nx (ρ.set i (some (.ownd t (putD kvs q d))))) (fun ex => E.X ex ρ)) o1
  have st1 := st.grow ok1 g1
  obtain ⟨v0, ev, hsl⟩ := st1.e.at_ i _ es
  refine ⟨v0, ev, hti W1 H1 σ ρ _ _ _ ok1 st1.e h (eo.xp st1) fun y H2 ⟨W2, d2, ok2, g2, b2, ⟨hf, hlen⟩, h⟩ => ?_⟩
  have st2 := st1.grow ok2 g2
  obtain ⟨v0', ev', hsl2⟩ := st2.e.at_ i _ es
  rw [ev] at ev'
  cases ev'
  cases t with
  | false =>
    obtain ⟨a, vs, rfl, ha, fr, dn⟩ := hsl2
    obtain ⟨κ, rfl⟩ := isKey_kD hf
    cases den_kD b2
    refine ⟨a, _, rfl, DPut.k ha (by rw [dn.length, lim_eq]; exact hlen), eo.nx W2 _ _ _ (st2.put es rfl ev fr (s' := .ownd false (putD kvs (kD κ) d)) rfl ⟨a, _, rfl, upd_same, fr, dn.put (dx.le g2.le)⟩) h⟩
  | true =>
    obtain ⟨a, vs, rfl, ha, fr, dn⟩ := hsl2
    obtain ⟨κ, rfl⟩ := isKeyT_kD hf
    obtain ⟨b, ws, rfl, hb, _, tb⟩ := bd_tup ok2 b2
    cases den_kDs H2 tb
    refine ⟨a, _, rfl, DPut.t ha hb (by rw [dn.length, lim_eq]; exact hlen), eo.nx W2 _ _ _ (st2.put es rfl ev fr (s' := .ownd true (putD kvs (.tup (κ.map kD)) d)) rfl ⟨a, _, rfl, upd_same, fr, dn.put (dx.le g2.le)⟩) h⟩
theorem pm_insert {i : Nat} {mes : List ME} {v o : Expr} {as : List Expr} {pos : Pos} (hm : meth v "insert" = some (o, as)) (hv : varIs c i o = true) (hne : as ≠ []) (hl30 : as.length < 30) (hs : (as.all fun e => !star e) = true) (h : PLs Γ k mes c as) : PM Γ k (.insert i mes) c (.Expr v pos) := by
  obtain ⟨apos, cpos, rfl, hl⟩ := meth_eq hm
  intro X Wx xs
  obtain ⟨t, pt, ht⟩ := h X Wx xs.xo
  cases as with
  | nil => exact absurd rfl hne
  | cons e es =>
    have hs2 := hs
    rw [List.all_cons, Bool.and_eq_true, Bool.not_eq_true'] at hs2
    refine ⟨_, ps_expr (pe_bm PySem.F.plainAttrs_list PySem.F.slot_list_insert PySem.F.type_list_insert mt_insert (var_ok hv xs.xo) pt (base_var hv) (few_all hs hl30) hl (star_cons hs2.1 _) (noStar_any _ hs2.2)) (swapsNo rfl _ _ _), fun Wb W0 H0 W H σ ρ E D st h eo => ?_⟩
    rw [WS] at h
    obtain ⟨xs', es', h⟩ := ownW_at h
    obtain ⟨a, vs, ev, ha, fr, dn⟩ := own_st st es'
    refine ⟨_, ev, .inl ⟨rfl, _, SqL.of ha⟩, ht W H σ ρ _ _ _ st.ok st.e h (eo.xp st) fun zs W1 H1 ds ok1 g1 dz hq => ?_⟩
    have st1 := st.grow ok1 g1
    obtain ⟨a', vs', ev', ha', fr', dn'⟩ := own_st st1 es'
    rw [ev] at ev'
    cases ev'
    unfold insW at hq
    split at hq
    · obtain ⟨hlen, ⟨h0, h1⟩, hq⟩ := hq
      cases dz with
      | cons d1 t1 =>
        cases t1 with
        | cons d2 t2 =>
          cases t2
          cases d1
          exact ⟨a, vs', _, _, rfl, rfl, ha', by rw [dn'.length, lim_eq]; exact hlen, h0, h1, eo.nx W1 _ _ _ (put_st st1 es' ev fr' (((dn'.take _).append (.cons d2 .nil)).append (dn'.drop _))) hq⟩
    · exact hq.elim
theorem pm_rvs {i : Nat} {v o : Expr} {pos : Pos} (hm : meth v "reverse" = some (o, [])) (hv : varIs c i o = true) : PM Γ k (.rvs i) c (.Expr v pos) := by
  obtain ⟨apos, cpos, rfl, hl⟩ := meth_eq hm
  intro X Wx xs
  refine ⟨_, ps_expr (pe_bm0 PySem.F.plainAttrs_list PySem.F.slot_list_reverse PySem.F.type_list_reverse mt_reverse (var_ok hv xs.xo) (base_var hv) hl) (swapsNo rfl _ _ _), fun Wb W0 H0 W H σ ρ E D st h eo => ?_⟩
  rw [WS] at h
  obtain ⟨xs', es, h⟩ := ownW_at h
  obtain ⟨a, vs, ev, ha, fr, dn⟩ := own_st st es
  exact ⟨_, ev, .inl ⟨rfl, _, SqL.of ha⟩, a, vs, rfl, rfl, ha, eo.nx W _ _ _ (put_st st es ev fr dn.reverse) h⟩
theorem popD_at {xs : List D} {n : Option Nat} {Q : D → List D → Prop} (h : popD xs n Q) : ∃ d, (n = none ∧ xs[xs.length - 1]? = some d ∧ Q d xs.dropLast) ∨ (∃ j, n = some j ∧ xs[j]? = some d ∧ Q d (xs.eraseIdx j)) := by
  unfold popD at h
  split at h
  · split at h
    · exact ⟨_, .inl ⟨rfl, by assumption, h⟩⟩
    · exact h.elim
  · split at h
    · exact ⟨_, .inr ⟨_, rfl, by assumption, h⟩⟩
    · exact h.elim
theorem pe_pop {i : Nat} {n : Option Nat} {o : Expr} {as : List Expr} {apos cpos : Pos} (hv : varIs c i o = true) (hl : (apos.endLine == cpos.line) = true) (ha : popOk n as = true) (xo : XOk Γ k c X Wx) : ∃ t, PE X (.Call (.Attribute o "pop" apos) as [] cpos) t ∧ ∀ (Wb W0 : Wd) (H0 : Hp) (W : Wd) (H : Hp) (σ : L2.St) (ρ : Env) (Q : D → List D → Prop) (Post : VK) (xs : List D), StOk X.K X.mg Wb W0 H0 W H σ ρ → ρ[i]? = some (some (.own xs)) → popD xs n Q →
      (∀ v d ys H', Den X.K X.mg W v d → StOk X.K X.mg Wb W0 H0 W H' σ (ρ.set i (some (.own ys))) → Q d ys → Post v H') → t σ H Post := by
  unfold popOk at ha
  split at ha
  · refine ⟨_, pe_bm0 PySem.F.plainAttrs_list PySem.F.slot_list_pop PySem.F.type_list_pop mt_pop (var_ok hv xo) (base_var hv) hl, fun Wb W0 H0 W H σ ρ Q Post xs st es h q => ?_⟩
    obtain ⟨a, vs, ev, ha', fr, dn⟩ := own_st st es
    obtain ⟨d, ⟨_, hd, h⟩ | ⟨j, e, _⟩⟩ := popD_at h
    · obtain ⟨v, hv', dv⟩ := dn.get hd
      exact ⟨_, ev, .inl ⟨rfl, _, SqL.of ha'⟩, a, vs, v, rfl, rfl, ha', by rw [dn.length]; exact hv', q _ _ _ _ dv (put_st st es ev fr dn.dropLast) h⟩
    · cases e
  · rename_i j j' _ _
    rw [Bool.and_eq_true, decide_eq_true_eq, decide_eq_true_eq] at ha
    obtain ⟨rfl, hj⟩ := ha
    refine ⟨_, pe_bm PySem.F.plainAttrs_list PySem.F.slot_list_pop PySem.F.type_list_pop mt_popAt (var_ok hv xo) (pa_cons pe_int pa_nil rfl) (base_var hv) (few1 rfl) hl rfl rfl, fun Wb W0 H0 W H σ ρ Q Post xs st es h q => ?_⟩
    obtain ⟨a, vs, ev, ha', fr, dn⟩ := own_st st es
    obtain ⟨d, ⟨e, _⟩ | ⟨j2, e, hd, h⟩⟩ := popD_at h
    · cases e
    · cases e
      obtain ⟨v, hv', dv⟩ := dn.get hd
      have hjl : j < vs.length := by
        rw [List.getElem?_eq_some_iff] at hv'
        exact hv'.1
      refine ⟨_, ev, .inl ⟨rfl, _, SqL.of ha'⟩, a, vs, (j : Int), j, v, rfl, rfl, ha', by omega, by omega, ?_, hv', q _ _ _ _ dv (put_st st es ev fr (dn.eraseIdx j)) h⟩
      unfold seqIndex?
      have h0 : ¬ ((j : Int) < 0) := by omega
      simp [h0, hjl]
  · cases ha
theorem pm_popset {tg : Tg} {i : Nat} {n : Option Nat} {t v o : Expr} {as : List Expr} {pos : Pos} (hm : meth v "pop" = some (o, as)) (hv : varIs c i o = true) (ha : popOk n as = true) (htg : chkTg c tg t = true) : PM Γ k (.popset tg i n) c (.Assign [t] v pos) := by
  obtain ⟨apos, cpos, rfl, hl⟩ := meth_eq hm
  intro X Wx xs
  obtain ⟨te, pe, hte⟩ := pe_pop hv hl ha xs.xo
  obtain ⟨g, pg, hg⟩ := pgm_ok (k := k) htg X Wx xs.xo xs.cal
  have fin : ∀ (Wb W0 : Wd) (H0 : Hp) (W : Wd) (H : Hp) (σ : L2.St) (ρ : Env) (E : PEnds) (D : L2.Ends), StOk X.K X.mg Wb W0 H0 W H σ ρ → WS Γ (.popset tg i n) ρ E → EOk X Wx Wb W0 H0 E D → tAsg te g D σ H := fun Wb W0 H0 W H σ ρ E D st h eo => by
    rw [WS] at h
    obtain ⟨xs', es, h⟩ := ownW_at h
    refine hte Wb W0 H0 W H σ ρ _ _ xs' st es h fun v d ys H' dv st' h' => ?_
    exact hg W H' σ _ v d _ _ st'.ok st'.e dv h' fun σ' ρ' e' _ ho q => eo.nx W H' σ' ρ' ⟨st'.ok, st'.g, e', ho _ st'.new, st'.lb⟩ q
  cases tg with
  | nm j =>
    cases t with
    | Name x p =>
      unfold chkTg at htg
      simp only [Bool.and_eq_true, decide_eq_true_eq] at htg
      refine ⟨tAsg te (gName j), ps_set xs.xo.nd (by rw [xs.xo.N]; exact htg.1) (loc_ok xs.xo htg.2).1 pe (swapsNo rfl _ _ _) (loc_ok xs.xo htg.2).2, fun Wb W0 H0 W H σ ρ E D st h eo => ?_⟩
      rw [WS] at h
      obtain ⟨xs', es, h⟩ := ownW_at h
      exact hte Wb W0 H0 W H σ ρ _ _ xs' st es h fun v d ys H' dv st' h' => eo.nx W H' _ _ (st'.set j dv) h'
    | _ => cases htg
  | tp is =>
    cases t with
    | Tuple es m p =>
      exact ⟨_, ps_asg pe pg swapsTup (swS_ok (r := none) xs.xo xs.kd rfl) rfl, fin⟩
    | _ => cases htg
theorem some_case {x : Option D} {P : D → Prop} (h : optP x P) : ∃ y, x = some y ∧ P y := by
  cases x with
  | some y => exact ⟨y, rfl, h⟩
  | none => exact h.elim
theorem pm_augix {i : Nat} {o : Op} {op : Operator} {ix e : ME} {eo' ei v : Expr} {p pos : Pos} (hv : varIs c i eo' = true) (hs : isSlice ei = false) (ho : opB o = some op) (hi : PAm Γ k ix c ei) (he : PAm Γ k e c v) : PM Γ k (.augix i o ix e) c (.AugAssign (.Subscript eo' ei p) op v pos) := by
  intro X Wx xs
  obtain ⟨te, pe, hte⟩ := he X Wx xs.xo
  obtain ⟨ti, pi, hti⟩ := hi X Wx xs.xo
  refine ⟨_, ps_augS (var_ok hv xs.xo) pi get_list pe (opI_ok ho) set_list (aug_sub hs), fun Wb W0 H0 W H σ ρ E D st h eo => ?_⟩
  rw [WS] at h
  obtain ⟨xs', es, h⟩ := ownW_at h
  obtain ⟨a, vs, ev, ha, fr, dn⟩ := own_st st es
  refine ⟨_, ev, hti W H σ ρ _ _ _ st.ok st.e h (eo.xp st) fun y H2 ⟨W2, d2, ok2, g2, b2, h⟩ => ?_⟩
  obtain ⟨n, j, rfl, hj, h⟩ := ixW_at h
  cases bd_int b2
  obtain ⟨x, ex, h⟩ := some_case h
  have st2 := st.grow ok2 g2
  obtain ⟨a', vs', ev', ha', fr', dn'⟩ := own_st st2 es
  rw [ev] at ev'
  cases ev'
  obtain ⟨w, hw, dw⟩ := dn'.get ex
  refine ⟨a, vs', n, w, rfl, rfl, .of ha', ?_, ?_⟩
  · unfold atI
    rw [dn'.length, hj]
    exact hw
  refine hte W2 H2 σ ρ _ _ _ ok2 st2.e h (eo.xp st2) fun y H3 ⟨W3, d3, ok3, g3, b3, h⟩ => ?_
  refine ⟨W3, x, d3, _, ok3, .of (dw.le g3.le), b3, h, fun z H4 o4 => ?_⟩
  obtain ⟨W4, d4, ok4, g4, dz, h⟩ := Out.toD (Q := fun d => E.nx (ρ.set i (some (.own (xs'.set j d))))) o4
  have st4 := (st2.grow ok3 g3).grow ok4 g4
  obtain ⟨a', vs4, ev', ha4, fr4, dn4⟩ := own_st st4 es
  rw [ev] at ev'
  cases ev'
  exact ⟨a, vs4, n, j, rfl, rfl, ha4, by rw [dn4.length]; exact hj, eo.nx W4 _ _ _ (put_st st4 es ev fr4 (dn4.set dz j)) h⟩

/-! ### stored comprehensions -/
theorem pm_setLc {i : Nat} {x : Str} {px spos : Pos} {elt : ME} {tg : Tg} {own : List (Str × Nat)} {ik : IK} {its cond : List ME} {ee et ei : Expr} {eifs : List Expr} {scope : Scope} {pos : Pos} (hx : nmIs c i x = true) (hsw : isSw c (.ListComp ee [⟨et, ei, eifs, 0⟩] scope pos) x px = true)
    (hcm : c.calm = true) (hblk : blkC c.N c.sc scope own = true) (hse : isSetE ei = false)
    (hi : PIm Γ k true ik its c et ei) (htg : chkTg (c.blk scope) tg et = true) (hix : ∀ i ∈ tg.ix, i ∈ own.map (·.2)) (hcs : PCs Γ k (c.blk scope) cond eifs) (he : PEm Γ k elt (c.blk scope) ee) :
    PM Γ k (.set i (.lc elt tg own ik its cond)) c (.Assign [.Name x px] (.ListComp ee [⟨et, ei, eifs, 0⟩] scope pos) spos) := by
  intro X Wx xs
  have xo := xs.xo
  obtain ⟨wi, pi, hwi⟩ := hi X Wx xo
  have hc := xs.cal
  unfold isSw at hsw
  simp only [Bool.and_eq_true, decide_eq_true_eq, Bool.not_eq_true'] at hsw
  obtain ⟨⟨h1, h2⟩, h3⟩ := hsw
  have hl : X.env.scope.names.lookup x = some .local := by rw [xo.sc]; exact h1
  refine ⟨_, ps_setLc (g := bG X.K X.mg tg) (tt := bT Γ X.K X.mg cond) (te := bE Γ X.K X.mg elt) hc xo.nd (by rw [xo.N]; exact of_decide_eq_true hx) hl (sw_true xs.kd hl h2 h3) pi (blkOk_by (by rw [xo.N, xo.sc]; exact hblk)) (fun s H C cl fp => pg_bG (pgm_ok htg) (xo.blk hc s H scope C cl fp) hc) (fun s H C cl fp => pts_bT hcs (xo.blk hc s H scope C cl fp)) (fun s H C cl fp => pe_bE he (xo.blk hc s H scope C cl fp)) (folded hse _), fun Wb W0 H0 W H σ ρ E D st h eo => ?_⟩
  rw [WS] at h
  refine lc_wi (X := X) (QX := fun ex => E.X ex ρ) hix st.ok st.e (fun Q R hq r => hwi W H σ ρ Q _ R st.ok st.e hq (eo.xp st) r) h fun v H' ⟨W', r, ok', g', s', f', q'⟩ => ?_
  exact eo.nx W' H' _ _ (st.setS i ok' g' s' f') q'
/-- the parts of a comprehension that has been checked -/
theorem chk_lc {elt : ME} {tg : Tg} {own : List (Str × Nat)} {ik : IK} {its cond : List ME} {t : Bool} {e : Expr} (h : chkE Γ (.lc elt tg own ik its cond) t c e = true) : ∃ ee et ei eifs scope pos, e = .ListComp ee [⟨et, ei, eifs, 0⟩] scope pos ∧
    c.calm = true ∧ blkC c.N c.sc scope own = true ∧ isSetE ei = false ∧ PIm Γ k true ik its c et ei ∧ chkTg (c.blk scope) tg et = true ∧ (∀ i ∈ tg.ix, i ∈ own.map (·.2)) ∧ PCs Γ k (c.blk scope) cond eifs ∧ PEm Γ k elt (c.blk scope) ee := by
  rw [chkE] at h
  dsimp only at h
  split at h
  · rename_i ee et ei eifs scope pos
    simp only [Bool.and_eq_true, decide_eq_true_eq, Bool.not_eq_true', List.all_eq_true, List.contains_iff_mem] at h
    obtain ⟨⟨⟨⟨⟨⟨⟨⟨⟨h1, h2⟩, h3⟩, h4⟩, h5⟩, h6⟩, h7⟩, h8⟩, h9⟩, h10⟩ := h
    split at h4
    · rename_i as has
      exact ⟨ee, et, ei, eifs, scope, pos, rfl, h1, h2, h3, pim_of has (soundL its c _ h4) h7 h5, h5, h6, soundC cond (c.blk scope) _ h9 h8, (sound elt (c.blk scope) _).1 h10⟩
    · cases h4
  · cases h
theorem pm_setAny {i : Nat} {e : ME} {x : Str} {p pos : Pos} {v : Expr} (h1 : nmIs c i x = true) (h2 : tgN c x = true) (h3 : chkE Γ e false c v = true) (h4 : (noSw c v x p || isSw c v x p) = true) : PM Γ k (.set i e) c (.Assign [.Name x p] v pos) := by
  rw [Bool.or_eq_true] at h4
  rcases h4 with h4 | h4
  · exact pm_set h1 h2 ((sound e c v).1 h3) h4
  · cases v with
    | ListComp ee gs scope vp =>
      cases e with
      | lc elt tg own ik its cond =>
        obtain ⟨ee', et, ei, eifs, scope', pos', e1, a1, a2, a3, a4, a5, a6, a7, a8⟩ := chk_lc (k := k) h3
        cases e1
        exact pm_setLc h1 h4 a1 a2 a3 a4 a5 a6 a7 a8
      | _ => rw [chkE] at h3; cases h3
    | _ => cases h4

/-! ### raise, try -/
theorem upd_mk {H : Hp} {a dx : Addr} {e0 e1 q r : HO} (n : H a = none) (ne : dx ≠ a) : upd (del (upd (upd (upd H a e0) dx q) a e1) a) dx r = upd H dx r := by
  funext b
  by_cases hb : b = dx
  · subst hb; rw [upd_same, upd_same]
  · rw [upd_ne hb, upd_ne hb]
    by_cases ha : b = a
    · subst ha; rw [del_same, n]
    · rw [del_ne ha, upd_ne ha, upd_ne hb, upd_ne ha]
theorem pm_raise {C x : Str} {e : ME} {ea : Expr} {p cp pos : Pos} (hx : x = C) (hg : glb c x = true) (hm : x ∈ Γ.excs) (hs : star ea = false) (he : PEm Γ k e c ea) : PM Γ k (.raise_ C e) c (.Raise (some (.Call (.Name x p) [ea] [] cp)) none pos) := by
  subst hx
  intro X Wx xs
  obtain ⟨t, pt, ht⟩ := he X Wx xs.xo
  obtain ⟨g, hd, hn⟩ := glb_ok xs.xo hg
  obtain ⟨Ca, mC, xf, noN, T, fI, fd, k1, iC, tI, F1, hk, hb, _⟩ := xs.xo.g.ex x hm
  refine ⟨_, ps_raise xs.cal xs.xo.tk (pmk_oex T iC tI F1 (xs.xo.rm.mono hk) hb .nil passL g mC (pa_cons pt pa_nil (starE hs _)) hd (starE hs _) rfl), fun Wb W0 H0 W H σ ρ E D st h eo => ?_⟩
  rw [WS] at h
  refine ht W H σ ρ _ _ _ st.ok st.e h (eo.xp st) fun v H1 o => ?_
  obtain ⟨W1, d, ok1, g1, dv, hq⟩ := Out.toD (Q := fun d => E.X ⟨x, [("name", d)]⟩ ρ) o
  have st1 := st.grow ok1 g1
  refine ⟨by show 1 ≤ 1000; decide, fun a na => ⟨a, Ca, v, rfl, T, noN, upd_same, fun dx nd ne => ⟨rfl, dx, [("name", v)], upd_same, ?_, ?_, ?_⟩⟩⟩
  · rw [upd_ne ne, upd_same]
  · rw [upd_ne ne] at nd
    exact nd
  · have nd' : H1 dx = none := by rw [upd_ne ne] at nd; exact nd
    rw [upd_mk na ne]
    have st2 := st1.grow (ok1.new (o := .xd [("name", v)]) nd') (.new nd')
    exact eo.X ⟨x, [("name", d)]⟩ W1 _ _ _ σ ρ st2 ⟨Ca, mC, rfl, .inr ⟨dx, _, rfl, upd_same, .cons dv .nil⟩⟩ hq
/-- the strongest step of a block -/
def SS (Γ : Tab) (X : Cx) (Wx : WX) (ms : List MS) (t : TS) : Prop := ∀ (Wb W0 : Wd) (H0 : Hp) (W : Wd) (H : Hp) (σ : L2.St) (ρ : Env) (E : PEnds) (D : Ends), StOk X.K X.mg Wb W0 H0 W H σ ρ → WSs Γ ms ρ E → EOk X Wx Wb W0 H0 E D → t D σ H
def bS (Γ : Tab) (X : Cx) (Wx : WX) (ms : List MS) : TS := fun D σ H => ∀ t, SS Γ X Wx ms t → t D σ H
theorem bS_ok {ms : List MS} : SS Γ X Wx ms (bS Γ X Wx ms) := fun Wb W0 H0 W H σ ρ E D st h eo t ht => ht Wb W0 H0 W H σ ρ E D st h eo
theorem XS.tr (xs : XS Γ k c X Wx) {W : WX} {pn : List (Addr × Obj)} {xe : Value → Shared → Prop} (tk : Takes (X.tr pn xe) W) (po : PassesOwn (model X.prog X.w) X.A X.env xe) : XS Γ k c (X.tr pn xe) W where
  xo := { N := xs.xo.N, nd := xs.xo.nd, sc := xs.xo.sc, calm := xs.xo.calm, tk := tk, rm := xs.xo.rm, g := xs.xo.g, fn := xs.xo.fn, gd := xs.xo.gd }
  cal := xs.cal
  po := po
  kd := xs.kd
  stk := xs.stk
  frm := xs.frm
theorem pss_bS {ms : List MS} {ss : List Stmt} (h : PMs Γ k ms c ss) (xs : XS Γ k c X Wx) {W : WX} {pn : List (Addr × Obj)} {xe : Value → Shared → Prop} (tk : Takes (X.tr pn xe) W) (po : PassesOwn (model X.prog X.w) X.A X.env xe) : PSs (X.tr pn xe) ss (bS Γ X W ms) := by
  obtain ⟨t, pt, ht⟩ := h _ _ (xs.tr tk po)
  exact ⟨fun pins s σ H D I hw => pt.run pins s σ H D I (hw t fun Wb W0 H0 W H σ ρ E D st h eo => ht Wb W0 H0 W H σ ρ E D st h ⟨eo.nx, eo.rt, eo.bk, eo.ct, eo.X⟩)⟩
def csV : Cs → V
  | .non => .non
  | .bl b => .bl b
  | .int i => .int i
  | .str x => .str x
theorem cs_den {K : PySem.W.Frag} {mg : Str → Option Value} {W : Wd} (k : Cs) : Den K mg W (csV k) (csD k) := by
  cases k
  · exact .non
  · exact .bl _
  · exact .int _
  · exact .str _
def tXfE (K : PySem.W.Frag) (a : Addr) (cls : Value) (d : Option Addr) (i : Nat) : TE := fun σ H Q => ∃ C : Addr, XfC K C ∧ PySem.W.findIn K (.ref C) "name" = some none ∧ tXf a cls d C "name" (tVar i) σ H Q
/-- isinstance(e, c), e the exception at hand, with a dict -/
def rIsD (K : PySem.W.Frag) (D a : Addr) (d : Option Addr) : List V → Hp → VK → Prop := fun xs H Q => ∃ (c : V) (cv : Value) (b : Bool) (dd : Addr) (fs : List (Str × V)), xs = [.ref a, c] ∧ (∀ u, RelV c u → u = cv) ∧ PySem.W.kitOne K (.ref D) cv = some b ∧ d = some dd ∧ H dd = some (.xd fs) ∧ Q (.bl b) H
theorem call_isD {X : Cx} {a D : Addr} {oe : Obj} {d : Option Addr} {pn : List (Addr × Obj)} (C : ExcC X.K D) (hz : Zc (.ref D) d oe) (hf : ∃ vs, oe.data = .fields vs) : CallR (X.suite a ((a, oe) :: pn)) (.builtin "isinstance") (rIsD X.K D a d) := by
  intro pins s σ H xs us Q I r h
  obtain ⟨c, cv, b, dd, fs, rfl, hcv, e, rfl, hx, q⟩ := h
  cases r with
  | cons rx rr =>
    cases rr with
    | cons rt rr =>
      cases rr
      cases rx
      have ec := hcv _ rt
      subst ec
      obtain ⟨ha, _⟩ := I.pin (a, oe) (List.mem_append_left _ List.mem_cons_self)
      obtain ⟨vs, hd⟩ := hf
      have hx : ObjOk X.prog X.w H s.heap dd (.xd fs) := I.hok dd _ hx
      obtain ⟨mA, hns, hr⟩ := hx
      obtain ⟨od, ho, hl⟩ := lookIn_ns hns
      have J : PySem.W.InstAt s.heap a oe D (some od) := ⟨ha, hz.1, by unfold PySem.W.notCls; rw [hd] <;> rfl, by rw [hz.2]; exact ho⟩
      obtain ⟨cd, hcd, _⟩ := PySem.W.any_some C.hd
      exact PySem.W.kia_one (PySem.W.kitx_exc (by rw [hcd]; rfl) C.hg C.hk C.hs C.ha C.hn C.ht C.hm) I.kIn J e (fun z => nomatch z) fun tk => ⟨.bl b, H, I.kept (t' := tk) fun _ _ z => z, rfl, q⟩
def tIsE (K : PySem.W.Frag) (a : Addr) (cls : Value) (d : Option Addr) (i : Nat) (c : V) (cv : Value) : TE := fun σ H Q => ∃ (C : Addr) (b : Bool) (dd : Addr) (fs : List (Str × V)), cls = .ref C ∧ ExcC K C ∧ PySem.W.kitOne K (.ref C) cv = some b ∧ d = some dd ∧ H dd = some (.xd fs) ∧ σ[i]? = some (some (.ref a)) ∧ Q (.bl b) H
def tIsH (X : Cx) (a : Addr) (cls : Value) (d : Option Addr) (i : Nat) : TE := fun σ H Q => ∃ H2 : Addr, X.mg "HeardError" = some (.ref H2) ∧ tIsE X.K a cls d i (.ref H2) (.ref H2) σ H Q
def tIsV (X : Cx) (a : Addr) (cls : Value) (d : Option Addr) (i : Nat) : TE := fun σ H Q => X.mg "ValueError" = none ∧ tIsE X.K a cls d i (.ty "ValueError") (.type "ValueError") σ H Q
def tsH (X : Cx) (i : Option Nat) (h : HX) : Addr → Value → Option Addr → TS := fun a cls d => match h with
  | .retc k => tRet fun _ H Q => Q (csV k) H
  | .retn => tRet (tXfE X.K a cls d (i.getD 0))
  | .retq x => tRet (tOp (R2D X eqW) (tXfE X.K a cls d (i.getD 0)) fun _ H Q => Q (.str x) H)
  | .reti k => tRet (tIf (tB (tIsH X a cls d (i.getD 0))) (tXfE X.K a cls d (i.getD 0)) fun _ H Q => Q (csV k) H)
  | .retiq x => tRet (tAndV (tIsH X a cls d (i.getD 0)) (tAndV (tIsV X a cls d (i.getD 0)) (tOp (R2D X eqW) (tXfE X.K a cls d (i.getD 0)) fun _ H Q => Q (.str x) H)))
theorem suite_ok {i : Option Nat} {h : HX} {ss : List Stmt} (hc : chkH c i h ss = true) (hi : needsI h = true → X.mg "isinstance" = none) (xs : XS Γ k c X Wx) : ∃ b₀ suite, ss = b₀ :: suite ∧ ∀ (a : Addr) (oe : Obj) (cls : Value) (d : Option Addr) (pn : List (Addr × Obj)), Zc cls d oe → (∃ vs, oe.data = .fields vs) → PSs (X.suite a ((a, oe) :: pn)) (b₀ :: suite) (tsH X i h a cls d) := by
  have fld : ∀ {o : Expr} {j : Nat} {p : Pos} (a : Addr) (oe : Obj) (cls : Value) (d : Option Addr) (pn : List (Addr × Obj)), varIs c j o = true → Zc cls d oe → (∃ vs, oe.data = .fields vs) → PE (X.suite a ((a, oe) :: pn)) (.Attribute o "name" p) (tXfE X.K a cls d j) := fun {o j p} a oe cls d pn hv hz hf => by
    obtain ⟨x, px, rfl, h1, h2⟩ := varIs_eq hv
    obtain ⟨vs, hd, hcd⟩ := vis_ok xs.xo h2
    have pv : PE (X.suite a ((a, oe) :: pn)) (.Name x px) (tVar j) := pe_var (by show X.N[j]? = some x; rw [xs.xo.N]; exact h1) vs hd hcd
    exact ⟨fun pins s σ H Q I ⟨C, T, hno, hw⟩ => (pe_xf (X := X) T hno hz hf pv rfl).run pins s σ H Q I hw⟩
  have isx : ∀ {o : Expr} {j : Nat} {g cl : Str} {p p2 pos : Pos} (a : Addr) (oe : Obj) (cls : Value) (d : Option Addr) (pn : List (Addr × Obj)) (cV : V) (cv : Value), X.mg "isinstance" = none → varIs c j o = true → g = ("isinstance" : Str) → glb c g = true → star o = false → PE (X.suite a ((a, oe) :: pn)) (.Name cl p2) (tC cV) → (∀ u, RelV cV u → u = cv) → Zc cls d oe → (∃ vs, oe.data = .fields vs) →
      PE (X.suite a ((a, oe) :: pn)) (.Call (.Name g p) [o, .Name cl p2] [] pos) (tIsE X.K a cls d j cV cv) := fun {o j g cl p p2 pos} a oe cls d pn cV cv hm hv hg hgl hs pc hu hz hf => by
    subst hg
    obtain ⟨x, px, rfl, h1, h2⟩ := varIs_eq hv
    obtain ⟨vs, hd, hcd⟩ := vis_ok xs.xo h2
    obtain ⟨gg, gd, gn⟩ := glb_ok xs.xo hgl
    have pv : PE (X.suite a ((a, oe) :: pn)) (.Name x px) (tVar j) := pe_var (by show X.N[j]? = some x; rw [xs.xo.N]; exact h1) vs hd hcd
    refine ⟨fun pins s σ H Q I ⟨C, b, dd, fs, ec, EC, hk, ed, hH, hσ, hw⟩ => ?_⟩
    subst ec
    exact (pe_callB (X := X.suite a ((a, oe) :: pn)) (call_isD EC hz hf) gg hm (by decide +kernel) (pa_cons pv (pa_cons pc pa_nil rfl) (star_cons hs _)) gn gd (star_cons hs _) rfl).run pins s σ H Q I ⟨_, hσ, cV, cv, b, dd, fs, rfl, hu, hk, ed, hH, hw⟩
  have isH : ∀ {o : Expr} {j : Nat} {g cl : Str} {p p2 pos : Pos} (a : Addr) (oe : Obj) (cls : Value) (d : Option Addr) (pn : List (Addr × Obj)), X.mg "isinstance" = none → varIs c j o = true → g = ("isinstance" : Str) → glb c g = true → star o = false → cl = ("HeardError" : Str) → glb c cl = true → Zc cls d oe → (∃ vs, oe.data = .fields vs) →
      PE (X.suite a ((a, oe) :: pn)) (.Call (.Name g p) [o, .Name cl p2] [] pos) (tIsH X a cls d j) := fun {o j g cl p p2 pos} a oe cls d pn hm hv hg hgl hs hcl hgc hz hf => by
    subst hcl
    obtain ⟨gg, gd, gn⟩ := glb_ok xs.xo hgc
    refine ⟨fun pins s σ H Q I ⟨H2, mH, hw⟩ => ?_⟩
    have pc : PE (X.suite a ((a, oe) :: pn)) (.Name "HeardError" p2) (tC (.ref H2)) := pe_glob (X := X.suite a ((a, oe) :: pn)) gg mH rfl gd
    exact (isx a oe cls d pn (.ref H2) (.ref H2) hm hv hg hgl hs pc (fun u r => r) hz hf).run pins s σ H Q I hw
  have isV : ∀ {o : Expr} {j : Nat} {g cl : Str} {p p2 pos : Pos} (a : Addr) (oe : Obj) (cls : Value) (d : Option Addr) (pn : List (Addr × Obj)), X.mg "isinstance" = none → varIs c j o = true → g = ("isinstance" : Str) → glb c g = true → star o = false → cl = ("ValueError" : Str) → glb c cl = true → Zc cls d oe → (∃ vs, oe.data = .fields vs) →
      PE (X.suite a ((a, oe) :: pn)) (.Call (.Name g p) [o, .Name cl p2] [] pos) (tIsV X a cls d j) := fun {o j g cl p p2 pos} a oe cls d pn hm hv hg hgl hs hcl hgc hz hf => by
    subst hcl
    obtain ⟨gg, gd, gn⟩ := glb_ok xs.xo hgc
    refine ⟨fun pins s σ H Q I ⟨mV, hw⟩ => ?_⟩
    have pc : PE (X.suite a ((a, oe) :: pn)) (.Name "ValueError" p2) (tC (.ty "ValueError")) := pe_bltn (X := X.suite a ((a, oe) :: pn)) gg mV (u := .type "ValueError") (by decide +kernel) rfl gn gd
    exact (isx a oe cls d pn (.ty "ValueError") (.type "ValueError") hm hv hg hgl hs pc (fun u r => r) hz hf).run pins s σ H Q I hw
  unfold chkH at hc
  split at hc
  · rename_i k' v j p p'
    refine ⟨_, [], rfl, fun a oe cls d pn hz hf => ?_⟩
    have pe : PE (X.suite a ((a, oe) :: pn)) (.Constant v j p) (fun _ H Q => Q (csV k') H) := by
      split at hc
      · exact pe_non
      · rw [eq_of_beq hc]; exact pe_bl
      · rw [of_decide_eq_true hc]; exact pe_int
      · rw [eq_of_beq hc]; exact pe_str
      · cases hc
    exact pss_one (ps_ret pe)
  · split at hc
    · rw [Bool.and_eq_true, beq_iff_eq] at hc
      obtain ⟨h1, rfl⟩ := hc
      exact ⟨_, [], rfl, fun a oe cls d pn hz hf => pss_one (ps_ret (fld a oe cls d pn h1 hz hf))⟩
    · cases hc
  · split at hc
    · rw [Bool.and_eq_true, Bool.and_eq_true, beq_iff_eq, beq_iff_eq] at hc
      obtain ⟨⟨h1, rfl⟩, rfl⟩ := hc
      exact ⟨_, [], rfl, fun a oe cls d pn hz hf => pss_one (ps_ret (pe_cmpR (X := X.suite a ((a, oe) :: pn)) (o_eq (X := X.suite a ((a, oe) :: pn)) xs.xo.rm66) (fld a oe cls d pn h1 hz hf) pe_str (nomark _)))⟩
    · cases hc
  · split at hc
    · simp only [Bool.and_eq_true, Bool.not_eq_true', beq_iff_eq] at hc
      obtain ⟨⟨⟨⟨⟨⟨⟨⟨h1, rfl⟩, h3⟩, h4⟩, h5⟩, h6⟩, h7⟩, h8⟩, h9⟩ := hc
      split at h9
      · rw [eq_of_beq h9]
        exact ⟨_, [], rfl, fun a oe cls d pn hz hf => pss_one (ps_ret (pe_ifExp (pt_val (isH a oe cls d pn (hi rfl) h3 h4 h5 h8 h6 h7 hz hf)) (fld a oe cls d pn h1 hz hf) pe_str))⟩
      · cases h9
    · cases hc
  · split at hc
    · simp only [Bool.and_eq_true, Bool.not_eq_true', beq_iff_eq] at hc
      obtain ⟨⟨⟨⟨⟨⟨⟨⟨⟨⟨⟨⟨⟨h1, rfl⟩, rfl⟩, h3⟩, h4⟩, h5⟩, h6⟩, h7⟩, h8⟩, h9⟩, h10⟩, h11⟩, h12⟩, h13⟩ := hc
      exact ⟨_, [], rfl, fun a oe cls d pn hz hf => pss_one (ps_ret (pe_and (isH a oe cls d pn (hi rfl) h3 h4 h5 h8 h6 h7 hz hf) (pe_and (isV a oe cls d pn (hi rfl) h9 h10 (by rw [h10, ← h4]; exact h5) h13 h11 h12 hz hf) (pe_one (pe_cmpR (X := X.suite a ((a, oe) :: pn)) (o_eq (X := X.suite a ((a, oe) :: pn)) xs.xo.rm66) (fld a oe cls d pn h1 hz hf) pe_str (nomark _))))))⟩
    · cases hc
  · cases hc
theorem handler_ok {i : Option Nat} {h : HX} {Wb W0 W : Wd} {H0 H : Hp} {σ : L2.St} {ρ : Env} {E : PEnds} {D : Ends} {ex : Ex} {cls : Value} {d : Option Addr} {a : Addr} {σ' : L2.St} (st : StOk X.K X.mg Wb W0 H0 W H σ ρ) (eo : ∀ v H, Out X.K X.mg W0 H0 E.rt v H → D.rt v H)
    (e : ExOk X.K X.mg W H cls d ex) (xf : ∀ C : Addr, cls = .ref C → XfC X.K C ∧ PySem.W.findIn X.K (.ref C) "name" = some none) (hσ : ∀ j, i = some j → σ'[j]? = some (some (.ref a))) (hi : ∀ x, h = .retn ∨ h = .retq x → i ≠ none) (hn : needsI h = true → i ≠ none) (his : ∀ C : Addr, cls = .ref C → IsOk X.K X.mg C) (hw : hW h ex E.rt) : tsH X i h a cls d D σ' H := by
  obtain ⟨C, mC, rfl, hd⟩ := e
  obtain ⟨T, hno⟩ := xf C rfl
  have key : ∀ {y : PL.D}, ex.fs = [(("name" : Str), y)] → ∃ dd fs v, d = some dd ∧ H dd = some (.xd fs) ∧ fs.lookup ("name" : Str) = some v ∧ Den X.K X.mg W v y := fun {y} ef => by
    rcases hd with ⟨_, e0⟩ | ⟨dd, fs, rfl, hx, dn⟩
    · rw [e0] at ef; cases ef
    · rw [ef] at dn
      cases dn with
      | cons v r =>
        cases r
        exact ⟨dd, _, _, rfl, hx, by simp [List.lookup], v⟩
  cases h with
  | retc k' => exact eo _ _ ((Out.now st.ok (cs_den k') hw).after st.ok st.g)
  | retn =>
    cases i with
    | none => exact absurd rfl (hi ⟨#[]⟩ (.inl rfl))
    | some j =>
      unfold hW at hw
      dsimp only at hw
      split at hw
      · rename_i f y ef
        obtain ⟨rfl, hw⟩ := hw
        obtain ⟨dd, fs, v, h1, h2, h3, h4⟩ := key ef
        exact ⟨C, T, hno, _, hσ j rfl, rfl, rfl, dd, fs, v, h1, h2, h3, eo _ _ ((Out.now st.ok h4 hw).after st.ok st.g)⟩
      · exact hw.elim
  | retq x =>
    cases i with
    | none => exact absurd rfl (hi x (.inr rfl))
    | some j =>
      unfold hW at hw
      dsimp only at hw
      split at hw
      · rename_i f y ef
        obtain ⟨rfl, hw⟩ := hw
        obtain ⟨dd, fs, v, h1, h2, h3, h4⟩ := key ef
        refine ⟨C, T, hno, _, hσ j rfl, rfl, rfl, dd, fs, v, h1, h2, h3, ?_⟩
        exact ⟨W, y, .str x, E.rt, st.ok, .of h4, .of (.str x), hw, fun v' H' o => eo v' H' (o.after st.ok st.g)⟩
      · exact hw.elim
  | reti k' =>
    cases i with
    | none => exact absurd rfl (hn rfl)
    | some j =>
      unfold hW at hw
      dsimp only at hw
      split at hw
      · rename_i f y ef
        obtain ⟨rfl, hw⟩ := hw
        obtain ⟨dd, fs, v, h1, h2, h3, h4⟩ := key ef
        obtain ⟨EC, ⟨H2, mH, kH⟩, _⟩ := his C rfl
        exact ⟨H2, mH, C, true, dd, fs, rfl, EC, kH, h1, h2, hσ j rfl, true, rfl, C, T, hno, _, hσ j rfl, rfl, rfl, dd, fs, v, h1, h2, h3, eo _ _ ((Out.now st.ok h4 hw).after st.ok st.g)⟩
      · exact hw.elim
  | retiq x =>
    cases i with
    | none => exact absurd rfl (hn rfl)
    | some j =>
      unfold hW at hw
      dsimp only at hw
      split at hw
      · rename_i f y ef
        obtain ⟨rfl, hw⟩ := hw
        obtain ⟨dd, fs, v, h1, h2, h3, h4⟩ := key ef
        obtain ⟨EC, ⟨H2, mH, kH⟩, mV, kV⟩ := his C rfl
        refine ⟨H2, mH, C, true, dd, fs, rfl, EC, kH, h1, h2, hσ j rfl, true, rfl, mV, C, true, dd, fs, rfl, EC, kV, h1, h2, hσ j rfl, true, rfl, C, T, hno, _, hσ j rfl, rfl, rfl, dd, fs, v, h1, h2, h3, ?_⟩
        exact ⟨W, y, .str x, E.rt, st.ok, .of h4, .of (.str x), hw, fun v' H' o => eo v' H' (o.after st.ok st.g)⟩
      · exact hw.elim
theorem mem_lk' : True := trivial
theorem mem_lk {α β : Type} [BEq α] [LawfulBEq α] {a : α} {b : β} : ∀ {l : List (α × β)}, l.lookup a = some b → (a, b) ∈ l
  | [], h => by cases h
  | (x, y) :: r, h => by
    rw [List.lookup_cons] at h
    split at h
    · rename_i hx
      cases h
      rw [eq_of_beq hx]
      exact List.mem_cons_self
    · exact List.mem_cons_of_mem _ (mem_lk h)
theorem pm_try {C x : Str} {b : List MS} {i : Option Nat} {h : HX} {sb hb : List Stmt} {n : Option Str} {np hp pos : Pos} (hx : x = C) (hg : glb c x = true) (hm : x ∈ Γ.excs) (h1 : PMs Γ k b c sb) (h2 : chkH c i h hb = true)
    (h3 : tgH c n i = true) (h4 : (!needsI h || Γ.frees.contains ("isinstance" : Str)) = true) (hxm : ∀ y b, ((y, C), b) ∈ Γ.exm → b = true → y ∈ Γ.excs) : PM Γ k (.tryR b C i h) c (.Try sb [.ExceptHandler (some (.Name x np)) n hb hp] [] [] pos) := by
  subst hx
  intro X Wx xs
  obtain ⟨g, hd, hn⟩ := glb_ok xs.xo hg
  obtain ⟨Ca, mC, _⟩ := xs.xo.g.ex x hm
  have hni : needsI h = true → X.mg "isinstance" = none := fun hz => xs.xo.g.fr _ (by
    rw [hz, Bool.not_true, Bool.false_or] at h4
    exact List.contains_iff_mem.mp h4)
  obtain ⟨b₀, suite, rfl, hs⟩ := suite_ok h2 hni xs
  have nm : Names X x (.ref Ca) := ⟨g, hd, .inl mC⟩
  have hi : ∀ y, h = .retn ∨ h = .retq y → i ≠ none := fun y hy z => by
    subst z
    unfold chkH at h2
    rcases hy with rfl | rfl <;> (split at h2 <;> first | (rename_i q; cases q; done) | (cases h2; done) | (simp at h2; done) | skip) <;> (rename_i q1 q2; cases q1)
  have hn : needsI h = true → i ≠ none := fun hy z => by
    subst z
    unfold chkH at h2
    cases h <;> first | (cases hy; done) | skip
    all_goals (split at h2 <;> first | (rename_i q; cases q; done) | (cases h2; done) | (simp at h2; done) | skip)
    all_goals (rename_i q1 q2; cases q1)
  have core : ∀ {W0 : Wd} {H0 : Hp} {Wb W : Wd} {H : Hp} {σ : L2.St} {ρ : Env} {E : PEnds} {D : Ends} {ex : Ex} {cls : Value} {d : Option Addr}, StOk X.K X.mg Wb W0 H0 W H σ ρ → EOk X Wx Wb W0 H0 E D → ExOk X.K X.mg W H cls d ex →
      exmW Γ ex.cls x (fun k => if k = true then hW h ex E.rt else E.X ex ρ) → ∃ bb, PySem.W.exmOne X.K cls (.ref Ca) = some bb ∧ (bb = true → hW h ex E.rt ∧ ∀ C : Addr, cls = .ref C → XfC X.K C ∧ PySem.W.findIn X.K (.ref C) "name" = some none ∧ IsOk X.K X.mg C) ∧ (bb = false → Wx cls d σ H) := by
    intro W0 H0 Wb W H σ ρ E D ex cls d st eo e q
    unfold exmW at q
    split at q
    · rename_i bb hl
      have mem := mem_lk hl
      obtain ⟨Cx, Cy, m1, m2, ho⟩ := xs.xo.g.xm _ _ _ mem
      obtain ⟨C0, m0, rfl, _⟩ := id e
      rw [m1] at m0; cases m0
      rw [mC] at m2; cases m2
      refine ⟨bb, ho, fun hb => ?_, fun hb => ?_⟩
      · subst hb
        rw [if_pos rfl] at q
        refine ⟨q, fun C hC => ?_⟩
        cases hC
        obtain ⟨Ca', mC', xf, noN, _, _, _, _, _, _, _, _, _, is⟩ := xs.xo.g.ex _ (hxm _ _ mem rfl)
        rw [m1] at mC'; cases mC'
        exact ⟨xf, noN, is⟩
      · subst hb
        rw [if_neg Bool.false_ne_true] at q
        exact eo.X ex W H _ d σ ρ st e q
    · exact q.elim
  cases n with
  | none =>
    cases i with
    | some _ => cases h3
    | none =>
      refine ⟨_, ps_try_only (tb := fun W => bS Γ X W b) xs.stk xs.frm nm xs.xo.tk (fun W pn xe tk po => pss_bS h1 xs tk po) hs, fun Wb W0 H0 W H σ ρ E D st hw eo => ?_⟩
      rw [WS] at hw
      refine bS_ok Wb W0 H0 W H σ ρ _ D st hw ⟨eo.nx, eo.rt, eo.bk, eo.ct, fun ex W' H' cls d σ' ρ' st' e ⟨hlen, q⟩ => ?_⟩
      obtain ⟨bb, ho, ht, hf⟩ := core st' eo e q
      exact ⟨bb, ho, fun hb a na => handler_ok st' eo.rt e (fun C h => ⟨((ht hb).2 C h).1, ((ht hb).2 C h).2.1⟩) (fun j z => by cases z) hi hn (fun C h => ((ht hb).2 C h).2.2) (ht hb).1, hf⟩
  | some y =>
    cases i with
    | none => cases h3
    | some j =>
      unfold tgH at h3
      dsimp only at h3
      rw [Bool.and_eq_true, decide_eq_true_eq] at h3
      have hl : X.env.kindOf y = some .local := by show X.env.scope.names.lookup y = _; rw [xs.xo.sc]; exact h3.2
      have hN : X.N[j]? = some y := by rw [xs.xo.N]; exact of_decide_eq_true h3.1
      refine ⟨_, ps_try_as (tb := fun W => bS Γ X W b) xs.stk xs.frm xs.xo.nd hN hl nm xs.xo.tk (fun W pn xe tk po => pss_bS h1 xs tk po) hs, fun Wb W0 H0 W H σ ρ E D st hw eo => ?_⟩
      rw [WS] at hw
      refine bS_ok Wb W0 H0 W H σ ρ _ D st hw ⟨eo.nx, eo.rt, eo.bk, eo.ct, fun ex W' H' cls d σ' ρ' st' e ⟨hlen, q⟩ => ?_⟩
      obtain ⟨bb, ho, ht, hf⟩ := core st' eo e q
      refine ⟨bb, ho, fun hb a na => handler_ok (D := { nx := fun σ' H' => D.nx (σ'.set j none) H', rt := D.rt, bk := fun σ' H' => D.bk (σ'.set j none) H', ct := fun σ' H' => D.ct (σ'.set j none) H' }) st' eo.rt e (fun C h => ⟨((ht hb).2 C h).1, ((ht hb).2 C h).2.1⟩) (fun j' z => ?_) hi hn (fun C h => ((ht hb).2 C h).2.2) (ht hb).1, hf⟩
      cases z
      exact List.getElem?_set_self (by rw [st'.e.len]; exact hlen)

/-! ### all of it -/
mutual
theorem soundS : ∀ (m : MS) (c : CC) (s : Stmt), chkS Γ m c s = true → PM Γ k m c s
  | .raise_ C e, c, s, h => by
    rw [chkS] at h
    dsimp only at h
    split at h
    · simp only [Bool.and_eq_true, beq_iff_eq, List.contains_iff_mem, Bool.not_eq_true'] at h
      obtain ⟨⟨⟨⟨h1, h2⟩, h3⟩, h4⟩, h5⟩ := h
      exact pm_raise h1 h2 h3 h4 ((sound e c _).1 h5)
    · cases h
  | .tryR b C i hx, c, s, h => by
    rw [chkS] at h
    dsimp only at h
    split at h
    · simp only [Bool.and_eq_true, beq_iff_eq, List.contains_iff_mem, List.all_eq_true] at h
      obtain ⟨⟨⟨⟨⟨⟨⟨h1, h2⟩, h3⟩, h4⟩, h5⟩, h6⟩, h7⟩, h8⟩ := h
      refine pm_try h1 h2 h3 (soundSs b c _ h5) h6 h7 h8 fun y bb hm hb => ?_
      have := h4 _ hm
      subst hb
      simp at this
      exact this
    · cases h
  | .frz _, c, s, h => by rw [chkS] at h; cases h
  | .set i e, c, s, h => by
    rw [chkS] at h
    dsimp only at h
    split at h
    · simp only [Bool.and_eq_true] at h
      exact pm_setAny h.1.1.1 h.1.1.2 h.1.2 h.2
    · cases h
  | .setT tg e, c, s, h => by
    rw [chkS] at h
    dsimp only at h
    split at h
    · simp only [Bool.and_eq_true, decide_eq_true_eq] at h
      exact pm_setT h.1.1.1 h.1.1.2 ((sound e c _).1 h.1.2) h.2
    · cases h
  | .par2 i j a b, c, s, h => by
    rw [chkS] at h
    dsimp only at h
    split at h
    · simp only [Bool.and_eq_true, decide_eq_true_eq, Bool.not_eq_true'] at h
      obtain ⟨⟨⟨⟨⟨⟨⟨⟨⟨h1, h2⟩, h3⟩, h4⟩, h5⟩, h6⟩, h7⟩, h8⟩, h9⟩, h10⟩ := h
      exact pm_par2 h1 h2 h3 h4 h5 h6 h7 ((sound a c _).1 h8) ((sound b c _).1 h9) h10
    · cases h
  | .par3 i j l a b d, c, s, h => by
    rw [chkS] at h
    dsimp only at h
    split at h
    · simp only [Bool.and_eq_true, decide_eq_true_eq, Bool.not_eq_true'] at h
      obtain ⟨⟨⟨⟨⟨⟨⟨⟨⟨⟨⟨⟨⟨⟨⟨h1, h2⟩, h3⟩, h4⟩, h5⟩, h6⟩, h7⟩, h8⟩, h9⟩, h10⟩, h11⟩, h12⟩, h13⟩, h14⟩, h15⟩, h16⟩ := h
      exact pm_par3 h1 h2 h3 h4 h5 h6 h7 h8 h9 h10 h11 h12 ((sound a c _).1 h13) ((sound b c _).1 h14) ((sound d c _).1 h15) h16
    · cases h
  | .aug i o e, c, s, h => by
    rw [chkS] at h
    dsimp only at h
    split at h
    · simp only [Bool.and_eq_true, decide_eq_true_eq] at h
      exact pm_aug h.1.1.1 h.1.1.2 h.1.2 (pam_chk ((sound e c _).1 h.2) h.2)
    · cases h
  | .expr e, c, s, h => by
    rw [chkS] at h
    dsimp only at h
    split at h
    · simp only [Bool.and_eq_true, Bool.not_eq_true'] at h
      exact pm_expr h.1 ((sound e c _).1 h.2)
    · cases h
  | .ret e, c, s, h => by
    rw [chkS] at h
    dsimp only at h
    split at h
    · exact pm_ret ((sound e c _).1 h)
    · cases h
  | .retv i, c, s, h => by
    rw [chkS] at h
    dsimp only at h
    split at h
    · exact pm_retv h
    · cases h
  | .retN, c, s, h => by
    rw [chkS] at h
    dsimp only at h
    split at h
    · exact pm_retN
    · cases h
  | .if_ t a b, c, s, h => by
    rw [chkS] at h
    dsimp only at h
    split at h
    · simp only [Bool.and_eq_true] at h
      exact pm_if ((sound t c _).2 h.1.1).t (soundSs a c _ h.1.2) (soundSs b c _ h.2)
    · cases h
  | .for_ tg ik its b, c, s, h => by
    rw [chkS] at h
    dsimp only at h
    split at h
    · simp only [Bool.and_eq_true, Bool.not_eq_true'] at h
      obtain ⟨⟨⟨⟨h1, h2⟩, h3⟩, h4⟩, h5⟩ := h
      split at h2
      · rename_i as has
        exact pm_for h1 (pim_of has (soundL its c _ h2) h4 h3) h3 (soundSs b c _ h5)
      · cases h2
    · cases h
  | .while_ t b, c, s, h => by
    rw [chkS] at h
    dsimp only at h
    split at h
    · simp only [Bool.and_eq_true] at h
      exact pm_while ((sound t c _).2 h.1).t (soundSs b c _ h.2)
    · cases h
  | .brk, c, s, h => by
    rw [chkS] at h
    dsimp only at h
    split at h
    · exact pm_brk
    · cases h
  | .cont, c, s, h => by
    rw [chkS] at h
    dsimp only at h
    split at h
    · exact pm_cont
    · cases h
  | .pass, c, s, h => by
    rw [chkS] at h
    dsimp only at h
    split at h
    · exact pm_pass
    · cases h
  | .doc, c, s, h => by
    rw [chkS] at h
    dsimp only at h
    split at h
    · exact pm_doc
    · cases h
  | .append i e, c, s, h => by
    rw [chkS] at h
    dsimp only at h
    split at h
    · split at h
      · rename_i hm
        simp only [Bool.and_eq_true, Bool.not_eq_true'] at h
        exact pm_append hm h.1.1 h.1.2 ((sound e c _).1 h.2)
      · cases h
    · cases h
  | .extend i e, c, s, h => by
    rw [chkS] at h
    dsimp only at h
    split at h
    · split at h
      · rename_i hm
        simp only [Bool.and_eq_true, Bool.not_eq_true'] at h
        exact pm_extend hm h.1.1 h.1.2 (pam_chk ((sound e c _).1 h.2) h.2)
      · cases h
    · cases h
  | .popx i, c, s, h => by
    rw [chkS] at h
    dsimp only at h
    split at h
    · split at h
      · rename_i hm
        exact pm_popx hm h
      · cases h
    · cases h
  | .setix i ix e, c, s, h => by
    rw [chkS] at h
    dsimp only at h
    split at h
    · simp only [Bool.and_eq_true, Bool.not_eq_true'] at h
      exact pm_setix h.1.1.1 h.1.1.2 (pam_chk ((sound ix c _).1 h.1.2) h.1.2) ((sound e c _).1 h.2)
    · cases h
  | .setd i ix e, c, s, h => by
    rw [chkS] at h
    dsimp only at h
    split at h
    · simp only [Bool.and_eq_true, Bool.not_eq_true'] at h
      exact pm_setd h.1.1.1 h.1.1.2 (pam_chk ((sound ix c _).1 h.1.2) h.1.2) ((sound e c _).1 h.2)
    · cases h
  | .insert i es, c, s, h => by
    rw [chkS] at h
    dsimp only at h
    split at h
    · split at h
      · rename_i hm
        simp only [Bool.and_eq_true, Bool.not_eq_true', decide_eq_true_eq] at h
        exact pm_insert hm h.1.1.1 (isEmpty_ne h.1.1.2) h.1.2 (chkL_stars h.2) (soundL es c _ h.2).pls
      · cases h
    · cases h
  | .rvs i, c, s, h => by
    rw [chkS] at h
    dsimp only at h
    split at h
    · split at h
      · rename_i hm
        exact pm_rvs hm h
      · cases h
    · cases h
  | .popset tg i n, c, s, h => by
    rw [chkS] at h
    dsimp only at h
    split at h
    · split at h
      · rename_i hm
        rw [Bool.and_eq_true, Bool.and_eq_true, Bool.and_eq_true, Bool.and_eq_true] at h
        exact pm_popset hm h.1.1.1.1 h.1.1.1.2 h.1.1.2
      · cases h
    · cases h
  | .augix i o ix e, c, s, h => by
    rw [chkS] at h
    dsimp only at h
    split at h
    · simp only [Bool.and_eq_true, Bool.not_eq_true', decide_eq_true_eq] at h
      obtain ⟨⟨⟨⟨h1, h2⟩, h3⟩, h4⟩, h5⟩ := h
      exact pm_augix h1 h2 h3 (pam_chk ((sound ix c _).1 h4) h4) (pam_chk ((sound e c _).1 h5) h5)
    · cases h
theorem soundSs : ∀ (ms : List MS) (c : CC) (ss : List Stmt), chkSs Γ ms c ss = true → PMs Γ k ms c ss
  | [], c, ss, h => by
    rw [chkSs] at h
    cases ss with
    | nil => exact pm_nil
    | cons _ _ => cases h
  | m :: ms, c, ss, h => by
    rw [chkSs] at h
    split at h
    · exact pm_frz (soundSs ms c ss h)
    · dsimp only at h
      cases ss with
      | nil => cases h
      | cons s ss' =>
        have h : (chkS Γ m c s && chkSs Γ ms c ss') = true := h
        rw [Bool.and_eq_true] at h
        exact pm_cons (soundS m c s h.1) (soundSs ms c ss' h.2)
end
end
end PL

namespace PL
open PySem PySem.Spec PyProof.Rows L2
/-! ## a def -/
def mkEnv (n : Nat) (ds : List D) : Env := (ds.map fun d => some (.val d)) ++ List.replicate (n - ds.length) none
def fnEnds (Q : QS) (X : QX) : PEnds := ⟨fun _ => Q (.val .non), Q, fun _ => False, fun _ => False, fun ex _ => X ex⟩
theorem env_start {K : PySem.W.Frag} {mg : Str → Option Value} {W : Wd} {H : Hp} {vs : List V} {ds : List D} (N : List Str) (t : DenAll K mg W vs ds) : EnvOk K mg W H (start N vs) (mkEnv N.length ds) := by
  have hl := t.length
  have get : ∀ (i : Nat) (s : Sl), (mkEnv N.length ds)[i]? = some (some s) → ∃ d, s = .val d ∧ ds[i]? = some d := fun i s e => by
    unfold mkEnv at e
    by_cases hi : i < ds.length
    · rw [List.getElem?_append_left (by rw [List.length_map]; exact hi), List.getElem?_map, List.getElem?_eq_getElem hi] at e
      cases e
      exact ⟨_, rfl, List.getElem?_eq_getElem hi⟩
    · rw [List.getElem?_append_right (by rw [List.length_map]; omega), List.getElem?_replicate] at e
      split at e <;> cases e
  refine ⟨fun i s e => ?_, fun i j s t a hij e1 o1 e2 o2 f1 f2 => ?_, ?_⟩
  · obtain ⟨d, rfl, hd⟩ := get i s e
    obtain ⟨v, hv, dv⟩ := t.get hd
    refine ⟨v, ?_, dv⟩
    unfold L2.start
    have hi : i < vs.length := (List.getElem?_eq_some_iff.mp hv).1
    rw [List.getElem?_append_left (by rw [List.length_map]; exact hi), List.getElem?_map, hv]
    rfl
  · obtain ⟨d, rfl, _⟩ := get i s e1
    cases o1
  · unfold L2.start mkEnv
    simp only [List.length_append, List.length_map, List.length_replicate, hl]
theorem own_start {n : Nat} {ds : List D} {σ : L2.St} {P : Addr → Prop} : OwnP σ (mkEnv n ds) P := fun i s a e o _ => by
  unfold mkEnv at e
  by_cases hi : i < ds.length
  · rw [List.getElem?_append_left (by rw [List.length_map]; exact hi), List.getElem?_map, List.getElem?_eq_getElem hi] at e
    cases e
    cases o
  · rw [List.getElem?_append_right (by rw [List.length_map]; omega), List.getElem?_replicate] at e
    split at e <;> cases e
/-- the scope's names fit the slots -/
def okSc (N ps : List Str) (sc : Scope) : Bool := kindFn ⟨N, sc, true, fun _ => true⟩ && !sc.isCoroutine && !sc.isGenerator && decide N.Nodup && decide (N.take ps.length = ps) &&
  ps.all (fun x => tgN ⟨N, sc, true, fun _ => true⟩ x) && sc.names.all fun y => decide (y.2 ≠ .free)
theorem okSc_by {N ps : List Str} {sc : Scope} (h : okSc N ps sc = true) : FnScope N ps sc := by
  unfold okSc at h
  simp only [Bool.and_eq_true, List.all_eq_true, decide_eq_true_eq, Bool.not_eq_true'] at h
  obtain ⟨⟨⟨⟨⟨⟨h1, h2⟩, h3⟩, h4⟩, h5⟩, h6⟩, h7⟩ := h
  refine ⟨?_, h2, h3, h4, h5, fun x hx => ?_, h7⟩
  · unfold kindFn at h1
    split at h1
    · assumption
    · cases h1
  · have q := h6 x hx
    unfold tgN at q
    simp only [Bool.or_eq_true, Bool.and_eq_true, decide_eq_true_eq] at q
    rcases q with q | q
    · exact .inl q
    · exact .inr q.1
abbrev fnC (N : List Str) (scope : Scope) : CC := ⟨N, scope, true, fun _ => true⟩
theorem fn_ok {Γ : Tab} {P : Program} {w : World} {K : PySem.W.Frag} {mg : Str → Option Value} {base : Heap} {x qual : Str} {params : Arguments} {body : List Stmt} {scope : Scope} {dvs : List V} {kws : List (Str × V)} {f : Addr} {fd : FuncData}
    {N ps : List Str} {k : Nat} {sp : FSp} {ms : List MS} (F : FunD K x qual params body scope dvs kws f fd) (g : GOk Γ P w K mg base k) (S : okSc N ps scope = true) (hc : chkSs Γ ms (fnC N scope) body = true)
    (hp : ∀ ds Q X, sp ds Q X → ds.length = ps.length ∧ WSs Γ ms (mkEnv N.length ds) (fnEnds Q X)) (hgd : ¬ ("repr" : Str) ∈ Γ.frees := by decide +kernel) : FnOk P w K mg base (L2.CX P w) (k + 1) f fd ps (liftD K mg sp) := by
  have S' := okSc_by S
  refine F.ok S' (fun vs H Q E h => ?_) (fun cdv A outer s H vs Q E hr h => ?_)
  · obtain ⟨W, ds, Qp, Xp, ok, t, h, _⟩ := h
    rw [t.length]
    exact (hp ds Qp Xp h).1
  · have xs : XS Γ k (fnC N scope) (cxOf (L2.CX P w) P w K mg base N qual scope f cdv A outer s H E) (fun cls d _ H => E cls d H) := {
      xo := { N := rfl, nd := S'.nd, sc := rfl, calm := fun _ => rfl, tk := takes_of rfl rfl rfl rfl, rm := hr, g := g, fn := fun _ _ => rfl, gd := fun z => absurd z hgd }
      cal := rfl
      po := passes_of rfl
      kd := S'.kind
      stk := rfl
      frm := rfl }
    obtain ⟨t, pt, ht⟩ := soundSs ms _ body hc _ _ xs
    obtain ⟨W, ds, Qp, Xp, ok, dn, h, q, qx⟩ := h
    refine ⟨t, pt, ht W W H W H _ _ _ _ ⟨ok, .refl _ _, env_start N dn, own_start, .refl _⟩ (hp ds Qp Xp h).2 ⟨fun W' H' σ ρ st hq => ?_, fun v H' o => q v H' o, fun _ _ _ _ _ z => z.elim, fun _ _ _ _ _ z => z.elim, fun ex W' H' cls d σ ρ st e hx => qx ex W' H' cls d st.ok st.g e hx⟩⟩
    exact q .non H' ((Out.now st.ok .non hq).after st.ok st.g)
end PL

namespace PL
open PySem PySem.Spec PyProof.Rows L2
/-! ## guarded things: a law's source of numbers -/
def stGd (s c : Addr) (h : s ≠ c) : Gd where
  kind := 0
  root := s
  fp := [s, c]
  inv := fun _ H => StInv s c H
  loc := fun F H H' e ⟨cs, seed, h1, h2, h3⟩ => ⟨cs, seed, by rw [e s (by simp)]; exact h1, by rw [e c (by simp)]; exact h2, h3⟩
  mono := fun _ _ _ _ h => h
  there := fun F H ⟨cs, seed, h1, h2, h3⟩ a ha => by
    have : a = s ∨ a = c := by simpa using ha
    rcases this with rfl | rfl
    · rw [h1]; intro z; cases z
    · rw [h2]; intro z; cases z
  wf := .inl ⟨rfl, c, h, rfl, fun _ _ => Iff.rfl⟩
def rwGd (r : Addr) : Gd where
  kind := 1
  root := r
  fp := [r]
  inv := fun _ H => RwInv r H
  loc := fun F H H' e ⟨n, xs, h1, h3⟩ => ⟨n, xs, by rw [e r (by simp)]; exact h1, h3⟩
  mono := fun _ _ _ _ h => h
  there := fun F H ⟨n, xs, h1, h3⟩ a ha => by
    have : a = r := by simpa using ha
    subst this
    rw [h1]; intro z; cases z
  wf := .inr ⟨rfl, rfl, fun _ _ => Iff.rfl⟩
section
variable {K : PySem.W.Frag} {mg : Str → Option Value} {W : Wd} {H H' : Hp}
/-- a new guarded thing at places that are new and free -/
theorem Wd.Ok.guard {W' : Wd} {H' : Hp} (ok : W'.Ok H') {G : Gd} (hi : G.inv W'.fz H') (hf : ∀ a ∈ G.fp, W'.free a) : (Wd.mk W'.fz (W'.gs ++ [G])).Ok H' where
  sub := ok.sub
  inv := fun g hg => by
    rcases List.mem_append.mp hg with z | z
    · exact ok.inv g z
    · have : g = G := by simpa using z
      subst this
      exact hi
  dj := fun g hg a ha => by
    rcases List.mem_append.mp hg with z | z
    · exact ok.dj g z a ha
    · have : g = G := by simpa using z
      subst this
      exact (hf a ha).1
  pw := by
    show (W'.gs ++ [G]).Pairwise _
    rw [List.pairwise_append]
    refine ⟨ok.pw, by simp, fun g hg g' hg' a ha hb => ?_⟩
    have : g' = G := by simpa using hg'
    subst this
    exact (hf a hb).2 g hg ha
theorem Grow.guard {W W' : Wd} {H H' : Hp} (g : Grow W H W' H') {G : Gd} (hn : ∀ a ∈ G.fp, H a = none) : Grow W H ⟨W'.fz, W'.gs ++ [G]⟩ H' where
  le := g.le.trans ⟨Same.refl _, [G], rfl⟩
  same := g.same
  newf := g.newf
  newg := fun g' hg' a ha => by
    have e : (W'.gs ++ [G]).drop W.gs.length = W'.gs.drop W.gs.length ++ [G] := by
      rw [List.drop_append_of_le_length]
      obtain ⟨m, e⟩ := g.le.gs
      rw [e, List.length_append]
      exact Nat.le_add_right _ _
    have hg' : g' ∈ (W'.gs ++ [G]).drop W.gs.length := hg'
    rw [e] at hg'
    rcases List.mem_append.mp hg' with z | z
    · exact g.newg g' z a ha
    · have : g' = G := by simpa using z
      subst this
      exact hn a ha
theorem den_guard {W' : Wd} {G : Gd} : Den K mg ⟨W'.fz, W'.gs ++ [G]⟩ (.ref G.root) (.g W'.gs.length G.kind) := .g (by
  show (W'.gs ++ [G])[W'.gs.length]? = some G
  rw [List.getElem?_append_right (Nat.le_refl _), Nat.sub_self]
  rfl) rfl
/-- all but what G guards stays; G is kept: nothing of it shows outside -/
theorem Out.kept {Q : QS} {v : V} {d : D} {i : Nat} {G : Gd} (ok : W.Ok H) (hG : W.gs[i]? = some G) (fr : ∀ a o, H a = some o → a ∉ G.fp → H' a = some o) (hi : G.inv W.fz H') (hv : Den K mg W v d) (q : Q (.val d)) : Out K mg W H Q v H' := by
  have hm : G ∈ W.gs := List.mem_of_getElem? hG
  refine ⟨W, .val d, ⟨fun a o e => fr a o (ok.sub a o e) fun ha => ?_, fun g hg => ?_, ok.dj, ok.pw⟩, ⟨.refl _, fun a o e hn => fr a o e (hn G hm), fun _ h k => absurd k h, fun g hg => by simp at hg⟩, hv, (fun z => by cases z), q⟩
  · rw [ok.dj G hm a ha] at e; cases e
  · obtain ⟨j, hj⟩ := List.mem_iff_getElem?.mp hg
    by_cases hij : j = i
    · subst hij
      rw [hG] at hj
      cases hj
      exact hi
    · refine g.loc _ _ _ (fun a ha => ?_) (ok.inv g hg)
      have nf : a ∉ G.fp := by
        obtain ⟨hi', ei⟩ := List.getElem?_eq_some_iff.mp hG
        obtain ⟨hj', ej⟩ := List.getElem?_eq_some_iff.mp hj
        have pw := List.pairwise_iff_getElem.mp ok.pw
        rcases Nat.lt_or_gt_of_ne hij with h | h
        · intro hb
          have := pw j i hj' hi' h a (by rw [ej]; exact ha)
          rw [ei] at this
          exact this hb
        · intro hb
          have := pw i j hi' hj' h a (by rw [ei]; exact hb)
          rw [ej] at this
          exact this ha
      cases z : H a with
      | none => exact absurd z (g.there _ _ (ok.inv g hg) a ha)
      | some o => exact fr a o z nf
end
end PL

namespace PL
open PySem PySem.Spec PyProof.Rows L2
/-! ## _law_draw -/
def tabD : Tab := ⟨fun _ => none, ["len", "int"], [], [], [], []⟩
def dC1 : ME := .bin .gt (.cal .len [.var 2]) (.cst (.int 0))
def dC2 : ME := .andt dC1 (.bin .eq (.bin .idx (.var 2) (.cst (.int 0))) (.cst (.int 0)))
def dE3 : ME := .bin .idx (.var 2) (.cst (.int 0))
def dE6 : ME := .bin .fdiv (.var 3) (.var 1)
def dE7 : ME := .bin .mod (.cal .int [.var 3]) (.var 1)
def dE12 : ME := .bin .mod (.cal .int [.bin .fdiv (.var 4) (.cst (.int 64))]) (.var 1)
def isK (i : Int) : Expr → Bool
  | .Constant (.int j) _ _ => decide (j = i)
  | _ => false
/-- e[i] of a name -/
def isIx (c : CC) (v : Nat) (i : Int) : Expr → Bool
  | .Subscript o k _ => varIs c v o && isK i k
  | _ => false
def isMix (c : CC) : Expr → Bool
  | .BinOp (.Call (.Name f _) [.BinOp (.BinOp a .Mult b _) .Add d _] [] _) .Mod g _ => f == ("int" : Str) && glb c f && isIx c 0 1 a && isK 48271 b && isK 12345 d && isK 2147483647 g
  | _ => false
def chkDraw (c : CC) : List Stmt → Bool
  | [.Assign [.Name xc _] e1 _, .While ec [.Expr ep _] [] _, .If ei [.Assign [.Name xv _] e3 _, .Assign [.Subscript e4 e5 _] e6 _, .Return (some e7) _] [] _, .Assign [.Name xx _] e8 _, .Assign [.Subscript e9 e10 _] e11 _, .Return (some e12) _] =>
    kindFn c && nmIs c 2 xc && tgN c xc && isIx c 0 0 e1 && chkE tabD dC2 true c ec && (match meth ep "pop" with
      | some (o, [k]) => varIs c 2 o && isK 0 k
      | _ => false) && chkE tabD dC1 true c ei && nmIs c 3 xv && tgN c xv && chkE tabD dE3 false c e3 && varIs c 2 e4 && isK 0 e5 && chkE tabD dE6 false c e6 && chkE tabD dE7 false c e7 &&
    nmIs c 4 xx && tgN c xx && isMix c e8 && varIs c 0 e9 && isK 1 e10 && varIs c 4 e11 && chkE tabD dE12 false c e12
  | _ => false
section
variable {Γ : Tab} {k : Nat} {c : CC} {X : Cx} {Wx : WX}
theorem k_ok {i : Int} {e : Expr} (h : isK i e = true) : PE X e (tC (.int i)) := by
  unfold isK at h
  split at h
  · rw [of_decide_eq_true h]; exact pe_int
  · cases h
theorem k_slice {i : Int} {e : Expr} (h : isK i e = true) : isSlice e = false := by
  cases e <;> first | rfl | cases h
theorem k_star {i : Int} {e : Expr} (h : isK i e = true) : star e = false := by
  cases e <;> first | rfl | cases h
theorem k_comp {i : Int} {e : Expr} (h : isK i e = true) : isComp e = false := by
  cases e <;> first | rfl | cases h
theorem ix_ok {v : Nat} {i : Int} {e : Expr} (h : isIx c v i e = true) (xo : XOk Γ k c X Wx) : PE X e (tOp (rIxL X.K) (tVar v) (tC (.int i))) := by
  unfold isIx at h
  split at h
  · rw [Bool.and_eq_true] at h
    exact pe_ix ix_list (var_ok h.1 xo) (k_ok h.2) (plain_ix (k_slice h.2))
  · cases h
theorem ix_comp {v : Nat} {i : Int} {e : Expr} (h : isIx c v i e = true) : isComp e = false := by
  cases e <;> first | rfl | cases h
/-- the state of the walk -/
structure DS (W1 : Wd) (H0 : Hp) (s r : Addr) (H : Hp) (cs : List Int) (seed : Int) : Prop where
  ok : W1.Ok H
  fr : ∀ a o, H0 a = some o → a ≠ s → a ≠ r → H a = some o
  hs : H s = some (.lst [.ref r, .int seed])
  hr : H r = some (.lst (cs.map V.int))
theorem DS.grow {W1 W' : Wd} {H0 : Hp} {s r : Addr} {H H' : Hp} {cs : List Int} {seed : Int} (h : DS W1 H0 s r H cs seed) (hg : W1.gs = []) (g : Grow W1 H W' H') : DS W1 H0 s r H' cs seed := by
  have sm : Same H H' := fun a o e => g.same a o e fun x hx => by rw [hg] at hx; cases hx
  refine ⟨⟨h.ok.sub.trans sm, (fun x hx => by rw [hg] at hx; cases hx), (fun x hx => by rw [hg] at hx; cases hx), by rw [hg]; exact .nil⟩, fun a o e n1 n2 => sm _ _ (h.fr a o e n1 n2), sm _ _ h.hs, sm _ _ h.hr⟩
theorem ds_env {K : PySem.W.Frag} {mg : Str → Option Value} {W1 : Wd} {H0 : Hp} {s r : Addr} {H : Hp} {cs : List Int} {seed m : Int} {v3 v4 : Option V} {r3 r4 : Option Sl} (h : DS W1 H0 s r H cs seed) (fr : W1.free r)
    (h3 : ∀ t, r3 = some t → ∃ i, t = .val (.int i) ∧ v3 = some (.int i)) (h4 : ∀ t, r4 = some t → ∃ i, t = .val (.int i) ∧ v4 = some (.int i)) :
    EnvOk K mg W1 H [some (.ref s), some (.int m), some (.ref r), v3, v4] [none, some (.val (.int m)), some (.own (cs.map D.int)), r3, r4] := by
  refine ⟨fun i t e => ?_, fun i j t u a hij e1 o1 e2 o2 f1 f2 => ?_, rfl⟩
  · match i, e with
    | 0, e => cases e
    | 1, e => cases e; exact ⟨_, rfl, .int m⟩
    | 2, e => cases e; exact ⟨_, rfl, r, _, rfl, h.hr, fr, DenAll.ints cs⟩
    | 3, e =>
      have e : r3 = some t := by simpa using e
      obtain ⟨i, rfl, rfl⟩ := h3 t e
      exact ⟨_, rfl, .int i⟩
    | 4, e =>
      have e : r4 = some t := by simpa using e
      obtain ⟨i, rfl, rfl⟩ := h4 t e
      exact ⟨_, rfl, .int i⟩
    | n + 5, e => simp at e
  · have one : ∀ (n : Nat) (t : Sl), ([none, some (.val (.int m)), some (.own (cs.map D.int)), r3, r4] : Env)[n]? = some (some t) → t.isOwn = true → n = 2 := fun n t e o => by
      match n, e with
      | 0, e => cases e
      | 1, e => cases e; cases o
      | 2, e => rfl
      | 3, e =>
        have e : r3 = some t := by simpa using e
        obtain ⟨i, rfl, _⟩ := h3 t e
        cases o
      | 4, e =>
        have e : r4 = some t := by simpa using e
        obtain ⟨i, rfl, _⟩ := h4 t e
        cases o
      | n + 5, e => simp at e
    exact hij ((one i t e1 o1).trans (one j u e2 o2).symm)
theorem pl_int {i : Int} : pl (.int i) = true := by
  unfold pl
  rw [D.py]
  simp [SeqAt.shaped, PyData.canLay0, PyData.depth]
theorem eqW_int {i j : Int} {Q : QS} (h : Q (.val (.bl (i == j)))) : eqW (.int i) (.int j) Q := .inl ⟨⟨pl_int, pl_int⟩, by rw [eqD]; exact h⟩
theorem wt_c1 {ρ : Env} {xs : List D} {Q : Bool → Prop} {QX : QX} (e : ρ[2]? = some (some (.own xs))) (h : Q (decide ((0 : Int) < (xs.length : Int)))) : WT tabD dC1 ρ Q QX := by
  simp only [WT, argK, dC1, WE, WAs, e, biW, lenW, opW, gtW, truW, Sl.d, csD]
  exact h
theorem atI0 {α : Type} {xs : List α} {x : α} (hx : xs[0]? = some x) : atI xs 0 = some x := by
  have hl : 0 < xs.length := (List.getElem?_eq_some_iff.mp hx).1
  unfold atI ixN
  rw [if_pos (Int.le_refl 0), if_pos (by omega)]
  exact hx
theorem we_ix {ρ : Env} {xs : List D} {x : D} {Q : QS} {QX : QX} (e : ρ[2]? = some (some (.own xs))) (hx : xs[0]? = some x) (h : Q (.val x)) : WE tabD dE3 ρ Q QX := by
  simp only [argK, dE3, WE, e, opW, idxW, Sl.d, csD, atI0 hx, optW]
  exact h
theorem wt_c2 {ρ : Env} {xs : List Int} {Q : Bool → Prop} {QX : QX} (e : ρ[2]? = some (some (.own (xs.map D.int)))) (h0 : xs = [] → Q false) (h : ∀ x r, xs = x :: r → Q (x == 0)) : WT tabD dC2 ρ Q QX := by
  have k := wt_c1 (Q := fun k => if k = true then argK (WE tabD (.bin .eq dE3 (.cst (.int 0)))) (.bin .eq dE3 (.cst (.int 0))) ρ (fun y => truW y Q) QX else Q false) (QX := QX) e ?_
  · simp only [WT, argK, dC2, WE] at k ⊢
    exact k
  · cases xs with
    | nil => exact h0 rfl
    | cons x r =>
      have : decide ((0 : Int) < (((x :: r).map D.int).length : Int)) = true := decide_eq_true (by simp only [List.map_cons, List.length_cons]; omega)
      rw [this, if_pos rfl]
      simp only [argK, WE, dE3, e, opW, idxW, Sl.d, csD, atI0 (xs := (x :: r).map D.int) (x := .int x) rfl, optW]
      exact eqW_int (h x r rfl)
theorem we_e6 {ρ : Env} {v m : Int} {Q : QS} {QX : QX} (e3 : ρ[3]? = some (some (.val (.int v)))) (e1 : ρ[1]? = some (some (.val (.int m)))) (hm : 0 < m ∧ Sm m) (h : Q (.val (.int (v / m)))) : WE tabD dE6 ρ Q QX := by
  simp only [argK, dE6, WE, e3, e1, opW, fdivW, Sl.d]
  exact ⟨hm, h⟩
theorem we_e7 {ρ : Env} {v m : Int} {Q : QS} {QX : QX} (e3 : ρ[3]? = some (some (.val (.int v)))) (e1 : ρ[1]? = some (some (.val (.int m)))) (hm : 0 < m) (h : Q (.val (.int (v % m)))) : WE tabD dE7 ρ Q QX := by
  simp only [argK, dE7, WE, WAs, e3, e1, opW, biW, intW, modW, Sl.d]
  exact ⟨hm, h⟩
theorem we_e12 {ρ : Env} {v m : Int} {Q : QS} {QX : QX} (e3 : ρ[4]? = some (some (.val (.int v)))) (e1 : ρ[1]? = some (some (.val (.int m)))) (hm : 0 < m) (h : Q (.val (.int (v / 64 % m)))) : WE tabD dE12 ρ Q QX := by
  simp only [argK, dE12, WE, WAs, e3, e1, opW, biW, intW, modW, fdivW, Sl.d, csD]
  exact ⟨⟨by decide, Sm.of (by decide) (by decide)⟩, hm, h⟩

/-- a number below many -/
def spDraw : FSp := fun ds Q _ => ∃ i m, ds = [.g i 0, .int m] ∧ 0 < m ∧ Sm m ∧ ∀ x, 0 ≤ x → x < m → Q (.val (.int x))
theorem loc_of {i : Nat} {x : Str} (xs : XS Γ k c X Wx) (h1 : nmIs c i x = true) (h2 : tgN c x = true) : X.N[i]? = some x ∧ L2.Loc X.env.scope x ∧ (X.fn x = true ∨ X.env.scope.names.lookup x = some .local) :=
  ⟨by rw [xs.xo.N]; exact of_decide_eq_true h1, (loc_ok xs.xo h2).1, (loc_ok xs.xo h2).2⟩
theorem mix_ok {e : Expr} (h : isMix c e = true) (xo : XOk tabD k c X Wx) : isComp e = false ∧ PE X e (tOp (R2D X modW) (tCB (RnD X intW) (tCons (tOp (R2D X addW) (tOp (R2D X mulW) (tOp (rIxL X.K) (tVar 0) (tC (.int 1))) (tC (.int 48271))) (tC (.int 12345))) tNil)) (tC (.int 2147483647))) := by
  unfold isMix at h
  split at h
  · simp only [Bool.and_eq_true, beq_iff_eq] at h
    obtain ⟨⟨⟨⟨⟨rfl, h2⟩, h3⟩, h4⟩, h5⟩, h6⟩ := h
    refine ⟨rfl, ?_⟩
    obtain ⟨g, hd, hn⟩ := glb_ok xo h2
    have st : ∀ {a b : Expr} {o : Operator} {p : Pos}, star (.BinOp a o b p) = false := rfl
    exact pe_op o_mod (pe_callTy c_int g (xo.g.fr _ (by decide)) (by decide +kernel) (pa_cons (pe_op o_add (pe_op o_mul (ix_ok (Γ := tabD) h3 xo) (k_ok h4)) (k_ok h5)) pa_nil (starE rfl _)) hn hd (starE rfl _) rfl) (k_ok h6)
  · cases h
end
theorem DS.putr {W1 : Wd} {H0 : Hp} {s r : Addr} {H : Hp} {cs cs' : List Int} {seed : Int} (h : DS W1 H0 s r H cs seed) (hne : s ≠ r) (fr : W1.free r) : DS W1 H0 s r (upd H r (.lst (cs'.map V.int))) cs' seed :=
  ⟨h.ok.put fr, fun a o e n1 n2 => by rw [upd_ne n2]; exact h.fr a o e n1 n2, by rw [upd_ne hne]; exact h.hs, upd_same⟩
theorem DS.puts {W1 : Wd} {H0 : Hp} {s r : Addr} {H : Hp} {cs : List Int} {seed seed' : Int} (h : DS W1 H0 s r H cs seed) (hne : s ≠ r) (fs : W1.free s) : DS W1 H0 s r (upd H s (.lst [.ref r, .int seed'])) cs seed' :=
  ⟨h.ok.put fs, fun a o e n1 n2 => by rw [upd_ne n1]; exact h.fr a o e n1 n2, upd_same, by rw [upd_ne (Ne.symm hne)]; exact h.hr⟩
theorem Out.intD {K : PySem.W.Frag} {mg : Str → Option Value} {W1 : Wd} {H0 : Hp} {s r : Addr} {H H' : Hp} {cs : List Int} {seed n : Int} {v : V} (h : DS W1 H0 s r H cs seed) (hg : W1.gs = []) (o : Out K mg W1 H (fun t => t = .val (.int n)) v H') : v = .int n ∧ DS W1 H0 s r H' cs seed := by
  obtain ⟨W', t, ok', g', s', _, rfl⟩ := o
  cases (show Den K mg W' v (.int n) from s')
  exact ⟨rfl, h.grow hg g'⟩
theorem ixN0 {n : Nat} (h : 0 < n) : ixN n 0 = some 0 := by
  unfold ixN
  rw [if_pos (Int.le_refl 0), if_pos (by omega)]
  rfl
theorem r2_int {fw : D → D → QS → Prop} {W1 : Wd} {H0 : Hp} {s r : Addr} {H : Hp} {cs : List Int} {seed i j n : Int} {Q : VK} (h : DS W1 H0 s r H cs seed) (hg : W1.gs = []) (hf : fw (.int i) (.int j) (fun t => t = .val (.int n))) (q : ∀ H', DS W1 H0 s r H' cs seed → Q (.int n) H') : R2D X fw (.int i) (.int j) H Q :=
  ⟨W1, .int i, .int j, _, h.ok, .of (.int i), .of (.int j), hf, fun v H' o => by
    obtain ⟨rfl, h'⟩ := o.intD h hg
    exact q H' h'⟩
section
variable {P : Program} {w : World} {K : PySem.W.Frag} {mg : Str → Option Value} {base : Heap}
theorem draw_ok {x qual : Str} {params : Arguments} {body : List Stmt} {scope : Scope} {dvs : List V} {kws : List (Str × V)} {f : Addr} {fd : FuncData} {N ps : List Str} {k : Nat} (F : FunD K x qual params body scope dvs kws f fd) (g : GOk tabD P w K mg base k)
    (S : okSc N ps scope = true) (hN : N.length = 5) (hps : ps.length = 2) (hc : chkDraw (fnC N scope) body = true) : FnOk P w K mg base (L2.CX P w) (k + 1) f fd ps (liftD K mg spDraw) := by
  have S' := okSc_by S
  refine F.ok S' (fun vs H Q E h => ?_) (fun cdv A outer s H vs Q E hr h => ?_)
  · obtain ⟨W, ds, Qp, Xp, ok, t, ⟨i, m, rfl, _⟩, _⟩ := h
    rw [t.length, hps]
    rfl
  have xs : XS tabD k (fnC N scope) (cxOf (L2.CX P w) P w K mg base N qual scope f cdv A outer s H E) (fun cls d _ H => E cls d H) := {
    xo := { N := rfl, nd := S'.nd, sc := rfl, calm := fun _ => rfl, tk := takes_of rfl rfl rfl rfl, rm := hr, g := g, fn := fun _ _ => rfl, gd := fun z => absurd z (by decide +kernel) }
    cal := rfl
    po := passes_of rfl
    kd := S'.kind
    stk := rfl
    frm := rfl }
  have xo := xs.xo
  generalize hX : cxOf (L2.CX P w) P w K mg base N qual scope f cdv A outer s H E = X at xs xo
  have eK : X.K = K := by rw [← hX]; rfl
  have eM : X.mg = mg := by rw [← hX]; rfl
  unfold chkDraw at hc
  split at hc
  case h_2 => cases hc
  rename_i xc p1 e1 p2 ec ep p3 p4 ei xv p5 e3 p6 e4 e5 p7 e6 p8 e7 p9 p10 xx p11 e8 p12 e9 e10 p13 e11 p14 e12 p15
  simp only [Bool.and_eq_true] at hc
  obtain ⟨⟨⟨⟨⟨⟨⟨⟨⟨⟨⟨⟨⟨⟨⟨⟨⟨⟨⟨⟨c0, c1⟩, c2⟩, c3⟩, c4⟩, c5⟩, c6⟩, c7⟩, c8⟩, c9⟩, c10⟩, c11⟩, c12⟩, c13⟩, c14⟩, c15⟩, c16⟩, c17⟩, c18⟩, c19⟩, c20⟩ := hc
  split at c5
  case h_2 => cases c5
  rename_i o kk hm
  rw [Bool.and_eq_true] at c5
  obtain ⟨apos, cpos, rfl, hl⟩ := meth_eq hm
  obtain ⟨n2, l2, f2⟩ := loc_of xs c1 c2
  obtain ⟨n3, l3, f3⟩ := loc_of xs c7 c8
  obtain ⟨n4, l4, f4⟩ := loc_of xs c14 c15
  obtain ⟨tc, ptc, htc⟩ := ((sound dC2 (fnC N scope) ec).2 c4).t X _ xo
  obtain ⟨ti, pti, hti⟩ := ((sound dC1 (fnC N scope) ei).2 c6).t X _ xo
  have q3 := pe_bE ((sound dE3 (fnC N scope) e3).1 c9) xo
  have q6 := pe_bE ((sound dE6 (fnC N scope) e6).1 c12) xo
  have q7 := pe_bE ((sound dE7 (fnC N scope) e7).1 c13) xo
  have q12 := pe_bE ((sound dE12 (fnC N scope) e12).1 c20) xo
  obtain ⟨cm8, q8⟩ := mix_ok c16 xo
  have nc3 : isComp e3 = false := by
    have := c9
    unfold dE3 at this
    rw [chkE] at this
    cases e3 <;> first | rfl | cases this
  refine ⟨_, pss_cons (ps_set xo.nd n2 l2 (ix_ok (Γ := tabD) c3 xo) (swapsNo (ix_comp c3) _ _ _) f2) (pss_cons (ps_while xs.po ptc (pss_one (ps_expr (pe_bm PySem.F.plainAttrs_list PySem.F.slot_list_pop PySem.F.type_list_pop mt_popAt (var_ok c5.1 xo) (pa_cons (k_ok c5.2) pa_nil (starE (k_star c5.2) _)) (base_var c5.1) (few1 (k_star c5.2)) hl (starE (k_star c5.2) _) rfl) (swapsNo rfl _ _ _))))
    (pss_cons (ps_if pti (pss_cons (ps_set xo.nd n3 l3 q3 (swapsNo nc3 _ _ _) f3) (pss_cons (ps_asg q6 (pg_sub (var_ok c10 xo) (k_ok c11) set_list (asg_sub (k_slice c11) _)) swapsSub swapped_sub rfl) (pss_one (ps_ret q7)))) pss_nil)
    (pss_cons (ps_set xo.nd n4 l4 q8 (swapsNo cm8 _ _ _) f4) (pss_cons (ps_asg (var_ok c19 xo) (pg_sub (var_ok c17 xo) (k_ok c18) set_list (asg_sub (k_slice c18) _)) swapsSub swapped_sub rfl) (pss_one (ps_ret q12)))))), ?_⟩
  obtain ⟨W, ds, Qp, Xp, ok, dn, ⟨i, m, rfl, hm, hsm, hq⟩, q, qx⟩ := h
  cases dn with
  | cons d1 dn =>
  cases dn with
  | cons d2 dn =>
  cases dn
  cases d2
  cases d1 with
  | @g i k0 G hG hk =>
  have wf := G.wf
  rw [hk] at wf
  rcases wf with ⟨_, r, hne, hfp, hinv⟩ | ⟨h1, _⟩
  case inr => cases h1
  have hmem : G ∈ W.gs := List.mem_of_getElem? hG
  obtain ⟨cs0, seed0, hs0, hr0, hcs0, hsd⟩ := (hinv _ _).mp (ok.inv G hmem)
  generalize hW1 : (Wd.mk W.fz []) = W1
  have hg : W1.gs = [] := by rw [← hW1]
  have fs : W1.free G.root := ⟨by rw [← hW1]; exact ok.dj G hmem _ (by rw [hfp]; simp), fun x hx => by rw [hg] at hx; cases hx⟩
  have fr : W1.free r := ⟨by rw [← hW1]; exact ok.dj G hmem _ (by rw [hfp]; simp), fun x hx => by rw [hg] at hx; cases hx⟩
  have d0 : DS W1 H G.root r H cs0 seed0 := ⟨⟨by rw [← hW1]; exact ok.sub, (fun x hx => by rw [hg] at hx; cases hx), (fun x hx => by rw [hg] at hx; cases hx), by rw [hg]; exact .nil⟩, fun a o e _ _ => e, hs0, hr0⟩
  have fin : ∀ (y : Int) (H' : Hp) (cs : List Int) (seed : Int), 0 ≤ y → y < m → DS W1 H G.root r H' cs seed → (∀ z ∈ cs, 0 ≤ z) → 0 ≤ seed ∧ seed < 2147483647 → Q (.int y) H' := fun y H' cs seed h0 h1 d hp hse =>
    q _ _ (Out.kept (K := K) (mg := mg) ok hG (fun a o e n => d.fr a o e (fun z => n (by rw [hfp, z]; simp)) fun z => n (by rw [hfp, z]; simp)) ((hinv _ _).mpr ⟨cs, seed, d.hs, d.hr, hp, hse⟩) (.int y) (hq y h0 h1))
  have e0 : L2.start N [V.ref G.root, V.int m] = [some (.ref G.root), some (.int m), none, none, none] := by
    unfold L2.start
    rw [hN]
    rfl
  rw [e0]
  refine ⟨.ref G.root, rfl, G.root, _, 0, .ref r, rfl, rfl, .of hs0, rfl, ?_⟩
  show tSeq _ _ _ [some (.ref G.root), some (.int m), some (.ref r), none, none] H
  refine ⟨fun n σ H' => ∃ cs, n = cs.length ∧ σ = [some (.ref G.root), some (.int m), some (.ref r), none, none] ∧ DS W1 H G.root r H' cs seed0 ∧ ∀ z ∈ cs, 0 ≤ z, ⟨_, cs0, rfl, rfl, d0, hcs0⟩, ?_⟩
  rintro n σ H' ⟨cs, rfl, rfl, d, hp⟩
  refine htc W1 H' _ [none, some (.val (.int m)), some (.own (cs.map D.int)), none, none] (fun b => b = true → ∃ y l, cs = y :: l) noX _ d.ok (ds_env d fr (fun _ z => nomatch z) (fun _ z => nomatch z)) (wt_c2 rfl (fun _ z => by cases z) (fun y l e _ => ⟨y, l, e⟩)) .no fun b W' H2 ok' g' hb => ?_
  have d2 := d.grow hg g'
  cases b with
  | true =>
    obtain ⟨y, l, rfl⟩ := hb rfl
    rw [if_pos rfl]
    refine ⟨fun σ' H'' => ∃ cs', cs'.length < (y :: l).length ∧ σ' = [some (.ref G.root), some (.int m), some (.ref r), none, none] ∧ DS W1 H G.root r H'' cs' seed0 ∧ ∀ z ∈ cs', 0 ≤ z, fun σ' H'' ⟨cs', h1, h2, h3, h4⟩ => ⟨cs'.length, h1, cs', rfl, h2, h3, h4⟩, ?_⟩
    exact ⟨.ref r, rfl, .inl ⟨rfl, _, .of d2.hr⟩, r, _, 0, 0, .int y, rfl, rfl, d2.hr, by decide, by decide, by simp [seqIndex?], rfl, l, Nat.lt_succ_self _, rfl, d2.putr (cs' := l) hne fr, fun z hz => hp z (List.mem_cons_of_mem _ hz)⟩
  | false =>
    rw [if_neg Bool.false_ne_true]
    clear hb
    refine hti W1 H2 _ [none, some (.val (.int m)), some (.own (cs.map D.int)), none, none] (fun b => b = decide ((0 : Int) < ((cs.map D.int).length : Int))) noX _ d2.ok (ds_env d2 fr (fun _ z => nomatch z) (fun _ z => nomatch z)) (wt_c1 rfl rfl) .no fun b W3 H3 ok3 g3 hb => ?_
    have d3 := d2.grow hg g3
    cases b with
    | true =>
      rw [if_pos rfl]
      have hne2 : ∃ y l, cs = y :: l := by
        cases cs with
        | nil => simp at hb
        | cons y l => exact ⟨y, l, rfl⟩
      obtain ⟨y, l, rfl⟩ := hne2
      have hy : 0 ≤ y := hp y (List.mem_cons_self)
      refine bE_ok W1 H3 _ [none, some (.val (.int m)), some (.own ((y :: l).map D.int)), none, none] (fun t => t = .val (.int y)) _ d3.ok (ds_env d3 fr (fun _ z => nomatch z) (fun _ z => nomatch z)) (we_ix rfl rfl rfl) fun v H4 o4 => ?_
      obtain ⟨rfl, d4⟩ := o4.intD d3 hg
      refine bE_ok W1 H4 _ [none, some (.val (.int m)), some (.own ((y :: l).map D.int)), some (.val (.int y)), none] (fun t => t = .val (.int (y / m))) _ d4.ok (ds_env d4 fr (fun _ z => ⟨y, by cases z; rfl, rfl⟩) (fun _ z => nomatch z)) (we_e6 rfl rfl ⟨hm, hsm⟩ rfl) fun v H5 o5 => ?_
      obtain ⟨rfl, d5⟩ := o5.intD d4 hg
      refine ⟨.ref r, rfl, r, _, 0, 0, rfl, rfl, d5.hr, ixN0 (Nat.succ_pos _), ?_⟩
      have d6 := d5.putr (cs' := (y / m) :: l) hne fr
      refine bE_ok W1 _ _ [none, some (.val (.int m)), some (.own (((y / m) :: l).map D.int)), some (.val (.int y)), none] (fun t => t = .val (.int (y % m))) _ d6.ok (ds_env d6 fr (fun _ z => ⟨y, by cases z; rfl, rfl⟩) (fun _ z => nomatch z)) (we_e7 rfl rfl hm rfl) fun v H7 o7 => ?_
      obtain ⟨rfl, d7⟩ := o7.intD d6 hg
      refine fin _ H7 _ _ (Int.emod_nonneg _ (by omega)) (Int.emod_lt_of_pos _ hm) d7 (fun z hz => ?_) hsd
      rcases List.mem_cons.mp hz with rfl | hz
      · exact Int.ediv_nonneg hy (by omega)
      · exact hp z (List.mem_cons_of_mem _ hz)
    | false =>
      rw [if_neg Bool.false_ne_true]
      -- the seed
      have sm0 : Sm seed0 := Sm.of (by omega) (by omega)
      refine ⟨.ref G.root, rfl, G.root, _, 1, .int seed0, rfl, rfl, .of d3.hs, rfl, ?_⟩
      refine r2_int (n := seed0 * 48271) d3 hg ⟨⟨sm0, Sm.of (by decide) (by decide)⟩, rfl⟩ fun H4 d4 => ?_
      refine r2_int (n := seed0 * 48271 + 12345) d4 hg rfl fun H5 d5 => ?_
      refine ⟨W1, [.int (seed0 * 48271 + 12345)], fun t => t = .val (.int (seed0 * 48271 + 12345)), d5.ok, .cons (.of (.int _)) .nil, rfl, fun v H6 o6 => ?_⟩
      obtain ⟨rfl, d6⟩ := o6.intD d5 hg
      refine r2_int (n := (seed0 * 48271 + 12345) % 2147483647) d6 hg ⟨by decide, rfl⟩ fun H7 d7 => ?_
      have b0 : 0 ≤ (seed0 * 48271 + 12345) % 2147483647 := Int.emod_nonneg _ (by decide)
      have b1 : (seed0 * 48271 + 12345) % 2147483647 < 2147483647 := Int.emod_lt_of_pos _ (by decide)
      generalize (seed0 * 48271 + 12345) % 2147483647 = sd at b0 b1 ⊢
      refine ⟨.int sd, rfl, .ref G.root, rfl, G.root, _, 1, 1, rfl, rfl, d7.hs, rfl, ?_⟩
      have d8 := d7.puts (seed' := sd) hne fs
      refine bE_ok W1 _ _ [none, some (.val (.int m)), some (.own (cs.map D.int)), none, some (.val (.int sd))] (fun t => t = .val (.int (sd / 64 % m))) _ d8.ok (ds_env d8 fr (fun _ z => nomatch z) (fun _ z => ⟨sd, by cases z; rfl, rfl⟩)) (we_e12 rfl rfl hm rfl) fun v H9 o9 => ?_
      obtain ⟨rfl, d9⟩ := o9.intD d8 hg
      exact fin _ H9 _ _ (Int.emod_nonneg _ (by omega)) (Int.emod_lt_of_pos _ hm) d9 hp ⟨b0, b1⟩
end
end PL

namespace PL
open PySem PySem.Spec PyProof.Rows L2
/-! ## _law_state -/
def tabS : Tab := ⟨fun _ => none, ["abs", "int"], [], [], [], []⟩
def sM1 : MS := .set 1 (.cst (.int 7))
def sM2 : MS := .for_ (.nm 2) .seq [.var 0] [.set 1 (.bin .mod (.cal .int [.bin .add (.bin .mul (.var 1) (.cst (.int 31))) (.var 2)]) (.cst (.int 1000003)))]
def sE1 : ME := .lc (.cal .abs [.var 2]) (.nm 2) [("cell", 2)] .seq [.var 0] []
def sE2 : ME := .bin .add (.var 1) (.cst (.int 1))
def chkState (c : CC) : List Stmt → Bool
  | [s1, s2, .Return (some (.List [e1, e2] _)) _] => kindFn c && chkS tabS sM1 c s1 && chkS tabS sM2 c s2 && !star e1 && !star e2 && chkE tabS sE1 false c e1 && chkE tabS sE2 false c e2
  | _ => false
def spState : FSp := fun ds Q _ => ∃ ns : List Int, ds = [.scr ns] ∧ ns.length ≤ 1000 ∧ ∀ i, Q (.val (.g i 0))
theorem abs_nn (n : Int) : 0 ≤ (if n < 0 then -n else n) := by split <;> omega
theorem seed_loop {ns : List Int} {E : PEnds} (hE : ∀ seed x, 0 ≤ seed → seed < 1000003 → E.nx [some (.val (.scr ns)), some (.val (.int seed)), x]) : ∀ (l : List Int) (seed : Int) (x : Option Sl), 0 ≤ seed → seed < 1000003 →
    forW (fun d ρ nx => tgW (.nm 2) d ρ fun ρ' => WSs tabS [.set 1 (.bin .mod (.cal .int [.bin .add (.bin .mul (.var 1) (.cst (.int 31))) (.var 2)]) (.cst (.int 1000003)))] ρ' { E with nx := nx, ct := nx, bk := E.nx }) E.nx (l.map D.int) [some (.val (.scr ns)), some (.val (.int seed)), x]
  | [], seed, x, h0, h1 => hE seed x h0 h1
  | n :: l, seed, x, h0, h1 => by
    rw [List.map_cons, forW]
    simp only [tgW, WSs, WS, WE, WAs, argK, opW, biW, mulW, addW, intW, modW, Sl.d, csD, List.set_cons_succ, List.set_cons_zero, List.getElem?_cons_succ, List.getElem?_cons_zero]
    exact ⟨⟨Sm.of (by omega) (by omega), Sm.of (by decide) (by decide)⟩, by decide, seed_loop hE l _ _ (Int.emod_nonneg _ (by decide)) (Int.emod_lt_of_pos _ (by decide))⟩
theorem state_lc {ns : List Int} {seed : Int} {x : Option Sl} {QX : QX} (hl : ns.length ≤ 1000) : WE tabS sE1 [some (.val (.scr ns)), some (.val (.int seed)), x] (fun r => ∃ cs : List Int, r = .own (cs.map D.int) ∧ ∀ z ∈ cs, 0 ≤ z) QX := by
  have key : ∀ (l acc : List Int), l.length + acc.length ≤ 1000 → (∀ z ∈ acc, 0 ≤ z) → lcW (fun d k => tgW (.nm 2) d (wipeE [some (.val (.scr ns)), some (.val (.int seed)), x] [2]) fun ρ' => WCs tabS [] ρ' fun b => if b = true then WE tabS (.cal .abs [.var 2]) ρ' (fun r => k (some r.d)) noX else k none) (fun r => ∃ cs : List Int, r = .own (cs.map D.int) ∧ ∀ z ∈ cs, 0 ≤ z) (l.map D.int) (acc.map D.int) := by
    intro l
    induction l with
    | nil => intro acc _ h; exact ⟨acc, rfl, h⟩
    | cons n l ih =>
      intro acc hlen h
      rw [List.map_cons, lcW]
      simp only [tgW, wipeE, WCs, if_true, WE, WAs, argK, biW, absW, Sl.d, List.set_cons_succ, List.set_cons_zero, List.getElem?_cons_succ, List.getElem?_cons_zero]
      refine ⟨by rw [List.length_map]; unfold LIM; simp at hlen; omega, ?_⟩
      have := ih (acc ++ [if n < 0 then -n else n]) (by simp at hlen ⊢; omega) (fun z hz => by
        rcases List.mem_append.mp hz with hz | hz
        · exact h z hz
        · have : z = if n < 0 then -n else n := by simpa using hz
          rw [this]
          exact abs_nn n)
      rw [List.map_append] at this
      exact this
  simp only [sE1, WE, WAs, argK, Sl.d, itW, List.getElem?_cons_zero]
  exact key ns [] (by simp; exact hl) (by simp)
section
variable {P : Program} {w : World} {K : PySem.W.Frag} {mg : Str → Option Value} {base : Heap}
theorem state_ok {x qual : Str} {params : Arguments} {body : List Stmt} {scope : Scope} {dvs : List V} {kws : List (Str × V)} {f : Addr} {fd : FuncData} {N ps : List Str} {k : Nat} (F : FunD K x qual params body scope dvs kws f fd) (g : GOk tabS P w K mg base k)
    (S : okSc N ps scope = true) (hN : N.length = 3) (hps : ps.length = 1) (hc : chkState (fnC N scope) body = true) : FnOk P w K mg base (L2.CX P w) (k + 1) f fd ps (liftD K mg spState) := by
  have S' := okSc_by S
  refine F.ok S' (fun vs H Q E h => ?_) (fun cdv A outer s H vs Q E hr h => ?_)
  · obtain ⟨W, ds, Qp, Xp, ok, t, ⟨ns, rfl, _⟩, _⟩ := h
    rw [t.length, hps]
    rfl
  have xs : XS tabS k (fnC N scope) (cxOf (L2.CX P w) P w K mg base N qual scope f cdv A outer s H E) (fun cls d _ H => E cls d H) := {
    xo := { N := rfl, nd := S'.nd, sc := rfl, calm := fun _ => rfl, tk := takes_of rfl rfl rfl rfl, rm := hr, g := g, fn := fun _ _ => rfl, gd := fun z => absurd z (by decide +kernel) }
    cal := rfl
    po := passes_of rfl
    kd := S'.kind
    stk := rfl
    frm := rfl }
  have xo := xs.xo
  generalize hX : cxOf (L2.CX P w) P w K mg base N qual scope f cdv A outer s H E = X at xs xo
  have eK : X.K = K := by rw [← hX]; rfl
  have eM : X.mg = mg := by rw [← hX]; rfl
  unfold chkState at hc
  split at hc
  case h_2 => cases hc
  rename_i s1 s2 e1 e2 p1 p2
  simp only [Bool.and_eq_true, Bool.not_eq_true'] at hc
  obtain ⟨⟨⟨⟨⟨⟨c0, c1⟩, c2⟩, c3⟩, c4⟩, c5⟩, c6⟩ := hc
  obtain ⟨t1, q1, h1⟩ := soundS sM1 _ s1 c1 X _ xs
  obtain ⟨t2, q2, h2⟩ := soundS sM2 _ s2 c2 X _ xs
  have r1 := pe_bE ((sound sE1 (fnC N scope) e1).1 c5) xo
  have r2 := pe_bE ((sound sE2 (fnC N scope) e2).1 c6) xo
  refine ⟨_, pss_cons q1 (pss_cons q2 (pss_one (ps_ret (pe_lst (pa_cons r1 (pa_cons r2 pa_nil (starE c4 _)) (star_cons c3 _)))))), ?_⟩
  obtain ⟨W, ds, Qp, Xp, ok, dn, ⟨ns, rfl, hl, hq⟩, q, qx⟩ := h
  have e0 : mkEnv N.length [D.scr ns] = [some (.val (.scr ns)), none, none] := by rw [hN]; rfl
  have env := env_start (H := H) N dn
  rw [e0] at env
  have st0 : StOk X.K X.mg W W H W H (L2.start N vs) [some (.val (.scr ns)), none, none] := ⟨ok, .refl _ _, by rw [eK, eM]; exact env, by rw [← e0]; exact own_start, .refl _⟩
  let E2 : PEnds := ⟨fun ρ => ∃ seed x, 0 ≤ seed ∧ seed < 1000003 ∧ ρ = [some (.val (.scr ns)), some (.val (.int seed)), x], fun _ => False, fun _ => False, fun _ => False, fun _ _ => False⟩
  have p2 : ∀ seed x, 0 ≤ seed → seed < 1000003 → WS tabS sM2 [some (.val (.scr ns)), some (.val (.int seed)), x] E2 := fun seed x a b => by
    unfold sM2
    rw [WS]
    simp only [WLs, WE, List.getElem?_cons_zero, itW, Sl.d]
    exact seed_loop (E := E2) (fun seed x a b => ⟨seed, x, a, b, rfl⟩) ns seed x a b
  have p1 : WS tabS sM1 [some (.val (.scr ns)), none, none] { E2 with nx := fun ρ => WS tabS sM2 ρ E2 } := by
    unfold sM1
    rw [WS]
    simp only [WE, csD]
    exact p2 7 none (by decide) (by decide)
  refine h1 W W H W H _ _ _ _ st0 p1 ⟨fun W1 H1 σ1 ρ1 st1 hw => ?_, fun _ _ ⟨_, _, _, _, _, _, z⟩ => z.elim, fun _ _ _ _ _ z => z.elim, fun _ _ _ _ _ z => z.elim, fun _ _ _ _ _ _ _ _ _ z => z.elim⟩
  refine h2 W W H W1 H1 σ1 ρ1 _ _ st1 hw ⟨fun W2 H2 σ2 ρ2 st2 hw2 => ?_, fun _ _ ⟨_, _, _, _, _, _, z⟩ => z.elim, fun _ _ _ _ _ z => z.elim, fun _ _ _ _ _ z => z.elim, fun _ _ _ _ _ _ _ _ _ z => z.elim⟩
  obtain ⟨seed, xx, s0, s1', rfl⟩ := hw2
  refine bE_ok W2 H2 σ2 _ _ _ st2.ok st2.e (state_lc hl) fun v H3 ⟨W3, r3, ok3, g3, so3, f3, cs, er, hcs⟩ => ?_
  subst er
  obtain ⟨a, vs3, rfl, ha, fr3, dn3⟩ := so3
  have na2 := f3 rfl a rfl
  have ev3 := den_int dn3
  subst ev3
  have st3 := st2.grow ok3 g3
  refine bE_ok W3 H3 σ2 _ (fun r => r = .val (.int (seed + 1))) _ ok3 st3.e (by simp only [sE2, WE, argK, opW, addW, Sl.d, csD, List.getElem?_cons_succ, List.getElem?_cons_zero]) fun v H4 ⟨W4, r4, ok4, g4, so4, f4, er⟩ => ?_
  subst er
  cases (show Den X.K X.mg W4 v (.int (seed + 1)) from so4)
  have own4 := SlOk.grow (K := X.K) (mg := X.mg) g4 (s := .own (cs.map D.int)) ⟨a, _, rfl, ha, fr3, dn3⟩
  obtain ⟨a', vs4, ea, ha4, fr4, dn4⟩ := own4
  cases ea
  have ev4 := den_int dn4
  subst ev4
  refine ⟨by show 2 ≤ sizeLine; decide, fun p np => ?_⟩
  have hpa : p ≠ a := fun z => by rw [z, ha4] at np; cases np
  have g04 : Grow W H W4 H4 := (st2.g.trans g3 st2.ok).trans g4 ok3
  have back : ∀ b, H4 b = none → H b = none := fun b z => by
    cases y : H b with
    | none => rfl
    | some o => exact absurd z (g04.here ok4 (by rw [y]; intro z; cases z))
  have na : H a = none := by
    cases y : H a with
    | none => rfl
    | some o => exact absurd na2 (st2.g.here st2.ok (by rw [y]; intro z; cases z))
  have g05 : Grow W H W4 (upd H4 p (.lst [.ref a, .int (seed + 1)])) := g04.trans (.new np) ok4
  refine q _ _ ⟨⟨W4.fz, W4.gs ++ [stGd p a hpa]⟩, .val (.g W4.gs.length 0), (ok4.new np).guard (G := stGd p a hpa) ⟨cs, seed + 1, upd_same, by rw [upd_ne (Ne.symm hpa)]; exact ha4, hcs, by omega, by omega⟩ (fun b hb => ?_), g05.guard (fun b hb => ?_), den_guard (G := stGd p a hpa), (fun z => by cases z), hq _⟩
  · have : b = p ∨ b = a := by simpa [stGd] using hb
    rcases this with rfl | rfl
    · exact ok4.free_new np
    · exact fr4
  · have : b = p ∨ b = a := by simpa [stGd] using hb
    rcases this with rfl | rfl
    · exact back _ np
    · exact na
end
end PL

namespace PL
open PySem PySem.Spec PyProof.Rows L2
/-! ## an exception of one's own, its field set, its base's __init__ called by the base's name -/
def chkInit (B : Str) (c : CC) : List Stmt → Bool
  | [.Expr (.Call (.Attribute (.Name x _) m ap) [e1, e2] [] cp) _, .Assign [.Attribute e3 f _] e4 _] => (ap.endLine == cp.line) && x == B && glb c x && m == ("__init__" : Str) && varIs c 0 e1 && (match e2 with
      | .Constant (.str _) _ _ => true
      | _ => false) && varIs c 0 e3 && f == ("name" : Str) && varIs c 1 e4
  | _ => false
/-- the base's __init__ stands in the class as ValueError's own -/
structure BaseOk (K : PySem.W.Frag) (mg : Str → Option Value) (B : Str) : Prop where
  ex : ∃ (CB : Addr) (mc : Value), mg B = some (.ref CB) ∧ PySem.W.readsIn K CB mc = true ∧ PySem.W.specialIn K (.ref CB) "__getattribute__" = some (some (.builtin "type.__getattribute__")) ∧ PySem.W.findCls K (.ref CB) mc "__init__" = some (.val (.builtin "ValueError.__init__"))
section
variable {X : Cx} {e : Expr} {es : List Expr} {ta : TA} {p1 p2 pos : Pos}
theorem pe_obinit {B x z : Str} {px pz : Pos} {j : Nat} (hl : (p2.endLine == pos.line) = true) (hg : Gl X B) (hdb : (B == ("__debug__" : Str)) = false) (b : BaseOk X.K X.mg B) (ha : PA X [.Name x px, .Constant (.str z) j pz] ta) :
    PE X (.Call (.Attribute (.Name B p1) "__init__" p2) [.Name x px, .Constant (.str z) j pz] [] pos) (tVeI X.K ta) := by
  refine ⟨fun pins s σ H Q I h => ?_⟩
  obtain ⟨CB, mc, hm, hr, hga, hf⟩ := b.ex
  have hc : eval (.Call (.Attribute (.Name B p1) "__init__" p2) [.Name x px, .Constant (.str z) j pz] [] pos) X.env = (do
      let ov ← eval (.Name B p1) X.env
      standAt p2.atName
      let (f, first) ← holding [ov] (getMethod ov "__init__" (do return (← importBound (.Name B p1) X.env).getD true))
      callWith pos f first (backTo pos (starEach [.Name x px, .Constant (.str z) j pz] X.env)) (backToKw pos (keywordEach [] X.env))) := by
    show (do
      let ov ← eval (.Name B p1) X.env
      standAt p2.atName
      methodCall (.Name B p1) "__init__" p2 pos X.env ov 2 (backTo pos (starEach [.Name x px, .Constant (.str z) j pz] X.env)) (backToKw pos (keywordEach [] X.env))) = _
    have hf : methodCallForm 2 (backTo pos (starEach [.Name x px, .Constant (.str z) j pz] X.env)) (backToKw pos (keywordEach [] X.env)) = true := rfl
    unfold methodCall methodCallPos calleeOf
    simp only [hf, Bool.not_true, Bool.false_or, hl, if_true, pure_bind]
  refine PySem.W.methodCall_KW (ld_glob I hg hm ?_ hdb) hc
  refine PySem.W.method_cls I.kIn hga (PySem.W.cls_value I.kIn hr hf (by decide +kernel) ?_)
  show wpAny _ _ (callWith pos (Value.builtin "ValueError.__init__") [] (backTo pos (starEach [.Name x px, .Constant (.str z) j pz] X.env)) []) _ _ _
  refine PyProof.Rows.callWith_method1 (thn (ha.run pos pins _ σ H _ (I.tok _) h) fun us s1 ⟨vs, H1, I1, r1, a, C, ws, ev, hl, T, ea, q⟩ => ?_) rfl rfl
  subst ev
  cases r1 with
  | @cons _ u0 _ ur ra rw' =>
    obtain rfl : u0 = Value.ref a := ra
    have hlen : ur.length ≤ sizeLine := by
      rw [← Paired.length rw', sizeLine_eq]
      omega
    exact oinit_ok T I1 ea hlen fun s' J => ⟨.non, H1, J, rfl, q⟩
end
section
variable {P : Program} {w : World} {K : PySem.W.Frag} {mg : Str → Option Value} {base : Heap}
theorem init_ok {B x qual : Str} {params : Arguments} {body : List Stmt} {scope : Scope} {dvs : List V} {kws : List (Str × V)} {f : Addr} {fd : FuncData} {N : List Str} {k : Nat} (F : FunD K x qual params body scope dvs kws f fd) (b : BaseOk K mg B)
    (S : okSc N ["self", "name"] scope = true) (hN : N.length = 2) (hc : chkInit B (fnC N scope) body = true) (g : GOk ⟨fun _ => none, [], [], [], [], []⟩ P w K mg base k) : FnOk P w K mg base (L2.CX P w) (k + 1) f fd ["self", "name"] (spInit K) := by
  have S' := okSc_by S
  refine F.ok S' (fun vs H Q E h => ?_) (fun cdv A outer s H vs Q E hr h => ?_)
  · obtain ⟨a, C, v, rfl, _⟩ := h
    rfl
  have xs : XS ⟨fun _ => none, [], [], [], [], []⟩ k (fnC N scope) (cxOf (L2.CX P w) P w K mg base N qual scope f cdv A outer s H E) (fun cls d _ H => E cls d H) := {
    xo := { N := rfl, nd := S'.nd, sc := rfl, calm := fun _ => rfl, tk := takes_of rfl rfl rfl rfl, rm := hr, g := g, fn := fun _ _ => rfl, gd := fun z => absurd z (by decide +kernel) }
    cal := rfl
    po := passes_of rfl
    kd := S'.kind
    stk := rfl
    frm := rfl }
  have xo := xs.xo
  generalize hX : cxOf (L2.CX P w) P w K mg base N qual scope f cdv A outer s H E = X at xs xo
  have eK : X.K = K := by rw [← hX]; rfl
  have eM : X.mg = mg := by rw [← hX]; rfl
  unfold chkInit at hc
  split at hc
  case h_2 => cases hc
  rename_i x' q1 m q2 e1 e2 q3 q4 e3 f' q5 e4 q6
  simp only [Bool.and_eq_true, beq_iff_eq] at hc
  obtain ⟨⟨⟨⟨⟨⟨⟨⟨hln, rfl⟩, c1⟩, rfl⟩, c3⟩, c4⟩, c5⟩, rfl⟩, c7⟩ := hc
  split at c4
  case h_2 => cases c4
  obtain ⟨gl, hd, _⟩ := glb_ok xo c1
  obtain ⟨y1, py1, rfl, _⟩ := varIs_eq c3
  have nc4 : isComp e4 = false := by obtain ⟨_, _, rfl, _⟩ := varIs_eq c7; rfl
  have b' : BaseOk X.K X.mg x' := by rw [eK, eM]; exact b
  refine ⟨_, pss_cons (ps_expr (pe_obinit (by rw [beq_iff_eq]; exact hln) gl hd b' (pa_cons (var_ok c3 xo) (pa_cons pe_str pa_nil rfl) rfl)) (swapsNo rfl _ _ _)) (pss_one (ps_ost (var_ok c5 xo) (var_ok c7 xo) (swapsNo nc4 _ _ _))), ?_⟩
  obtain ⟨a, C, v, rfl, T, hno, hH, q⟩ := h
  have e0 : L2.start N [V.ref a, v] = [some (.ref a), some v] := by
    unfold L2.start
    rw [hN]
    rfl
  rw [e0]
  refine ⟨_, rfl, a, C, _, rfl, by show 1 ≤ 1000; decide, by rw [eK]; exact T, hH, ?_⟩
  exact ⟨v, rfl, .ref a, rfl, a, C, rfl, by rw [eK]; exact T, by rw [eK]; exact hno, .inl ⟨hH, fun dx n ne => q dx n ne⟩⟩
end
end PL

namespace PL
open PySem PySem.Spec PyProof.Rows L2
/-! ## what the head tells -/
def obsP (n : Nat) (fb : PySem.W.Frag → Bool) (fn : List He.DefD) (g : Addr → Option Obj) : He.AlD := let K := He.frG g (cStatics :: He.asD g n); (fb K && fn.all fun d => d.ok K, fn.map fun d => He.fnW K d.at_)
def SaysP (fb : PySem.W.Frag → Bool) (fn : List He.DefD) (K : PySem.W.Frag) : Prop := ((fb K && fn.all fun d => d.ok K, fn.map fun d => He.fnW K d.at_) : He.AlD) = He.valD fn
def hookP (n : Nat) (fb : PySem.W.Frag → Bool) (fn : List He.DefD) : PySem.W.Hook where
  α := He.AlD
  obs := fun s => obsP n fb fn s.heap.get?
  val := fun _ => He.valD fn
  says := fun _ h => ∃ K : PySem.W.Frag, K.In h ∧ SaysP fb fn K
  of := fun _ _ e => ⟨_, He.frG_in, e⟩
  keeps := fun _ _ _ ⟨K, hK, c⟩ k => ⟨K, PySem.W.Frag.In.keeps hK k, c⟩
theorem obsP_eq {n : Nat} {fb : PySem.W.Frag → Bool} {fn : List He.DefD} {g : Addr → Option Obj} {s : Shared} (h : ∀ a, g a = s.heap.get? a) : obsP n fb fn g = (hookP n fb fn).obs s := by
  have e : g = s.heap.get? := funext h
  rw [e] <;> rfl
section
variable {fb : PySem.W.Frag → Bool} {fn : List He.DefD} {K : PySem.W.Frag}
theorem SaysP.fact0 (c : SaysP fb fn K) : fb K = true := (He.ba (show (fb K && fn.all fun d => d.ok K) = true from congrArg (fun z : He.AlD => z.1) c)).1
theorem SaysP.def_ (c : SaysP fb fn K) (i : Nat) {d : He.DefD} (h : fn[i]? = some d) : ∃ fd, FunD K d.name d.qual d.params d.body d.scope (d.dvs K) (d.kws K) (He.fAd K d.at_) fd := by
  have c2 := (He.ba (show (fb K && fn.all fun d => d.ok K) = true from congrArg (fun z : He.AlD => z.1) c)).2
  have e : fn.map (fun d => He.fnW K d.at_) = fn.map He.DefD.val := congrArg (fun z : He.AlD => z.2) c
  have e2 : (fn.map fun d => He.fnW K d.at_)[i]? = (fn.map He.DefD.val)[i]? := by rw [e]
  rw [List.getElem?_map, List.getElem?_map, h] at e2
  exact He.DefD.funD (Option.some.inj e2) (List.all_eq_true.mp c2 d (List.mem_of_getElem? h))
end
/-! ### an exception class over another over ValueError -/
def oexB (K : PySem.W.Frag) (C : Addr) : Bool := (match K.lookup C with
  | some ⟨.type t, _, .cls cd, sl⟩ => (match cd.mro, sl.toList with
    | .ref C' :: bm, [_, _, _, _, some (.builtin n), _] => t == "type" && C' == C && n == "ValueError.__new__" && !cd.hasDel && cd.hasDict && PySem.HandSPX.refsVE bm
    | _, _ => false)
  | _ => false) && decide (PySem.W.findIn K (.ref C) "__setattr__" = some (some (.builtin "object.__setattr__"))) && decide (PySem.W.subIn K (.ref C) (.type "BaseException") = some true) && decide (PySem.W.typeIn K (.ref C) = some (.type "type")) && PySem.W.keepIn K (.ref C)
theorem oexB_ok {K : PySem.W.Frag} {C : Addr} (h : oexB K C = true) : OexC K C := by
  unfold oexB at h
  simp only [Bool.and_eq_true, decide_eq_true_eq] at h
  obtain ⟨⟨⟨⟨h1, h2⟩, h3⟩, h4⟩, h5⟩ := h
  refine ⟨?_, h2, h3, h4, h5⟩
  split at h1
  · rename_i t dd cd sl ho
    split at h1
    · rename_i C' bm k0 k1 k2 k3 n k5 hm hs
      simp only [Bool.and_eq_true, beq_iff_eq, Bool.not_eq_true'] at h1
      obtain ⟨⟨⟨⟨⟨rfl, rfl⟩, rfl⟩, hdel⟩, hd⟩, hv⟩ := h1
      obtain ⟨nm, bs, mro, ns, qn, hd', sn, sub, ab, col, del⟩ := cd
      dsimp only at hm hdel hd
      subst hm hdel hd
      have hsl : sl = #[k0, k1, k2, k3, some (.builtin "ValueError.__new__"), k5] := by
        obtain ⟨l⟩ := sl
        simp only at hs
        rw [hs]
      subst hsl
      exact ⟨nm, qn, ns, bs, bm, sn, sub, ab, col, dd, k0, k1, k2, k3, k5, ho, hv⟩
    · cases h1
  · cases h1
def baseB (K : PySem.W.Frag) (CB : Addr) : Bool := PySem.W.readsIn K CB (.type "type") && decide (PySem.W.specialIn K (.ref CB) "__getattribute__" = some (some (.builtin "type.__getattribute__"))) && (match PySem.W.findCls K (.ref CB) (.type "type") "__init__" with
  | some (.val (.builtin n)) => n == "ValueError.__init__"
  | _ => false)
theorem baseB_ok {K : PySem.W.Frag} {mg : Str → Option Value} {CB : Addr} {B : Str} (h : baseB K CB = true) (m : mg B = some (.ref CB)) : BaseOk K mg B := by
  unfold baseB at h
  simp only [Bool.and_eq_true, decide_eq_true_eq] at h
  obtain ⟨⟨h1, h2⟩, h3⟩ := h
  refine ⟨⟨CB, _, m, h1, h2, ?_⟩⟩
  split at h3
  · rename_i n e
    rw [e, beq_iff_eq.mp h3]
  · cases h3
def xcB (K : PySem.W.Frag) (D : Addr) : Bool := decide (PySem.W.findIn K (.ref D) "__getattribute__" = some (some (.builtin "BaseException.__getattribute__"))) && (decide (PySem.W.findIn K (.ref D) "__getattr__" = some none) && (decide (PySem.W.subIn K (.ref D) (.type "BaseException") = some true) && (PySem.W.hasDictIn K D &&
  (decide (PySem.W.findIn K (.ref D) "__class__" = some (some (.builtin "object.__class__"))) && (decide (PySem.W.specialIn K (.builtin "object.__class__") "__get__" = some (some (.builtin "getset_descriptor.__get__"))) && (decide (PySem.W.takesIn K (.builtin "object.__class__") = some true) && decide (PySem.W.mroIn K D (.type "object") = some true)))))))
theorem xcB_ok {K : PySem.W.Frag} {D : Addr} (h : xcB K D = true) : ExcC K D := by
  unfold xcB at h
  simp only [Bool.and_eq_true, decide_eq_true_eq] at h
  obtain ⟨h1, h2, h3, h4, h5, h6, h7, h8⟩ := h
  exact ⟨h1, h2, h3, h4, h5, h6, h7, h8⟩
def isB (K : PySem.W.Frag) (D H2 : Addr) : Bool := xcB K D && (decide (PySem.W.kitOne K (.ref D) (.ref H2) = some true) && decide (PySem.W.kitOne K (.ref D) (.type "ValueError") = some true))
/-- what is asked of an exception class C with the base B, in all -/
def excB (K : PySem.W.Frag) (C B : Str) : Bool := oexB K (He.ga K C) && (xfB K (He.ga K C) && (decide (PySem.W.findIn K (.ref (He.ga K C)) "name" = some none) && (decide (PySem.W.findIn K (.ref (He.ga K C)) "__init__" = some (some (.ref (He.ma K (He.ga K C) "__init__")))) &&
  (decide (PySem.W.typeIn K (.ref (He.ma K (He.ga K C) "__init__")) = some (.type "function")) && (baseB K (He.ga K B) && isB K (He.ga K C) (He.ga K B))))))
theorem excB_rz {P : Program} {w : World} {K : PySem.W.Frag} {mg : Str → Option Value} {base : Heap} {k k1 : Nat} {C B : Str} {fd : FuncData} (h : excB K C B = true) (m : mg C = some (.ref (He.ga K C))) (F : FnOk P w K mg base (L2.CX P w) k1 (He.ma K (He.ga K C) "__init__") fd ["self", "name"] (spInit K)) (hk : k1 + 1 ≤ k) (hb : Binds K fd ["self", "name"] []) (hB : B = "HeardError") (m2 : mg B = some (.ref (He.ga K B))) (mV : mg "ValueError" = none) : RzOk P w K mg base k C := by
  unfold excB at h
  simp only [Bool.and_eq_true, decide_eq_true_eq] at h
  obtain ⟨h1, h2, h3, h4, h5, _, h6⟩ := h
  unfold isB at h6
  simp only [Bool.and_eq_true, decide_eq_true_eq] at h6
  obtain ⟨h7, h8, h9⟩ := h6
  subst hB
  exact ⟨He.ga K C, m, xfB_ok h2, h3, oexB_ok h1, _, fd, k1, h4, h5, F, hk, hb, xcB_ok h7, ⟨_, m2, h8⟩, mV, h9⟩
theorem excB_base {K : PySem.W.Frag} {mg : Str → Option Value} {C B : Str} (h : excB K C B = true) (m : mg B = some (.ref (He.ga K B))) : BaseOk K mg B := by
  unfold excB at h
  simp only [Bool.and_eq_true, decide_eq_true_eq] at h
  exact baseB_ok h.2.2.2.2.2.1 m
theorem fnList {P : Program} {w : World} {K : PySem.W.Frag} {mg : Str → Option Value} {base : Heap} {k : Nat} {Γ : Tab} {l : List (Str × FSp)} (e : ∀ x, Γ.sp x = l.lookup x)
    (h : ∀ p ∈ l, ∃ (a : Addr) (fd : FuncData) (ps : List Str), FnOk P w K mg base (L2.CX P w) k a fd ps (liftD K mg p.2) ∧ mg p.1 = some (.ref a) ∧ PySem.W.keepIn K (.ref a) = true ∧ Binds K fd ps []) :
    ∀ f sp, Γ.sp f = some sp → ∃ (a : Addr) (fd : FuncData) (ps : List Str), FnOk P w K mg base (L2.CX P w) k a fd ps (liftD K mg sp) ∧ mg f = some (.ref a) ∧ PySem.W.keepIn K (.ref a) = true ∧ Binds K fd ps [] := fun f sp hf => by
  rw [e] at hf
  exact h _ (mem_lk hf)
end PL

namespace PL
open PySem PySem.Spec PyProof.Rows L2
/-! ## reading a mini text -/
theorem pl_bl {b : Bool} : pl (.bl b) = true := by
  unfold pl
  rw [D.py]
  simp [SeqAt.shaped, PyData.canLay0, PyData.depth]
theorem pl_non : pl .non = true := by
  unfold pl
  rw [D.py]
  simp [SeqAt.shaped, PyData.canLay0, PyData.depth]
theorem pl_str {x : Str} (h : PyData.strOk x = true) : pl (.str x) = true := by
  unfold pl
  rw [D.py]
  simp [SeqAt.shaped, PyData.canLay0, PyData.depth, h]
theorem pysI : ∀ ns : List Int, D.pys (ns.map D.int) = some (ns.map PyData.int)
  | [] => by rw [List.map_nil, D.pys]; rfl
  | n :: r => by
    rw [List.map_cons, D.pys, D.py, pysI r]
    rfl
theorem lay_ints : ∀ ns : List Int, PyData.canLayAll0 (ns.map PyData.int) = true
  | [] => by rw [List.map_nil, PyData.canLayAll0]
  | n :: r => by rw [List.map_cons, PyData.canLayAll0, PyData.canLay0, lay_ints r]; rfl
theorem dep_ints : ∀ ns : List Int, PyData.depthAll (ns.map PyData.int) = 0
  | [] => by rw [List.map_nil, PyData.depthAll]
  | n :: r => by rw [List.map_cons, PyData.depthAll, PyData.depth, dep_ints r]; rfl
theorem pl_ints (ns : List Int) : pl (.lst (ns.map D.int)) = true := by
  unfold pl
  rw [D.py, pysI]
  simp only [Option.map_some, SeqAt.shaped, PyData.canLay0, lay_ints, PyData.depth, dep_ints]
  decide
theorem eqDs_ints : ∀ a b : List Int, eqDs (a.map D.int) (b.map D.int) = decide (a = b)
  | [], [] => by rw [List.map_nil, eqDs]; rfl
  | [], _ :: _ => by rw [List.map_nil, List.map_cons, eqDs]; rfl; all_goals simp
  | _ :: _, [] => by rw [List.map_nil, List.map_cons, eqDs]; rfl; all_goals simp
  | x :: a, y :: b => by
    rw [List.map_cons, List.map_cons, eqDs, eqD, eqDs_ints a b]
    by_cases h : x = y <;> by_cases k : a = b <;> simp [h, k]
theorem eqD_ints (a b : List Int) : eqD (.lst (a.map D.int)) (.lst (b.map D.int)) = decide (a = b) := by rw [eqD, eqDs_ints]
theorem neW_ints {a b : List Int} {Q : QS} (h : Q (.val (.bl (!decide (a = b))))) : neW (.lst (a.map D.int)) (.lst (b.map D.int)) Q := .inl ⟨⟨pl_ints a, pl_ints b⟩, by rw [eqD_ints]; exact h⟩
theorem eqW_ints {a b : List Int} {Q : QS} (h : Q (.val (.bl (decide (a = b))))) : eqW (.lst (a.map D.int)) (.lst (b.map D.int)) Q := .inl ⟨⟨pl_ints a, pl_ints b⟩, by rw [eqD_ints]; exact h⟩
theorem neW_int {i j : Int} {Q : QS} (h : Q (.val (.bl (!(i == j))))) : neW (.int i) (.int j) Q := .inl ⟨⟨pl_int, pl_int⟩, by rw [eqD]; exact h⟩
theorem sm_mk {i : Int} (h1 : -18446744073709551616 ≤ i) (h2 : i ≤ 18446744073709551615) : Sm i := .of h1 h2
theorem atI_nat {α : Type} {xs : List α} {n : Nat} {x : α} (h : xs[n]? = some x) : atI xs (n : Int) = some x := by
  have hl : n < xs.length := (List.getElem?_eq_some_iff.mp h).1
  unfold atI ixN
  rw [if_pos (Int.natCast_nonneg n), if_pos (by exact_mod_cast hl)]
  exact h
theorem atI_map' {xs : List Int} {i : Int} : atI (xs.map D.int) i = (atI xs i).map D.int := atI_map _ _ _
theorem ixN_nat {n m : Nat} (h : m < n) : ixN n (m : Int) = some m := by
  unfold ixN
  rw [if_pos (Int.natCast_nonneg m), if_pos (by exact_mod_cast h)]
  rfl
section
variable {i j : Int} {b : Bool} {xs ys : List D} {x y : D} {Q : QS} {T : String} {P : Bool → Prop} {R : List D → Prop} {ρ : Env} {S : Env → Prop} {kvs : List (D × D)}
theorem Sl_v : (Sl.val x).d = x := rfl
theorem Sl_o : (Sl.own xs).d = .lst xs := rfl
theorem addW_i : addW (.int i) (.int j) Q = Q (.val (.int (i + j))) := rfl
theorem addW_l : addW (.lst xs) (.lst ys) Q = (xs.length + ys.length ≤ LIM ∧ Q (.own (xs ++ ys))) := rfl
theorem addW_t : addW (.tup xs) (.tup ys) Q = (xs.length + ys.length ≤ LIM ∧ Q (.val (.tup (xs ++ ys)))) := rfl
theorem subW_i : subW (.int i) (.int j) Q = Q (.val (.int (i - j))) := rfl
theorem mulW_i : mulW (.int i) (.int j) Q = (sm2 i j ∧ Q (.val (.int (i * j)))) := rfl
theorem mulW_l : mulW (.lst xs) (.int j) Q = ((j < 9223372036854775808 ∧ -9223372036854775808 ≤ j ∧ xs.length * j.toNat ≤ LIM) ∧ Q (.own (List.replicate j.toNat xs).flatten)) := rfl
theorem mulW_t : mulW (.tup xs) (.int j) Q = (((xs ≠ [] ∧ xs.length ≤ 1000) ∧ (1 ≤ j ∧ j ≤ 1000)) ∧ Q (.val (.tup (List.replicate j.toNat xs).flatten))) := rfl
theorem fdivW_i : fdivW (.int i) (.int j) Q = ((0 < j ∧ Sm j) ∧ Q (.val (.int (i / j)))) := rfl
theorem modW_i : modW (.int i) (.int j) Q = (0 < j ∧ Q (.val (.int (i % j)))) := rfl
theorem powW_i : powW (.int i) (.int j) Q = (((0 ≤ j ∧ j ≤ 1000000) ∧ small64' i) ∧ Q (.val (.int (i ^ j.toNat)))) := rfl
theorem shlW_i : shlW (.int i) (.int j) Q = (((0 ≤ j ∧ j ≤ 1000000) ∧ small64' i) ∧ Q (.val (.int (i * 2 ^ j.toNat)))) := rfl
theorem shrW_i : shrW (.int i) (.int j) Q = (0 ≤ j ∧ Q (.val (.int (i / 2 ^ j.toNat)))) := rfl
theorem bitW_i {f : Int → Int → Int} : bitW f (.int i) (.int j) Q = Q (.val (.int (f i j))) := rfl
theorem iaddW_i : iaddW (.int i) (.int j) Q = Q (.val (.int (i + j))) := rfl
theorem imulW_i : imulW (.int i) (.int j) Q = ((small64' i ∨ small64' j) ∧ Q (.val (.int (i * j)))) := rfl
theorem ifdivW_i : ifdivW (.int i) (.int j) Q = ((0 < j ∧ j < 1073741824) ∧ Q (.val (.int (i / j)))) := rfl
theorem ltW_i : ltW (.int i) (.int j) Q = Q (.val (.bl (decide (i < j)))) := rfl
theorem leW_i : leW (.int i) (.int j) Q = Q (.val (.bl (decide (i ≤ j)))) := rfl
theorem gtW_i : gtW (.int i) (.int j) Q = Q (.val (.bl (decide (j < i)))) := rfl
theorem geW_i : geW (.int i) (.int j) Q = Q (.val (.bl (decide (j ≤ i)))) := rfl
theorem eqW_i : eqW (.int i) (.int j) Q = Q (.val (.bl (i == j))) := by
  unfold eqW dicEq
  rw [pl_int, pl_int, eqD]
  simp
theorem neW_i : neW (.int i) (.int j) Q = Q (.val (.bl (!(i == j)))) := by
  unfold neW dicEq
  rw [pl_int, pl_int, eqD]
  simp
theorem eqW_s {u v : Str} (hu : PyData.strOk u = true) (hv : PyData.strOk v = true) : eqW (.str u) (.str v) Q = Q (.val (.bl (u == v))) := by
  unfold eqW dicEq
  rw [pl_str hu, pl_str hv, eqD]
  simp
theorem neW_s {u v : Str} (hu : PyData.strOk u = true) (hv : PyData.strOk v = true) : neW (.str u) (.str v) Q = Q (.val (.bl (!(u == v)))) := by
  unfold neW dicEq
  rw [pl_str hu, pl_str hv, eqD]
  simp
theorem Sl_od {t : Bool} {kvs : List (D × D)} : (Sl.ownd t kvs).d = .dic t kvs := rfl
theorem inW_d {t : Bool} {kvs : List (D × D)} {x : D} : inW x (.dic t kvs) Q = (keyFits t x = true ∧ Q (.val (.bl (getD? kvs x).isSome))) := by cases x <;> rfl
theorem notinW_d {t : Bool} {kvs : List (D × D)} {x : D} : notinW x (.dic t kvs) Q = (keyFits t x = true ∧ Q (.val (.bl (!(getD? kvs x).isSome)))) := by cases x <;> rfl
theorem isW_n : isW x .non Q = Q (.val (.bl (isNon x))) := by cases x <;> rfl
theorem isntW_n : isntW x .non Q = Q (.val (.bl (!isNon x))) := by cases x <;> rfl
theorem isW_b {a : Bool} : isW (.bl a) (.bl b) Q = Q (.val (.bl (decide (a = b)))) := rfl
theorem isntW_b {a : Bool} : isntW (.bl a) (.bl b) Q = Q (.val (.bl (!decide (a = b)))) := rfl
theorem idxW_l : idxW (.lst xs) (.int i) Q = optW (atI xs i) Q := rfl
theorem idxW_t : idxW (.tup xs) (.int i) Q = optW (atI xs i) Q := rfl
theorem optW_s : optW (some x) Q = Q (.val x) := rfl
theorem optP_s {Z : D → Prop} : optP (some x) Z = Z x := rfl
theorem lenW_l : lenW [.lst xs] Q = Q (.val (.int xs.length)) := rfl
theorem lenW_t : lenW [.tup xs] Q = Q (.val (.int xs.length)) := rfl
theorem lenW_s {ns : List Int} : lenW [.scr ns] Q = Q (.val (.int ns.length)) := rfl
theorem lenW_d {t : Bool} : lenW [.dic t kvs] Q = Q (.val (.int kvs.length)) := rfl
theorem intW_i : intW [.int i] Q = Q (.val (.int i)) := rfl
theorem intW_b : intW [.bl b] Q = Q (.val (.int (if b then 1 else 0))) := rfl
theorem absW_i : absW [.int i] Q = Q (.val (.int (if i < 0 then -i else i))) := rfl
theorem maxW_i : maxW [.int i, .int j] Q = Q (.val (.int (if j > i then j else i))) := rfl
theorem minW_i : minW [.int i, .int j] Q = Q (.val (.int (if j < i then j else i))) := rfl
theorem negW_i : negW (.int i) Q = Q (.val (.int (-i))) := rfl
theorem listW_l : listW [.lst xs] Q = Q (.own xs) := rfl
theorem listW_t : listW [.tup xs] Q = Q (.own xs) := rfl
theorem tupleW_l : tupleW [.lst xs] Q = Q (.val (.tup xs)) := rfl
theorem tupleW_t : tupleW [.tup xs] Q = Q (.val (.tup xs)) := rfl
theorem sliceW_l {lo hi : Option Int} : sliceW (.lst xs) lo hi Q = Q (.own (cutD xs lo hi)) := rfl
theorem sliceW_t {lo hi : Option Int} : sliceW (.tup xs) lo hi Q = Q (.val (.tup (cutD xs lo hi))) := rfl
theorem isiW_1 : isiW T [x] Q = (isPlainTy x = true ∧ Q (.val (.bl (tyN x == T || (tyN x == "bool" && T == "int"))))) := rfl
theorem optI_n {Z : Option Int → Prop} : optI [] Z = Z none := rfl
theorem optI_s {Z : Option Int → Prop} : optI [.int i] Z = Z (some i) := rfl
theorem truW_b : truW (.bl b) P = P b := rfl
theorem truW_i : truW (.int i) P = P (i != 0) := rfl
theorem truW_l : truW (.lst xs) P = P (!xs.isEmpty) := rfl
theorem truW_t : truW (.tup xs) P = P (!xs.isEmpty) := rfl
theorem truW_n : truW .non P = P false := rfl
theorem itW_l : itW .seq [.lst xs] R = R xs := rfl
theorem itW_t : itW .seq [.tup xs] R = R xs := rfl
theorem itW_r1 : itW .range1 [.int i] R = (B62 i ∧ R (rgD 0 i.toNat)) := rfl
theorem itW_r2 : itW .range2 [.int i, .int j] R = ((B62 i ∧ B62 j) ∧ R (rgD i (j - i).toNat)) := rfl
theorem itW_r3 {l : Int} : itW .range3 [.int i, .int j, .int l] R = ∃ n : Nat, L2.RgC i j l n ∧ R ((List.range n).map fun k => D.int (i + (k : Nat) * l)) := rfl
theorem strW_i : strW [.int i] Q = (i.natAbs.log2 < 1920 ∧ Q (.val (.str (Str.ofString (toString i))))) := rfl
theorem itW_el : itW .enum [.lst xs] R = R (xs.zipIdx.map fun p => D.tup [.int (p.2 : Nat), p.1]) := rfl
theorem itW_et : itW .enum [.tup xs] R = R (xs.zipIdx.map fun p => D.tup [.int (p.2 : Nat), p.1]) := rfl
theorem itW_zl : itW .zip [.lst xs, .lst ys] R = R ((xs.zip ys).map fun p => D.tup [p.1, p.2]) := rfl
theorem itW_zt : itW .zip [.tup xs, .tup ys] R = R ((xs.zip ys).map fun p => D.tup [p.1, p.2]) := rfl
theorem itW_vl : itW .rev [.lst xs] R = R xs.reverse := rfl
theorem itW_vt : itW .rev [.tup xs] R = R xs.reverse := rfl
theorem tgW_n {n : Nat} : tgW (.nm n) x ρ S = S (ρ.set n (some (.val x))) := rfl
theorem tgW_t {is : List Nat} : tgW (.tp is) (.tup xs) ρ S = (xs.length = is.length ∧ S (setAll ρ is xs)) := rfl
theorem setAll_c {n : Nat} {is : List Nat} : setAll ρ (n :: is) (x :: xs) = setAll (ρ.set n (some (.val x))) is xs := rfl
theorem setAll_n : setAll ρ [] [] = ρ := rfl
end
theorem fnW_mk {Γ : Tab} {f : Str} {sp : FSp} {ds : List D} {Q : QS} {X : QX} (h : Γ.sp f = some sp) (k : sp ds Q X) : fnW Γ f ds Q X := by
  unfold fnW
  rw [h]
  exact k
theorem WSs_c {Γ : Tab} {s : MS} {ss : List MS} {ρ : Env} {E : PEnds} : WSs Γ (s :: ss) ρ E = WS Γ s ρ { E with nx := fun ρ' => WSs Γ ss ρ' E } := by rw [WSs]
theorem WSs_n {Γ : Tab} {ρ : Env} {E : PEnds} : WSs Γ [] ρ E = E.nx ρ := by rw [WSs]
/-- a loop by its invariant -/
theorem forW_inv {step : D → Env → (Env → Prop) → Prop} {nx : Env → Prop} (I : List D → Env → Prop) (h0 : ∀ ρ, I [] ρ → nx ρ) (hs : ∀ d ds ρ, I (d :: ds) ρ → ∀ k : Env → Prop, (∀ ρ', I ds ρ' → k ρ') → step d ρ k) : ∀ (ds : List D) (ρ : Env), I ds ρ → forW step nx ds ρ
  | [], ρ, h => h0 ρ h
  | d :: ds, ρ, h => hs d ds ρ h _ fun ρ' h' => forW_inv I h0 hs ds ρ' h'
/-- a comprehension by its invariant (items to come, items made) -/
theorem lcW_inv {step : D → (Option D → Prop) → Prop} {Q : QS} (I : List D → List D → Prop) (h0 : ∀ acc, I [] acc → Q (.own acc)) (hs : ∀ d ds acc, I (d :: ds) acc → ∀ k : Option D → Prop, (∀ y, acc.length < LIM → I ds (acc ++ [y]) → k (some y)) → (I ds acc → k none) → step d k) (hl : ∀ ds acc, I ds acc → acc.length < LIM) : ∀ (ds acc : List D), I ds acc → lcW step Q ds acc
  | [], acc, h => h0 acc h
  | d :: ds, acc, h => hs d ds acc h _ (fun y hy h' => ⟨hy, lcW_inv I h0 hs hl ds (acc ++ [y]) h'⟩) fun h' => lcW_inv I h0 hs hl ds acc h'
theorem rgD_nat (n : Nat) : rgD 0 n = (List.range n).map fun i => D.int (i : Nat) := by
  unfold rgD
  apply List.map_congr_left
  intro i _
  rw [Int.zero_add]
/-- a comprehension of numbers, each as it may be -/
theorem lcW_ints {step : D → (Option D → Prop) → Prop} {Q : QS} (P : Int → Prop) : ∀ (ds : List D) (acc : List Int), acc.length + ds.length ≤ LIM → (∀ d ∈ ds, ∀ k : Option D → Prop, (∀ x, P x → k (some (.int x))) → step d k) →
    (∀ zs : List Int, zs.length = ds.length → (∀ z ∈ zs, P z) → Q (.own ((acc ++ zs).map D.int))) → lcW step Q ds (acc.map D.int)
  | [], acc, _, _, h => by
    have := h [] rfl (fun _ z => nomatch z)
    rw [List.append_nil] at this
    exact this
  | d :: ds, acc, hl, hs, h => by
    rw [lcW]
    refine hs d List.mem_cons_self _ fun x hx => ⟨by rw [List.length_map]; simp at hl; omega, ?_⟩
    have := lcW_ints P ds (acc ++ [x]) (by simp at hl ⊢; omega) (fun d' hd' => hs d' (List.mem_cons_of_mem _ hd')) (fun zs hz hp => by
      have := h (x :: zs) (by simp [hz]) (fun z hz' => by
        rcases List.mem_cons.mp hz' with rfl | hz'
        · exact hx
        · exact hp z hz')
      rw [List.append_assoc]
      exact this)
    rw [List.map_append] at this
    exact this
/-- a comprehension over range(n), each item told -/
theorem lcW_range {step : D → (Option D → Prop) → Prop} {Q : QS} {f : Nat → D} {n : Nat} (hn : n ≤ LIM) (hs : ∀ i, i < n → ∀ k : Option D → Prop, k (some (f i)) → step (.int (i : Nat)) k) (h : Q (.own ((List.range n).map f))) : lcW step Q (rgD 0 n) [] := by
  have key : ∀ m j, j + m = n → lcW step Q ((List.range' j m).map fun i => D.int (i : Nat)) ((List.range j).map f) := by
    intro m
    induction m with
    | zero =>
      intro j e
      have : j = n := by omega
      subst this
      exact h
    | succ m ih =>
      intro j e
      rw [List.range'_succ, List.map_cons, lcW]
      refine hs j (by omega) _ ⟨by simp; omega, ?_⟩
      have := ih (j + 1) (by omega)
      rw [List.range_succ, List.map_append] at this
      exact this
  rw [rgD_nat, List.range_eq_range']
  exact key n 0 (by omega)
end PL

namespace PL
open PySem PySem.Spec PyProof.Rows L2
/-! ## a law's defs, put together -/
abbrev tabOf (l : List (Str × FSp)) (frees : List Str) (gi : List (Str × Int)) (gt : List (Str × List Int)) (ex : List Str) : Tab := ⟨fun x => l.lookup x, frees, gi, gt, ex, ex.map fun x => ((x, x), true)⟩
def methE (c : Stmt) (i : Nat) : Stmt := match c with
  | .ClassDef (body := b) .. => b.getD i (.Pass ⟨0, 0, 0, 0⟩)
  | _ => .Pass ⟨0, 0, 0, 0⟩
/-- a def that keeps its contract, under its name -/
def FE (P : Program) (w : World) (K : PySem.W.Frag) (mg : Str → Option Value) (base : Heap) (k : Nat) (f : Str) (sp : FSp) : Prop :=
  ∃ (a : Addr) (fd : FuncData) (ps : List Str), FnOk P w K mg base (L2.CX P w) k a fd ps (liftD K mg sp) ∧ mg f = some (.ref a) ∧ PySem.W.keepIn K (.ref a) = true ∧ Binds K fd ps []
section
variable {P : Program} {w : World} {K : PySem.W.Frag} {mg : Str → Option Value} {base : Heap}
theorem FE.mono {j k : Nat} {f : Str} {sp : FSp} (h : FE P w K mg base j f sp) (hk : j ≤ k) : FE P w K mg base k f sp := by
  obtain ⟨a, fd, ps, F, h2, h3, h4⟩ := h
  exact ⟨a, fd, ps, F.mono hk, h2, h3, h4⟩
theorem RzOk.mono {j k : Nat} {C : Str} (h : RzOk P w K mg base j C) (hk : j ≤ k) : RzOk P w K mg base k C := by
  obtain ⟨Ca, h1, h2, h3, h4, fI, fd, k1, h5, h6, h7, h8, h9⟩ := h
  exact ⟨Ca, h1, h2, h3, h4, fI, fd, k1, h5, h6, h7, Nat.le_trans h8 hk, h9⟩
/-- what the module's names hold -/
structure Nm (K : PySem.W.Frag) (mg : Str → Option Value) (fr : List Str) (gi : List (Str × Int)) (gt : List (Str × List Int)) : Prop where
  fr : ∀ x ∈ fr, mg x = none
  gi : ∀ x i, (x, i) ∈ gi → ∃ t, mg x = some (.int i t)
  gt : ∀ x ns, (x, ns) ∈ gt → ∃ a, mg x = some (.ref a) ∧ ∀ H, SqT K H a (ns.map V.int)
theorem gok {k : Nat} {l : List (Str × FSp)} {fr fr' : List Str} {gi gi' : List (Str × Int)} {gt gt' : List (Str × List Int)} {ex : List Str} (n : Nm K mg fr gi gt) (h1 : ∀ x ∈ fr', x ∈ fr) (h2 : ∀ x ∈ gi', x ∈ gi) (h3 : ∀ x ∈ gt', x ∈ gt) (hf : ∀ p ∈ l, FE P w K mg base k p.1 p.2) (he : ∀ C ∈ ex, RzOk P w K mg base k C)
    (hx : ∀ C ∈ ex, ∃ Cx : Addr, mg C = some (.ref Cx) ∧ PySem.W.exmOne K (.ref Cx) (.ref Cx) = some true) : GOk (tabOf l fr' gi' gt' ex) P w K mg base k where
  fn := fun f sp e => hf _ (mem_lk e)
  fr := fun x hx => n.fr x (h1 x hx)
  gi := fun x i hx => n.gi x i (h2 _ hx)
  gt := fun x ns hx => n.gt x ns (h3 _ hx)
  ex := he
  xm := fun x y b hm => by
    obtain ⟨Cn, hC, e⟩ := List.mem_map.mp hm
    simp only [Prod.mk.injEq] at e
    obtain ⟨⟨rfl, rfl⟩, rfl⟩ := e
    obtain ⟨Cx, a, b⟩ := hx _ hC
    exact ⟨Cx, Cx, a, a, b⟩
/-- a def of the module: checked, its text read -/
theorem fe_of {Γ : Tab} {f : Str} {params : Arguments} {body : List Stmt} {scope : Scope} {fd : FuncData} {N ps : List Str} {k : Nat} {sp : FSp} {ms : List MS} (F : FunD K f f params body scope [] [] (He.ga K f) fd) (mf : mg f = some (.ref (He.ga K f))) (b : Binds K fd ps []) (g : GOk Γ P w K mg base k)
    (S : okSc N ps scope = true) (hc : chkSs Γ ms (fnC N scope) body = true) (hp : ∀ ds Q X, sp ds Q X → ds.length = ps.length ∧ WSs Γ ms (mkEnv N.length ds) (fnEnds Q X)) (hgd : ¬ ("repr" : Str) ∈ Γ.frees := by decide +kernel) : FE P w K mg base (k + 1) f sp :=
  ⟨_, fd, ps, fn_ok F g S hc hp hgd, mf, F.kp, b⟩
end
/-- the facts by names, as one look -/
def nmB (K : PySem.W.Frag) (gl fr : List Str) (gi : List (Str × Int)) (gt : List (Str × List Int)) : Bool := gl.all (fun x => (He.Fa.glo x).ok K) && (fr.all (fun x => (He.Fa.free x).ok K) && (gi.all (fun p => (He.Fa.int p.1 p.2).ok K) && gt.all fun p => (He.Fa.glo p.1).ok K && He.tupB K p.1 (p.2.map He.Dv.int)))
theorem nmB_ok {K : PySem.W.Frag} {h : Heap} {mg : Str → Option Value} {gl fr : List Str} {gi : List (Str × Int)} {gt : List (Str × List Int)} (X : K.In h) (G : h.Ns mainGlobals mg) (c : nmB K gl fr gi gt = true) : (∀ x ∈ gl, mg x = some (.ref (He.ga K x))) ∧ Nm K mg fr gi gt := by
  obtain ⟨c1, c⟩ := He.ba c
  obtain ⟨c2, c⟩ := He.ba c
  obtain ⟨c3, c4⟩ := He.ba c
  rw [List.all_eq_true] at c1 c2 c3 c4
  refine ⟨fun x hx => He.glo_ok X G (c1 x hx), fun x hx => He.free_ok X G (c2 x hx), fun x i hx => He.int_ok X G (c3 _ hx), fun x ns hx => ?_⟩
  obtain ⟨d1, d2⟩ := He.ba (c4 _ hx)
  refine ⟨_, He.glo_ok X G d1, fun H => ?_⟩
  have := He.tupB_ok d2 H
  rw [List.map_map] at this
  exact this
theorem FnOk_cx0 {P : Program} {w : World} {K : PySem.W.Frag} {mg : Str → Option Value} {base : Heap} {k : Nat} {f : Addr} {fd : FuncData} {ps : List Str} {sp : Sp} (F : FnOk P w K mg base (L2.CX P w) k f fd ps sp) : FnOk P w K mg base L2.CX0 k f fd ps (fun vs H Q _ => sp vs H Q L2.E0) :=
  ⟨fun vs H Q E h => F.len vs H Q _ h, fun A outer s H args us vs Q E hr he hb hv hs => codeAny_mono (F.run A outer s H args us vs Q _ hr he hb hv hs) fun r s' h => by
    cases r with
    | error e =>
      obtain ⟨_, _, _, _, _, _, _, _, _, _, _, _, z⟩ := h
      exact z.elim
    | ok fl => cases fl <;> exact h⟩
/-- a law's def, called with its script -/
theorem law_sp {K : PySem.W.Frag} {mg : Str → Option Value} {H : Hp} {a : Addr} {ns : List Int} {sp : FSp} (hS : SqL K H a (ns.map V.int)) (h : ∀ (Q : QS) (X : QX), Q (.val (.bl true)) → sp [.scr ns] Q X) : liftD K mg sp [.ref a] H (fun v _ => v = .bl true) L2.E0 :=
  ⟨⟨H, []⟩, [.scr ns], fun r => r = .val (.bl true), fun _ => False, ⟨Same.refl _, (fun _ z => nomatch z), (fun _ z => nomatch z), .nil⟩, .cons (.scr hS) .nil, h _ _ rfl, fun v H' ⟨W', r, _, _, s, _, e⟩ => by
    subst e
    cases (show Den K mg W' v (.bl true) from s)
    rfl, fun _ _ _ _ _ _ _ _ z => z.elim⟩
end PL

namespace PL
open PySem PySem.Spec PyProof.Rows L2
/-! ## the law's own call: no text is under way, so repr shows all -/
/-- the law, called from outside -/
def RunC (P : Program) (w : World) (K : PySem.W.Frag) (mg : Str → Option Value) (base : Heap) (k : Nat) (f : Addr) (fd : FuncData) (x : Str) (sp : FSp) : Prop := ∀ (t : Shared) (H : Hp) (a : Addr) (Q : VK), Room k callerA → Env0 P w K mg base callerA [] t H →
  BindsTo t fd ⟨[.ref a], []⟩ [(x, .ref a)] → liftD K mg sp [.ref a] H Q L2.E0 → codeAny (model P w) callerA (.call (.ref f) ⟨[.ref a], []⟩) (CR L2.CX0 [] P w H t Q L2.E0) t
section
variable {Γ : Tab} {P : Program} {w : World} {K : PySem.W.Frag} {mg : Str → Option Value} {base : Heap} {x qual : Str} {params : Arguments} {body : List Stmt} {scope : Scope} {dvs : List V} {kws : List (Str × V)} {f : Addr} {fd : FuncData}
    {N : List Str} {k : Nat} {sp : FSp} {ms : List MS} {arg : Str}
theorem xs_at (g : GOk Γ P w K mg base k) {cdv : Value} {A : Around} (hA : A.guards = some []) {outer : List PySem.Env} {t : Shared} {H : Hp} {E : XK} (S' : FnScope N [arg] scope) (hr : Room k (A.deeper (envOfC qual scope t.heap.objs.size f cdv))) : XS Γ k (fnC N scope) (cxOf (L2.CX P w) P w K mg base N qual scope f cdv A outer t H E) (fun cls d _ H => E cls d H) where
  xo := { N := rfl, nd := S'.nd, sc := rfl, calm := fun _ => rfl, tk := takes_of rfl rfl rfl rfl, rm := hr, g := g, fn := fun _ _ => rfl, gd := fun _ => hA }
  cal := rfl
  po := passes_of rfl
  kd := S'.kind
  stk := rfl
  frm := rfl
theorem run_c (F : FunD K x qual params body scope dvs kws f fd) (g : GOk Γ P w K mg base k) (S : okSc N [arg] scope = true) (hc : chkSs Γ ms (fnC N scope) body = true)
    (hp : ∀ ds Q X, sp ds Q X → ds.length = [arg].length ∧ WSs Γ ms (mkEnv N.length ds) (fnEnds Q X)) : RunC P w K mg base (k + 1) f fd arg sp := by
  intro t H a Q rm en bd ⟨W, ds, Qp, Xp, ok, dn, h, q, qx⟩
  have S' := okSc_by S
  obtain ⟨oc, od, dV, kV, doc, pm, an, cdv, ct, osl, rfl, lk, hcd, _⟩ := F.ex
  have kin : K.In t.heap := en.mod.kin.keeps fun b o e => (en.bs b o e).1
  have names : ∀ y ∈ [(arg, Value.ref a)], scope.names.lookup y.1 = some .local ∨ scope.names.lookup y.1 = some .cell ∧ ((cellsFrom (t.heap.objs.size + 1) scope.names []).lookup y.1).isSome = true := by
    intro y hy
    rw [List.mem_singleton.mp hy]
    exact (S'.par arg List.mem_cons_self).imp id fun c => ⟨c, PySem.W.cellsFrom_some _ _ _ (.inl c)⟩
  refine codeAny_mono (codeAny_call_function rm.depth (kin _ _ lk) rfl S'.co S'.gen rfl (PySem.W.codeRec_of kin hcd) (bd _ _ _ _ (wpAny_newFunctionEnv_cells S'.kind names fun env he s1 ic => ?_))) (R := CR (L2.CX P w) [] P w H t Q L2.E0) fun r s' z => ?_
  · subst he
    refine ⟨en.mod.nolimit.keeps (fun b o e => (ic.toInCall.keep _ _ (en.bs b o e).1)), codeAny_func ?_⟩
    obtain ⟨rd, pt, ht⟩ := soundSs ms _ body hc _ _ (xs_at (qual := qual) (f := f) (cdv := cdv) (outer := []) (t := t) (H := H) (E := L2.E0) g (A := callerA) rfl S' (rm.deeper _))
    have post := ht W W H W H _ _ _ { nx := fun _ H' => Q .non H', rt := Q } ⟨ok, .refl _ _, env_start N dn, own_start, .refl _⟩ (hp ds Qp Xp h).2 ⟨fun W' H' σ ρ st hq => (q .non H' ((Out.now st.ok .non hq).after st.ok st.g)), fun v H' o => q v H' o, fun _ _ _ _ _ z => z.elim, fun _ _ _ _ _ z => z.elim, fun ex W' H' cls d σ ρ st e hx => qx ex W' H' cls d st.ok st.g e hx⟩
    refine wpAny_mono (pt.run [] s1 (start N [.ref a]) H _ (inv_start S' rm.hd en rfl (.cons rfl .nil) ic) post) (fun fl s' hs => ?_) fun e s' hs => hs
    cases fl with
    | ret u =>
      obtain ⟨v, σ', H', J, rv, z⟩ := hs
      exact ⟨v, H', J.os, J.bare, J.base, J.hok, rv, z⟩
    | next =>
      obtain ⟨σ', H', J, z⟩ := hs
      exact ⟨.non, H', J.os, J.bare, J.base, J.hok, rfl, z⟩
    | brk =>
      obtain ⟨_, _, _, z⟩ := hs
      exact z.elim
    | cont =>
      obtain ⟨_, _, _, z⟩ := hs
      exact z.elim
  · cases r with
    | error e =>
      obtain ⟨_, _, _, _, _, _, _, _, _, _, _, _, y⟩ := z
      exact y.elim
    | ok fl => cases fl <;> exact z
end
/-- the script alone is tracked, or nothing -/
def Scr (K : PySem.W.Frag) (t : Heap) (a : Addr) (H : Hp) : Prop := ∀ b u, H b = some u → b = a ∧ K.lookup a = none ∧ ∃ (o : Obj) (us : Array Value) (n : Nat) (xs : List V), o.data = .seq us n ∧ t.get? a = some o ∧ u = .frz o (.lst xs)
section
variable {P : Program} {w : World} {K : PySem.W.Frag} {mg mb : Str → Option Value} {k : Nat} {f a : Addr} {fd : FuncData} {x : Str} {sp : FSp} {t : Shared} {H : Hp}
theorem Scr.out (sc : Scr K t.heap a H) {b : Addr} {o : Obj} (e : t.heap.get? b = some o) (h : (∃ es ep, o.data = .dict es ep) ∨ K.lookup b = some o) : H b = none := by
  cases q : H b with
  | none => rfl
  | some u =>
    obtain ⟨rfl, kn, o2, us, n, xs, d, e2, _⟩ := sc b u q
    rcases h with ⟨es, ep, d2⟩ | h
    · rw [e] at e2
      cases e2
      rw [d] at d2
      cases d2
    · rw [kn] at h
      cases h
theorem Scr.ns (sc : Scr K t.heap a H) {b : Addr} {m : Str → Option Value} : t.heap.Ns b m → (hidT t.heap H).Ns b m
  | ⟨o, es, ep, e, d, r⟩ => ⟨o, es, ep, hidT_get e (sc.out e (.inl ⟨es, ep, d⟩)), d, r⟩
theorem call_scr (sc : Scr K t.heap a H) (hok : HOk P w H t.heap) (kx : K.In t.heap) (nm : t.heap.Ns mainGlobals mg) (nb : t.heap.Ns builtinsNs mb) (bb : ∀ y : Str, y ≠ "__name__" → mb y = bootBuiltins y) (nl : t.heap.NoLimit) (ge : t.gens = #[])
    (rm : Room k callerA) (F : ∀ base : Heap, K.In base → base.Ns mainGlobals mg → RunC P w K mg base k f fd x sp) (bd : ∀ (s : Shared) (u : Value), BindsTo s fd ⟨[u], []⟩ [(x, u)])
    (pr : liftD K mg sp [.ref a] H (fun v _ => v = .bl true) L2.E0) :
    codeAny (model P w) callerA (.call (.ref f) ⟨[.ref a], []⟩) (fun r s' => r = .ok (.ret (.bool true)) ∧ OldK t.heap s'.heap ∧ s'.os = t.os ∧ AllBare s'.gens) t := by
  have kb : K.In (hidT t.heap H) := fun b o l => hidT_get (kx b o l) (sc.out (kx b o l) (.inr l))
  have md : Mod K mg (hidT t.heap H) := ⟨kb, sc.ns nm, ⟨mb, sc.ns nb, bb⟩, nl.elim fun mc z => ⟨mc, sc.ns z.1, z.2⟩⟩
  have en : Env0 P w K mg (hidT t.heap H) callerA [] t H := { frames := rfl, mod := md, bs := fun _ _ e => of_hidT e, bsz := Nat.le_of_eq (hidT_size _ _), funs := trivial, frf := (fun _ z => nomatch z), hok := hok, bare := .of_eq ge }
  refine codeAny_mono (F _ kb (sc.ns nm) t H a _ rm en (bd _ _) pr) fun r s' z => ?_
  cases r with
  | error e => exact z.elim
  | ok fl =>
    cases fl with
    | ret u =>
      obtain ⟨v, H', z1, z2, un, ho, rv, rfl⟩ := z
      refine ⟨congrArg (fun y => Except.ok (Flow.ret y)) rv, OldK.of_keep fun b o e => ?_, z1, z2⟩
      cases q : H b with
      | none => exact un.keep b o e q (fun y => nomatch y) (fun y => nomatch y)
      | some u2 =>
        obtain ⟨rfl, _, o2, us, n, xs, _, e2, rfl⟩ := sc b u2 q
        have old := (hok b _ q).1
        rw [e] at old
        cases old
        exact (ho b _ (un.frzs b _ _ q)).1
    | next => exact z.elim
    | brk => exact z.elim
    | cont => exact z.elim
end
/-- the head of a law whose text shows data by repr -/
theorem walk_c {l : PySem.W.OpenLaw} {n k : Nat} {q : Program} {loose : List Str} {XP : (Str → Option Value) → Heap → Prop} {YP : World → Heap → Prop} {d : DefRec} {x : Str} {sp : FSp} (hn : l.most = some n) (hn2 : n ≤ sizeLine) (hdf : d.params.defaults = []) (rm : Room k callerA)
    (F : ∀ (w : World) (mg : Str → Option Value) (fa : Addr) (h : Heap), YP w h → h.Ns mainGlobals mg → mg d.name = some (.ref fa) → ∃ (K : PySem.W.Frag) (fd : FuncData), K.In h ∧ (∀ (s : Shared) (u : Value), BindsTo s fd ⟨[u], []⟩ [(x, u)]) ∧
      (∀ (ns : List Int) (Q : QS) (X : QX), ns.length ≤ n → Q (.val (.bl true)) → sp [.scr ns] Q X) ∧ ∀ base : Heap, K.In base → base.Ns mainGlobals mg → RunC l.prog w K mg base k fa fd x sp) :
    PySem.W.WalkO q loose XP YP l.row.toRowW d [] (fun f vs => PySem.call f vs) := by
  refine Att.attach_call hn hdf fun w s₀ t mg mb fa o pm cd doc a vs ns G Y _ _ _ hmg ho hi hlen ge => ?_
  obtain ⟨K, fd, kx, bd, pr, F⟩ := F w mg fa _ Y G.T.g hmg
  have rv := vals_ints hi
  have lv := hi.length
  have hl : ns.length ≤ sizeLine := Nat.le_trans hlen hn2
  by_cases hk : ∃ u, K.lookup a = some u
  · obtain ⟨u, hk⟩ := hk
    have e := kx a u hk
    rw [ho] at e
    cases e
    have hS : SqL K (fun _ => none) a (ns.map V.int) := .inr ⟨_, vs.toArray, _, hk, rfl, rfl, rfl, by rw [List.size_toArray, lv]; exact hl, by simpa using rv⟩
    exact call_scr (H := fun _ => none) (fun _ _ z => nomatch z) (fun _ _ z => nomatch z) kx G.T.g G.T.b G.T.builtins G.T.nolimit ge rm F bd (law_sp hS fun Q X h => pr ns Q X hlen h)
  · have hk : K.lookup a = none := by
      cases z : K.lookup a with
      | none => rfl
      | some u => exact absurd ⟨u, z⟩ hk
    let H : Hp := upd (fun _ => none) a (.frz { cls := .type "list", data := .seq vs.toArray } (.lst (ns.map V.int)))
    have at_ : ∀ b u, H b = some u → b = a ∧ u = .frz { cls := .type "list", data := .seq vs.toArray } (.lst (ns.map V.int)) := fun b u z => by
      by_cases hb : b = a
      · subst hb
        have z2 : upd (fun _ => none) b (.frz { cls := .type "list", data := .seq vs.toArray } (.lst (ns.map V.int))) b = some u := z
        rw [upd_same] at z2
        cases z2
        exact ⟨rfl, rfl⟩
      · have z2 : upd (fun _ => none) a (.frz { cls := .type "list", data := .seq vs.toArray } (.lst (ns.map V.int))) b = some u := z
        rw [upd_ne hb] at z2
        cases z2
    have hS : SqL K H a (ns.map V.int) := .inl (.inr ⟨_, upd_same⟩)
    refine call_scr (H := H) (fun b u z => ?_) (fun b u z => ?_) kx G.T.g G.T.b G.T.builtins G.T.nolimit ge rm F bd (law_sp hS fun Q X h => pr ns Q X hlen h)
    · obtain ⟨rfl, rfl⟩ := at_ b u z
      exact ⟨rfl, hk, _, vs.toArray, _, _, rfl, ho, rfl⟩
    · obtain ⟨rfl, rfl⟩ := at_ b u z
      exact ⟨ho, by rw [List.length_map]; exact hl, vs, _, rv, ho⟩
end PL

namespace PL
open PySem PySem.Spec PyProof.Rows L2
/-! ## what is still to be read, in a box that the kernel leaves shut -/
structure Box (P : Prop) : Prop where
  out : P
theorem box_eq {P : Prop} : Box P = P := propext ⟨Box.out, Box.mk⟩
theorem box_f {Γ : Tab} {ss : List MS} {E : PEnds} : (fun ρ' => Box (WSs Γ ss ρ' E)) = fun ρ' => WSs Γ ss ρ' E := by
  funext ρ'
  exact box_eq
theorem WSs_cB {Γ : Tab} {s : MS} {ss : List MS} {ρ : Env} {E : PEnds} : WSs Γ (s :: ss) ρ E = WS Γ s ρ { E with nx := fun ρ' => Box (WSs Γ ss ρ' E) } := by
  rw [WSs_c, box_f]
section
variable {Γ : Tab} {ρ : Env} {E : PEnds}
theorem WS_raise {C : Str} {e : ME} : WS Γ (.raise_ C e) ρ E = WE Γ e ρ (fun r => E.X ⟨C, [("name", r.d)]⟩ ρ) (fun ex => E.X ex ρ) := by rw [WS]
theorem WS_try {b : List MS} {C : Str} {i : Option Nat} {h : HX} : WS Γ (.tryR b C i h) ρ E = Box (WSs Γ b ρ { E with X := fun ex ρ' => i.getD 0 < ρ'.length ∧ exmW Γ ex.cls C fun k => if k = true then hW h ex E.rt else E.X ex ρ' }) := by rw [WS, box_eq]
theorem WS_frz {i : Nat} : WS Γ (.frz i) ρ E = slW ρ i fun s => E.nx (ρ.set i (some (.val s.d))) := by rw [WS]
theorem WS_set {i : Nat} {e : ME} : WS Γ (.set i e) ρ E = WE Γ e ρ (fun r => E.nx (ρ.set i (some r))) (fun ex => E.X ex ρ) := by rw [WS]
theorem WS_setT {tg : Tg} {e : ME} : WS Γ (.setT tg e) ρ E = WE Γ e ρ (fun r => tgW tg r.d ρ E.nx) (fun ex => E.X ex ρ) := by rw [WS]
theorem WS_par2 {i j : Nat} {a b : ME} : WS Γ (.par2 i j a b) ρ E = WE Γ a ρ (fun x => WE Γ b ρ (fun y => E.nx ((ρ.set i (some x)).set j (some y))) (fun ex => E.X ex ρ)) (fun ex => E.X ex ρ) := by rw [WS]
theorem WS_par3 {i j l : Nat} {a b c : ME} : WS Γ (.par3 i j l a b c) ρ E = WE Γ a ρ (fun x => WE Γ b ρ (fun y => WE Γ c ρ (fun z => E.nx (((ρ.set i (some x)).set j (some y)).set l (some z))) (fun ex => E.X ex ρ)) (fun ex => E.X ex ρ)) (fun ex => E.X ex ρ) := by rw [WS]
theorem WS_aug {i : Nat} {o : Op} {e : ME} : WS Γ (.aug i o e) ρ E = slW ρ i fun s => argW Γ e ρ (fun y => opI o s.d y fun r => E.nx (ρ.set i (some r))) (fun ex => E.X ex ρ) := by rw [WS]
theorem WS_expr {e : ME} : WS Γ (.expr e) ρ E = WE Γ e ρ (fun _ => E.nx ρ) (fun ex => E.X ex ρ) := by rw [WS]
theorem WS_ret {e : ME} : WS Γ (.ret e) ρ E = WE Γ e ρ E.rt (fun ex => E.X ex ρ) := by rw [WS]
theorem WS_retv {i : Nat} : WS Γ (.retv i) ρ E = slW ρ i E.rt := by rw [WS]
theorem WS_retN : WS Γ .retN ρ E = E.rt (.val .non) := by rw [WS]
theorem WS_if {c : ME} {a b : List MS} : WS Γ (.if_ c a b) ρ E = WT Γ c ρ (fun k => if k = true then Box (WSs Γ a ρ E) else Box (WSs Γ b ρ E)) (fun ex => E.X ex ρ) := by
  rw [WS]
  simp only [box_eq]
theorem WS_for {tg : Tg} {ik : IK} {its : List ME} {b : List MS} : WS Γ (.for_ tg ik its b) ρ E = WLs Γ its ρ (fun ds => itW ik ds fun items =>
      forW (fun d ρ nx => tgW tg d ρ fun ρ' => Box (WSs Γ b ρ' { E with nx := nx, ct := nx, bk := E.nx })) E.nx items ρ) (fun ex => E.X ex ρ) := by
  rw [WS]
  simp only [box_eq]
theorem WS_while {c : ME} {b : List MS} : WS Γ (.while_ c b) ρ E = ∃ I : Nat → Env → Prop, (∃ m, I m ρ) ∧ ∀ m ρ, I m ρ → WT Γ c ρ (fun k => if k = true then
      Box (WSs Γ b ρ { E with nx := fun ρ' => ∃ m', m' < m ∧ I m' ρ', ct := fun ρ' => ∃ m', m' < m ∧ I m' ρ', bk := E.nx }) else E.nx ρ) (fun ex => E.X ex ρ) := by
  rw [WS]
  simp only [box_eq]
theorem WS_brk : WS Γ .brk ρ E = E.bk ρ := by rw [WS]
theorem WS_cont : WS Γ .cont ρ E = E.ct ρ := by rw [WS]
theorem WS_pass : WS Γ .pass ρ E = E.nx ρ := by rw [WS]
theorem WS_doc : WS Γ .doc ρ E = E.nx ρ := by rw [WS]
theorem WS_append {i : Nat} {e : ME} : WS Γ (.append i e) ρ E = ownW ρ i fun xs => WE Γ e ρ (fun r => xs.length < LIM ∧ E.nx (ρ.set i (some (.own (xs ++ [r.d]))))) (fun ex => E.X ex ρ) := by rw [WS]
def extW (xs : List D) (d : D) (Q : List D → Prop) : Prop := match d with
  | .lst ys => xs.length + ys.length ≤ LIM ∧ Q (xs ++ ys)
  | .tup ys => xs.length + ys.length ≤ LIM ∧ Q (xs ++ ys)
  | _ => False
theorem extW_l {xs ys : List D} {Q : List D → Prop} : extW xs (.lst ys) Q = (xs.length + ys.length ≤ LIM ∧ Q (xs ++ ys)) := by rw [extW]
theorem extW_t {xs ys : List D} {Q : List D → Prop} : extW xs (.tup ys) Q = (xs.length + ys.length ≤ LIM ∧ Q (xs ++ ys)) := by rw [extW]
theorem WS_extend {i : Nat} {e : ME} : WS Γ (.extend i e) ρ E = ownW ρ i fun xs => argW Γ e ρ (fun d => extW xs d fun ys => E.nx (ρ.set i (some (.own ys)))) (fun ex => E.X ex ρ) := by
  rw [WS]
  rfl
theorem WS_popx {i : Nat} : WS Γ (.popx i) ρ E = ownW ρ i fun xs => xs ≠ [] ∧ E.nx (ρ.set i (some (.own xs.dropLast))) := by rw [WS]
theorem WS_setix {i : Nat} {ix e : ME} : WS Γ (.setix i ix e) ρ E = ownW ρ i fun xs => WE Γ e ρ (fun r => argW Γ ix ρ (fun d => ixW xs d fun j => E.nx (ρ.set i (some (.own (xs.set j r.d))))) (fun ex => E.X ex ρ)) (fun ex => E.X ex ρ) := by rw [WS]
theorem WS_setd {i : Nat} {ix e : ME} : WS Γ (.setd i ix e) ρ E = dicW ρ i fun t kvs => WE Γ e ρ (fun r => argW Γ ix ρ (fun d => (keyFits t d = true ∧ kvs.length < LIM) ∧ E.nx (ρ.set i (some (.ownd t (putD kvs d r.d))))) (fun ex => E.X ex ρ)) (fun ex => E.X ex ρ) := by rw [WS]
theorem WS_insert {i : Nat} {es : List ME} : WS Γ (.insert i es) ρ E = ownW ρ i fun xs => WLs Γ es ρ (fun ds => insW xs ds fun ys => E.nx (ρ.set i (some (.own ys)))) (fun ex => E.X ex ρ) := by rw [WS]
theorem insW_2 {xs : List D} {n : Int} {d : D} {Q : List D → Prop} : insW xs [.int n, d] Q = (xs.length < LIM ∧ (0 ≤ n ∧ n < 9223372036854775808) ∧ Q (xs.take n.toNat ++ [d] ++ xs.drop n.toNat)) := rfl
theorem WS_rvs {i : Nat} : WS Γ (.rvs i) ρ E = ownW ρ i fun xs => E.nx (ρ.set i (some (.own xs.reverse))) := by rw [WS]
theorem WS_popset {tg : Tg} {i : Nat} {n : Option Nat} : WS Γ (.popset tg i n) ρ E = ownW ρ i fun xs => popD xs n fun d ys => tgW tg d (ρ.set i (some (.own ys))) E.nx := by rw [WS]
theorem WS_augix {i : Nat} {o : Op} {ix e : ME} : WS Γ (.augix i o ix e) ρ E = ownW ρ i fun xs => argW Γ ix ρ (fun d => ixW xs d fun j => optP xs[j]? fun x => argW Γ e ρ (fun y => opI o x y fun r => E.nx (ρ.set i (some (.own (xs.set j r.d))))) (fun ex => E.X ex ρ)) (fun ex => E.X ex ρ) := by rw [WS]
end
end PL

namespace PL
open PySem PySem.Spec PyProof.Rows L2
/-! ## _law_stream: a row of numbers that is read from left to right -/
def rowOk1 (n : Int) (xs : List Int) : Prop := 1 ≤ n ∧ n ≤ xs.length + 1 ∧ ∀ x ∈ xs, 0 ≤ x
/-- as the text makes it -/
def spRow : FSp := fun ds Q _ => ∃ ns : List Int, ds = [.scr ns] ∧ ns.length ≤ 1000 ∧ ∀ n xs, rowOk1 n xs → Q (.own ((n :: xs).map D.int))
/-- as it is used -/
def spStream : FSp := fun ds Q _ => ∃ ns : List Int, ds = [.scr ns] ∧ ns.length ≤ 1000 ∧ ∀ i, Q (.val (.g i 1))
section
variable {P : Program} {w : World} {K : PySem.W.Frag} {mg : Str → Option Value} {base : Heap}
theorem row_guard {vs : List V} {H : Hp} {Q : VK} {E : XK} (h : liftD K mg spStream vs H Q E) : liftD K mg spRow vs H Q E := by
  obtain ⟨W, ds, Qp, Xp, ok, dn, ⟨ns, rfl, hl, hq⟩, q, qx⟩ := h
  refine ⟨W, _, fun r => ∃ n xs, rowOk1 n xs ∧ r = .own ((n :: xs).map D.int), Xp, ok, dn, ⟨ns, rfl, hl, fun n xs hr => ⟨n, xs, hr, rfl⟩⟩, fun v H' o => ?_, qx⟩
  obtain ⟨W', r, ok', g', so, f', n, xs, hr, rfl⟩ := o
  obtain ⟨a, vs', rfl, ha, fr, dn'⟩ := so
  have na := f' rfl a rfl
  have ev := den_int dn'
  subst ev
  refine q _ _ ⟨⟨W'.fz, W'.gs ++ [rwGd a]⟩, .val (.g W'.gs.length 1), ok'.guard (G := rwGd a) ⟨n, xs, ha, hr.1, hr.2.1, hr.2.2⟩ (fun b hb => ?_), g'.guard (fun b hb => ?_), den_guard (G := rwGd a), (fun z => by cases z), hq _⟩
  · have : b = a := by simpa [rwGd] using hb
    subst this
    exact fr
  · have : b = a := by simpa [rwGd] using hb
    subst this
    exact na
theorem FE.stream {k : Nat} {f : Str} (h : FE P w K mg base k f spRow) : FE P w K mg base k f spStream := by
  obtain ⟨a, fd, ps, F, h2, h3, h4⟩ := h
  exact ⟨a, fd, ps, F.imp fun vs H Q E hs => row_guard hs, h2, h3, h4⟩
end
/-! the text of _law_stream -/
theorem sliceW_s {ns : List Int} {lo hi : Option Int} {Q : QS} : sliceW (.scr ns) lo hi Q = Q (.own (cutD (ns.map D.int) lo hi)) := rfl
theorem cut_to {xs : List D} {k : Nat} : cutD xs none (some (k : Int)) = xs.take k := by
  unfold cutD
  rw [HT.sIx_none, HT.sIx_nat]
  simp only [Nat.sub_zero, List.drop_zero]
  rcases Nat.le_total k xs.length with h | h
  · rw [Nat.min_eq_left h]
  · rw [Nat.min_eq_right h, List.take_of_length_le (Nat.le_refl _), List.take_of_length_le h]
theorem cut_to63 {ns : List Int} : cutD (ns.map D.int) none (some 63) = (ns.take 63).map D.int := by
  rw [List.map_take]
  exact cut_to (k := 63)
theorem row_app {xs : List Int} {x : Int} : xs.map D.int ++ [D.int x] = (xs ++ [x]).map D.int := by
  rw [List.map_append]
  rfl
def msStream_b1 : List MS := (.brk) :: []
def msStream_b2_2 : List MS := (.if_ (.bin .eq (.var 5) (.cst (.int 0))) msStream_b1 []) :: []
def msStream_b2_1 : List MS := (.set 5 (.bin .fdiv (.var 5) (.cst (.int 59)))) :: msStream_b2_2
def msStream_b2 : List MS := (.append 1 (.bin .mod (.var 5) (.cst (.int 59)))) :: msStream_b2_1
def msStream_b3_1 : List MS := (.for_ (.nm 4) .range1 [(.cst (.int 60))] msStream_b2) :: []
def msStream_b3 : List MS := (.set 5 (.cal .abs [(.cal .int [(.var 2)])])) :: msStream_b3_1
def msStream_b4 : List MS := (.set 3 (.bin .mod (.cal .int [(.bin .add (.bin .add (.bin .mul (.var 3) (.cst (.int 131))) (.var 2)) (.cst (.int 17)))]) (.cst (.int 1000003)))) :: []
def msStream_b5_1 : List MS := (.append 1 (.bin .mod (.bin .fdiv (.var 3) (.cst (.int 1009))) (.cst (.int 59)))) :: []
def msStream_b5 : List MS := (.set 3 (.bin .mod (.cal .int [(.bin .add (.bin .add (.bin .mul (.var 3) (.cst (.int 48271))) (.bin .mul (.var 4) (.cst (.int 69621)))) (.cst (.int 11)))]) (.cst (.int 2147483647)))) :: msStream_b5_1
def msStream_5 : List MS := (.retv 1) :: []
def msStream_4 : List MS := (.for_ (.nm 4) .range1 [(.cst (.int 150))] msStream_b5) :: msStream_5
def msStream_3 : List MS := (.for_ (.nm 2) .seq [(.slice (.var 0) [] [(.cst (.int 63))])] msStream_b4) :: msStream_4
def msStream_2 : List MS := (.set 3 (.cst (.int 7))) :: msStream_3
def msStream_1 : List MS := (.for_ (.nm 2) .seq [(.slice (.var 0) [] [(.cst (.int 63))])] msStream_b3) :: msStream_2
def msStream : List MS := (.set 1 (.lst [(.cst (.int 1))])) :: msStream_1
def NStream : List Str := ["script", "row", "cell", "seed", "k", "left"]
abbrev G_stream : Tab := tabOf [] ["range", "abs", "int"] [] [] []
theorem pure_stream : ∀ ds Q X, spRow ds Q X → ds.length = 1 ∧ WSs G_stream msStream (mkEnv 6 ds) (fnEnds Q X) := by
  rintro ds Q X ⟨ns, rfl, hl, hq⟩
  refine ⟨rfl, ?_⟩
  simp only [msStream, mkEnv, fnEnds, List.map_cons, List.map_nil, List.length_cons, List.length_nil, Nat.reduceAdd, Nat.reduceSub, List.replicate, List.cons_append, List.nil_append]
  (show WSs _ _ _ _; show WSs _ (_ :: _) _ _; rw [WSs_c]; simp only [wipeE, WCs, mkEnv, fnEnds, WS, WE, WAs, WLs, WT, argK, argW, opW, opI, biW, Sl_v, Sl_o, csD, slW, ownW, if_true, if_false, addW_i, addW_l, addW_t, subW_i, mulW_i, mulW_l, mulW_t, fdivW_i, modW_i, powW_i, shlW_i, shrW_i, bitW_i, iaddW_i, imulW_i, ifdivW_i, ltW_i, leW_i, gtW_i, geW_i, eqW_i, neW_i, isW_n, isntW_n, isW_b, isntW_b, idxW_l, idxW_t, optW_s, optP_s, lenW_l, lenW_t, lenW_s, lenW_d, intW_i, intW_b, absW_i, maxW_i, minW_i, negW_i, listW_l, listW_t, tupleW_l, tupleW_t, sliceW_l, sliceW_t, isiW_1, optI_n, optI_s, truW_b, truW_i, truW_l, truW_t, truW_n, itW_l, itW_t, itW_r1, itW_r2, itW_r3, strW_i, itW_el, itW_et, itW_zl, itW_zt, itW_vl, itW_vt, tgW_n, tgW_t, setAll_c, setAll_n, List.map_cons, List.map_nil, List.cons_append, List.nil_append, List.append_nil, List.getElem?_cons_succ, List.getElem?_cons_zero, List.length_cons, List.length_nil, Nat.reduceAdd, Nat.reduceSub, List.replicate, List.set_cons_succ, List.set_cons_zero, mtW, mtTy, getW, bkW, dicW, revW, Sl_od, inW_d, notinW_d])
  refine ⟨by decide, ?_⟩
  (show WSs _ _ _ _; show WSs _ (_ :: _) _ _; rw [WSs_c]; simp only [wipeE, WCs, mkEnv, fnEnds, WS, WE, WAs, WLs, WT, argK, argW, opW, opI, biW, Sl_v, Sl_o, csD, slW, ownW, if_true, if_false, addW_i, addW_l, addW_t, subW_i, mulW_i, mulW_l, mulW_t, fdivW_i, modW_i, powW_i, shlW_i, shrW_i, bitW_i, iaddW_i, imulW_i, ifdivW_i, ltW_i, leW_i, gtW_i, geW_i, eqW_i, neW_i, isW_n, isntW_n, isW_b, isntW_b, idxW_l, idxW_t, optW_s, optP_s, lenW_l, lenW_t, lenW_s, lenW_d, intW_i, intW_b, absW_i, maxW_i, minW_i, negW_i, listW_l, listW_t, tupleW_l, tupleW_t, sliceW_l, sliceW_t, isiW_1, optI_n, optI_s, truW_b, truW_i, truW_l, truW_t, truW_n, itW_l, itW_t, itW_r1, itW_r2, itW_r3, strW_i, itW_el, itW_et, itW_zl, itW_zt, itW_vl, itW_vt, tgW_n, tgW_t, setAll_c, setAll_n, List.map_cons, List.map_nil, List.cons_append, List.nil_append, List.append_nil, List.getElem?_cons_succ, List.getElem?_cons_zero, List.length_cons, List.length_nil, Nat.reduceAdd, Nat.reduceSub, List.replicate, List.set_cons_succ, List.set_cons_zero, mtW, mtTy, getW, bkW, dicW, revW, Sl_od, inW_d, notinW_d])
  simp only [sliceW_s, cut_to63, wipeE, WCs, mkEnv, fnEnds, WS, WE, WAs, WLs, WT, argK, argW, opW, opI, biW, Sl_v, Sl_o, csD, slW, ownW, if_true, if_false, addW_i, addW_l, addW_t, subW_i, mulW_i, mulW_l, mulW_t, fdivW_i, modW_i, powW_i, shlW_i, shrW_i, bitW_i, iaddW_i, imulW_i, ifdivW_i, ltW_i, leW_i, gtW_i, geW_i, eqW_i, neW_i, isW_n, isntW_n, isW_b, isntW_b, idxW_l, idxW_t, optW_s, optP_s, lenW_l, lenW_t, lenW_s, lenW_d, intW_i, intW_b, absW_i, maxW_i, minW_i, negW_i, listW_l, listW_t, tupleW_l, tupleW_t, sliceW_l, sliceW_t, isiW_1, optI_n, optI_s, truW_b, truW_i, truW_l, truW_t, truW_n, itW_l, itW_t, itW_r1, itW_r2, itW_r3, strW_i, itW_el, itW_et, itW_zl, itW_zt, itW_vl, itW_vt, tgW_n, tgW_t, setAll_c, setAll_n, List.map_cons, List.map_nil, List.cons_append, List.nil_append, List.append_nil, List.getElem?_cons_succ, List.getElem?_cons_zero, List.length_cons, List.length_nil, Nat.reduceAdd, Nat.reduceSub, List.replicate, List.set_cons_succ, List.set_cons_zero, mtW, mtTy, getW, bkW, dicW, revW, Sl_od, inW_d, notinW_d]
  refine forW_inv (fun items ρ => ∃ (cs xs : List Int) (y2 y4 y5 : Option Sl), items = cs.map D.int ∧ xs.length + 60 * cs.length ≤ 3780 ∧ (∀ x ∈ xs, 0 ≤ x) ∧
    ρ = [some (.val (.scr ns)), some (.own (D.int 1 :: xs.map D.int)), y2, none, y4, y5]) ?fin ?step _ _ ⟨ns.take 63, [], _, _, _, rfl, by simp; omega, (fun _ z => nomatch z), rfl⟩
  case step =>
    rintro d items ρ ⟨cs, xs, y2, y4, y5, e, hl, hx, rfl⟩ kk hkk
    cases cs with
    | nil => cases e
    | cons c cs =>
      cases e
      simp only [wipeE, WCs, mkEnv, fnEnds, WS, WE, WAs, WLs, WT, argK, argW, opW, opI, biW, Sl_v, Sl_o, csD, slW, ownW, if_true, if_false, addW_i, addW_l, addW_t, subW_i, mulW_i, mulW_l, mulW_t, fdivW_i, modW_i, powW_i, shlW_i, shrW_i, bitW_i, iaddW_i, imulW_i, ifdivW_i, ltW_i, leW_i, gtW_i, geW_i, eqW_i, neW_i, isW_n, isntW_n, isW_b, isntW_b, idxW_l, idxW_t, optW_s, optP_s, lenW_l, lenW_t, lenW_s, lenW_d, intW_i, intW_b, absW_i, maxW_i, minW_i, negW_i, listW_l, listW_t, tupleW_l, tupleW_t, sliceW_l, sliceW_t, isiW_1, optI_n, optI_s, truW_b, truW_i, truW_l, truW_t, truW_n, itW_l, itW_t, itW_r1, itW_r2, itW_r3, strW_i, itW_el, itW_et, itW_zl, itW_zt, itW_vl, itW_vt, tgW_n, tgW_t, setAll_c, setAll_n, List.map_cons, List.map_nil, List.cons_append, List.nil_append, List.append_nil, List.getElem?_cons_succ, List.getElem?_cons_zero, List.length_cons, List.length_nil, Nat.reduceAdd, Nat.reduceSub, List.replicate, List.set_cons_succ, List.set_cons_zero, mtW, mtTy, getW, bkW, dicW, revW, Sl_od, inW_d, notinW_d]
      (show WSs _ _ _ _; show WSs _ (_ :: _) _ _; rw [WSs_c]; simp only [wipeE, WCs, mkEnv, fnEnds, WS, WE, WAs, WLs, WT, argK, argW, opW, opI, biW, Sl_v, Sl_o, csD, slW, ownW, if_true, if_false, addW_i, addW_l, addW_t, subW_i, mulW_i, mulW_l, mulW_t, fdivW_i, modW_i, powW_i, shlW_i, shrW_i, bitW_i, iaddW_i, imulW_i, ifdivW_i, ltW_i, leW_i, gtW_i, geW_i, eqW_i, neW_i, isW_n, isntW_n, isW_b, isntW_b, idxW_l, idxW_t, optW_s, optP_s, lenW_l, lenW_t, lenW_s, lenW_d, intW_i, intW_b, absW_i, maxW_i, minW_i, negW_i, listW_l, listW_t, tupleW_l, tupleW_t, sliceW_l, sliceW_t, isiW_1, optI_n, optI_s, truW_b, truW_i, truW_l, truW_t, truW_n, itW_l, itW_t, itW_r1, itW_r2, itW_r3, strW_i, itW_el, itW_et, itW_zl, itW_zt, itW_vl, itW_vt, tgW_n, tgW_t, setAll_c, setAll_n, List.map_cons, List.map_nil, List.cons_append, List.nil_append, List.append_nil, List.getElem?_cons_succ, List.getElem?_cons_zero, List.length_cons, List.length_nil, Nat.reduceAdd, Nat.reduceSub, List.replicate, List.set_cons_succ, List.set_cons_zero, mtW, mtTy, getW, bkW, dicW, revW, Sl_od, inW_d, notinW_d])
      (show WSs _ _ _ _; show WSs _ (_ :: _) _ _; rw [WSs_c]; simp only [wipeE, WCs, mkEnv, fnEnds, WS, WE, WAs, WLs, WT, argK, argW, opW, opI, biW, Sl_v, Sl_o, csD, slW, ownW, if_true, if_false, addW_i, addW_l, addW_t, subW_i, mulW_i, mulW_l, mulW_t, fdivW_i, modW_i, powW_i, shlW_i, shrW_i, bitW_i, iaddW_i, imulW_i, ifdivW_i, ltW_i, leW_i, gtW_i, geW_i, eqW_i, neW_i, isW_n, isntW_n, isW_b, isntW_b, idxW_l, idxW_t, optW_s, optP_s, lenW_l, lenW_t, lenW_s, lenW_d, intW_i, intW_b, absW_i, maxW_i, minW_i, negW_i, listW_l, listW_t, tupleW_l, tupleW_t, sliceW_l, sliceW_t, isiW_1, optI_n, optI_s, truW_b, truW_i, truW_l, truW_t, truW_n, itW_l, itW_t, itW_r1, itW_r2, itW_r3, strW_i, itW_el, itW_et, itW_zl, itW_zt, itW_vl, itW_vt, tgW_n, tgW_t, setAll_c, setAll_n, List.map_cons, List.map_nil, List.cons_append, List.nil_append, List.append_nil, List.getElem?_cons_succ, List.getElem?_cons_zero, List.length_cons, List.length_nil, Nat.reduceAdd, Nat.reduceSub, List.replicate, List.set_cons_succ, List.set_cons_zero, mtW, mtTy, getW, bkW, dicW, revW, Sl_od, inW_d, notinW_d])
      refine ⟨by unfold B62; decide, ?_⟩
      refine forW_inv (fun items ρ => ∃ (xs : List Int) (left : Int) (y4 : Option Sl), xs.length + items.length + 60 * cs.length ≤ 3780 ∧ (∀ x ∈ xs, 0 ≤ x) ∧ 0 ≤ left ∧
        ρ = [some (.val (.scr ns)), some (.own (D.int 1 :: xs.map D.int)), some (.val (.int c)), none, y4, some (.val (.int left))]) ?_ ?_ _ _ ⟨xs, _, y4, by simp [rgD] at hl ⊢; omega, hx, abs_nn c, rfl⟩
      · rintro ρ ⟨xs, left, y4, hl, hx, hf, rfl⟩
        (show WSs _ _ _ _; rw [WSs_n])
        exact hkk _ ⟨cs, xs, _, _, _, rfl, by simpa using hl, hx, rfl⟩
      · rintro d items ρ ⟨xs, left, y4, hl, hx, hf, rfl⟩ k2 hk2
        simp only [wipeE, WCs, mkEnv, fnEnds, WS, WE, WAs, WLs, WT, argK, argW, opW, opI, biW, Sl_v, Sl_o, csD, slW, ownW, if_true, if_false, addW_i, addW_l, addW_t, subW_i, mulW_i, mulW_l, mulW_t, fdivW_i, modW_i, powW_i, shlW_i, shrW_i, bitW_i, iaddW_i, imulW_i, ifdivW_i, ltW_i, leW_i, gtW_i, geW_i, eqW_i, neW_i, isW_n, isntW_n, isW_b, isntW_b, idxW_l, idxW_t, optW_s, optP_s, lenW_l, lenW_t, lenW_s, lenW_d, intW_i, intW_b, absW_i, maxW_i, minW_i, negW_i, listW_l, listW_t, tupleW_l, tupleW_t, sliceW_l, sliceW_t, isiW_1, optI_n, optI_s, truW_b, truW_i, truW_l, truW_t, truW_n, itW_l, itW_t, itW_r1, itW_r2, itW_r3, strW_i, itW_el, itW_et, itW_zl, itW_zt, itW_vl, itW_vt, tgW_n, tgW_t, setAll_c, setAll_n, List.map_cons, List.map_nil, List.cons_append, List.nil_append, List.append_nil, List.getElem?_cons_succ, List.getElem?_cons_zero, List.length_cons, List.length_nil, Nat.reduceAdd, Nat.reduceSub, List.replicate, List.set_cons_succ, List.set_cons_zero, mtW, mtTy, getW, bkW, dicW, revW, Sl_od, inW_d, notinW_d]
        have m0 : 0 ≤ left % 59 := Int.emod_nonneg _ (by decide)
        have d0 : 0 ≤ left / 59 := Int.ediv_nonneg hf (by decide)
        (show WSs _ _ _ _; show WSs _ (_ :: _) _ _; rw [WSs_c]; simp only [wipeE, WCs, mkEnv, fnEnds, WS, WE, WAs, WLs, WT, argK, argW, opW, opI, biW, Sl_v, Sl_o, csD, slW, ownW, if_true, if_false, addW_i, addW_l, addW_t, subW_i, mulW_i, mulW_l, mulW_t, fdivW_i, modW_i, powW_i, shlW_i, shrW_i, bitW_i, iaddW_i, imulW_i, ifdivW_i, ltW_i, leW_i, gtW_i, geW_i, eqW_i, neW_i, isW_n, isntW_n, isW_b, isntW_b, idxW_l, idxW_t, optW_s, optP_s, lenW_l, lenW_t, lenW_s, lenW_d, intW_i, intW_b, absW_i, maxW_i, minW_i, negW_i, listW_l, listW_t, tupleW_l, tupleW_t, sliceW_l, sliceW_t, isiW_1, optI_n, optI_s, truW_b, truW_i, truW_l, truW_t, truW_n, itW_l, itW_t, itW_r1, itW_r2, itW_r3, strW_i, itW_el, itW_et, itW_zl, itW_zt, itW_vl, itW_vt, tgW_n, tgW_t, setAll_c, setAll_n, List.map_cons, List.map_nil, List.cons_append, List.nil_append, List.append_nil, List.getElem?_cons_succ, List.getElem?_cons_zero, List.length_cons, List.length_nil, Nat.reduceAdd, Nat.reduceSub, List.replicate, List.set_cons_succ, List.set_cons_zero, mtW, mtTy, getW, bkW, dicW, revW, Sl_od, inW_d, notinW_d])
        refine ⟨by decide, by simp at hl ⊢; unfold LIM; omega, ?_⟩
        rw [row_app]
        have hx' : ∀ x ∈ xs ++ [left % 59], 0 ≤ x := fun x h => by
          rcases List.mem_append.mp h with h | h
          · exact hx x h
          · have : x = left % 59 := by simpa using h
            rw [this]; exact m0
        have hl' : (xs ++ [left % 59]).length + items.length + 60 * cs.length ≤ 3780 := by simp at hl ⊢; omega
        (show WSs _ _ _ _; show WSs _ (_ :: _) _ _; rw [WSs_c]; simp only [wipeE, WCs, mkEnv, fnEnds, WS, WE, WAs, WLs, WT, argK, argW, opW, opI, biW, Sl_v, Sl_o, csD, slW, ownW, if_true, if_false, addW_i, addW_l, addW_t, subW_i, mulW_i, mulW_l, mulW_t, fdivW_i, modW_i, powW_i, shlW_i, shrW_i, bitW_i, iaddW_i, imulW_i, ifdivW_i, ltW_i, leW_i, gtW_i, geW_i, eqW_i, neW_i, isW_n, isntW_n, isW_b, isntW_b, idxW_l, idxW_t, optW_s, optP_s, lenW_l, lenW_t, lenW_s, lenW_d, intW_i, intW_b, absW_i, maxW_i, minW_i, negW_i, listW_l, listW_t, tupleW_l, tupleW_t, sliceW_l, sliceW_t, isiW_1, optI_n, optI_s, truW_b, truW_i, truW_l, truW_t, truW_n, itW_l, itW_t, itW_r1, itW_r2, itW_r3, strW_i, itW_el, itW_et, itW_zl, itW_zt, itW_vl, itW_vt, tgW_n, tgW_t, setAll_c, setAll_n, List.map_cons, List.map_nil, List.cons_append, List.nil_append, List.append_nil, List.getElem?_cons_succ, List.getElem?_cons_zero, List.length_cons, List.length_nil, Nat.reduceAdd, Nat.reduceSub, List.replicate, List.set_cons_succ, List.set_cons_zero, mtW, mtTy, getW, bkW, dicW, revW, Sl_od, inW_d, notinW_d])
        refine ⟨⟨by decide, sm_mk (by decide) (by decide)⟩, ?_⟩
        (show WSs _ _ _ _; show WSs _ (_ :: _) _ _; rw [WSs_c]; simp only [wipeE, WCs, mkEnv, fnEnds, WS, WE, WAs, WLs, WT, argK, argW, opW, opI, biW, Sl_v, Sl_o, csD, slW, ownW, if_true, if_false, addW_i, addW_l, addW_t, subW_i, mulW_i, mulW_l, mulW_t, fdivW_i, modW_i, powW_i, shlW_i, shrW_i, bitW_i, iaddW_i, imulW_i, ifdivW_i, ltW_i, leW_i, gtW_i, geW_i, eqW_i, neW_i, isW_n, isntW_n, isW_b, isntW_b, idxW_l, idxW_t, optW_s, optP_s, lenW_l, lenW_t, lenW_s, lenW_d, intW_i, intW_b, absW_i, maxW_i, minW_i, negW_i, listW_l, listW_t, tupleW_l, tupleW_t, sliceW_l, sliceW_t, isiW_1, optI_n, optI_s, truW_b, truW_i, truW_l, truW_t, truW_n, itW_l, itW_t, itW_r1, itW_r2, itW_r3, strW_i, itW_el, itW_et, itW_zl, itW_zt, itW_vl, itW_vt, tgW_n, tgW_t, setAll_c, setAll_n, List.map_cons, List.map_nil, List.cons_append, List.nil_append, List.append_nil, List.getElem?_cons_succ, List.getElem?_cons_zero, List.length_cons, List.length_nil, Nat.reduceAdd, Nat.reduceSub, List.replicate, List.set_cons_succ, List.set_cons_zero, mtW, mtTy, getW, bkW, dicW, revW, Sl_od, inW_d, notinW_d])
        by_cases h : left / 59 = 0
        · rw [h]
          simp only [show ((0 : Int) == 0) = true from rfl, if_true]
          (show WSs _ (_ :: _) _ _; rw [WSs_c]; simp only [WS])
          (show WSs _ _ _ _; rw [WSs_n])
          exact hkk _ ⟨cs, xs ++ [left % 59], _, _, _, rfl, by omega, hx', rfl⟩
        · rw [show (left / 59 == 0) = false from beq_false_of_ne h]
          simp only [Bool.false_eq_true, if_false]
          ((show WSs _ _ _ _; rw [WSs_n]); (show WSs _ _ _ _; rw [WSs_n]))
          exact hk2 _ ⟨xs ++ [left % 59], left / 59, _, hl', hx', d0, rfl⟩
  rintro ρ ⟨cs, xs, y2, y4, y5, e, hl, hx, rfl⟩
  have hl : xs.length ≤ 3780 := by omega
  clear e
  (show WSs _ _ _ _; show WSs _ (_ :: _) _ _; rw [WSs_c]; simp only [wipeE, WCs, mkEnv, fnEnds, WS, WE, WAs, WLs, WT, argK, argW, opW, opI, biW, Sl_v, Sl_o, csD, slW, ownW, if_true, if_false, addW_i, addW_l, addW_t, subW_i, mulW_i, mulW_l, mulW_t, fdivW_i, modW_i, powW_i, shlW_i, shrW_i, bitW_i, iaddW_i, imulW_i, ifdivW_i, ltW_i, leW_i, gtW_i, geW_i, eqW_i, neW_i, isW_n, isntW_n, isW_b, isntW_b, idxW_l, idxW_t, optW_s, optP_s, lenW_l, lenW_t, lenW_s, lenW_d, intW_i, intW_b, absW_i, maxW_i, minW_i, negW_i, listW_l, listW_t, tupleW_l, tupleW_t, sliceW_l, sliceW_t, isiW_1, optI_n, optI_s, truW_b, truW_i, truW_l, truW_t, truW_n, itW_l, itW_t, itW_r1, itW_r2, itW_r3, strW_i, itW_el, itW_et, itW_zl, itW_zt, itW_vl, itW_vt, tgW_n, tgW_t, setAll_c, setAll_n, List.map_cons, List.map_nil, List.cons_append, List.nil_append, List.append_nil, List.getElem?_cons_succ, List.getElem?_cons_zero, List.length_cons, List.length_nil, Nat.reduceAdd, Nat.reduceSub, List.replicate, List.set_cons_succ, List.set_cons_zero, mtW, mtTy, getW, bkW, dicW, revW, Sl_od, inW_d, notinW_d])
  (show WSs _ _ _ _; show WSs _ (_ :: _) _ _; rw [WSs_c]; simp only [wipeE, WCs, mkEnv, fnEnds, WS, WE, WAs, WLs, WT, argK, argW, opW, opI, biW, Sl_v, Sl_o, csD, slW, ownW, if_true, if_false, addW_i, addW_l, addW_t, subW_i, mulW_i, mulW_l, mulW_t, fdivW_i, modW_i, powW_i, shlW_i, shrW_i, bitW_i, iaddW_i, imulW_i, ifdivW_i, ltW_i, leW_i, gtW_i, geW_i, eqW_i, neW_i, isW_n, isntW_n, isW_b, isntW_b, idxW_l, idxW_t, optW_s, optP_s, lenW_l, lenW_t, lenW_s, lenW_d, intW_i, intW_b, absW_i, maxW_i, minW_i, negW_i, listW_l, listW_t, tupleW_l, tupleW_t, sliceW_l, sliceW_t, isiW_1, optI_n, optI_s, truW_b, truW_i, truW_l, truW_t, truW_n, itW_l, itW_t, itW_r1, itW_r2, itW_r3, strW_i, itW_el, itW_et, itW_zl, itW_zt, itW_vl, itW_vt, tgW_n, tgW_t, setAll_c, setAll_n, List.map_cons, List.map_nil, List.cons_append, List.nil_append, List.append_nil, List.getElem?_cons_succ, List.getElem?_cons_zero, List.length_cons, List.length_nil, Nat.reduceAdd, Nat.reduceSub, List.replicate, List.set_cons_succ, List.set_cons_zero, mtW, mtTy, getW, bkW, dicW, revW, Sl_od, inW_d, notinW_d])
  simp only [sliceW_s, cut_to63, wipeE, WCs, mkEnv, fnEnds, WS, WE, WAs, WLs, WT, argK, argW, opW, opI, biW, Sl_v, Sl_o, csD, slW, ownW, if_true, if_false, addW_i, addW_l, addW_t, subW_i, mulW_i, mulW_l, mulW_t, fdivW_i, modW_i, powW_i, shlW_i, shrW_i, bitW_i, iaddW_i, imulW_i, ifdivW_i, ltW_i, leW_i, gtW_i, geW_i, eqW_i, neW_i, isW_n, isntW_n, isW_b, isntW_b, idxW_l, idxW_t, optW_s, optP_s, lenW_l, lenW_t, lenW_s, lenW_d, intW_i, intW_b, absW_i, maxW_i, minW_i, negW_i, listW_l, listW_t, tupleW_l, tupleW_t, sliceW_l, sliceW_t, isiW_1, optI_n, optI_s, truW_b, truW_i, truW_l, truW_t, truW_n, itW_l, itW_t, itW_r1, itW_r2, itW_r3, strW_i, itW_el, itW_et, itW_zl, itW_zt, itW_vl, itW_vt, tgW_n, tgW_t, setAll_c, setAll_n, List.map_cons, List.map_nil, List.cons_append, List.nil_append, List.append_nil, List.getElem?_cons_succ, List.getElem?_cons_zero, List.length_cons, List.length_nil, Nat.reduceAdd, Nat.reduceSub, List.replicate, List.set_cons_succ, List.set_cons_zero, mtW, mtTy, getW, bkW, dicW, revW, Sl_od, inW_d, notinW_d]
  refine forW_inv (fun items ρ => ∃ (cs : List Int) (seed : Int) (y2 : Option Sl), items = cs.map D.int ∧ 0 ≤ seed ∧ seed < 1000003 ∧
    ρ = [some (.val (.scr ns)), some (.own (D.int 1 :: xs.map D.int)), y2, some (.val (.int seed)), y4, y5]) ?fin2 ?step2 _ _ ⟨ns.take 63, 7, _, rfl, by decide, by decide, rfl⟩
  case step2 =>
    rintro d items ρ ⟨cs, seed, y2, e, s0, s1, rfl⟩ kk hkk
    cases cs with
    | nil => cases e
    | cons c cs =>
      cases e
      simp only [wipeE, WCs, mkEnv, fnEnds, WS, WE, WAs, WLs, WT, argK, argW, opW, opI, biW, Sl_v, Sl_o, csD, slW, ownW, if_true, if_false, addW_i, addW_l, addW_t, subW_i, mulW_i, mulW_l, mulW_t, fdivW_i, modW_i, powW_i, shlW_i, shrW_i, bitW_i, iaddW_i, imulW_i, ifdivW_i, ltW_i, leW_i, gtW_i, geW_i, eqW_i, neW_i, isW_n, isntW_n, isW_b, isntW_b, idxW_l, idxW_t, optW_s, optP_s, lenW_l, lenW_t, lenW_s, lenW_d, intW_i, intW_b, absW_i, maxW_i, minW_i, negW_i, listW_l, listW_t, tupleW_l, tupleW_t, sliceW_l, sliceW_t, isiW_1, optI_n, optI_s, truW_b, truW_i, truW_l, truW_t, truW_n, itW_l, itW_t, itW_r1, itW_r2, itW_r3, strW_i, itW_el, itW_et, itW_zl, itW_zt, itW_vl, itW_vt, tgW_n, tgW_t, setAll_c, setAll_n, List.map_cons, List.map_nil, List.cons_append, List.nil_append, List.append_nil, List.getElem?_cons_succ, List.getElem?_cons_zero, List.length_cons, List.length_nil, Nat.reduceAdd, Nat.reduceSub, List.replicate, List.set_cons_succ, List.set_cons_zero, mtW, mtTy, getW, bkW, dicW, revW, Sl_od, inW_d, notinW_d]
      (show WSs _ _ _ _; show WSs _ (_ :: _) _ _; rw [WSs_c]; simp only [wipeE, WCs, mkEnv, fnEnds, WS, WE, WAs, WLs, WT, argK, argW, opW, opI, biW, Sl_v, Sl_o, csD, slW, ownW, if_true, if_false, addW_i, addW_l, addW_t, subW_i, mulW_i, mulW_l, mulW_t, fdivW_i, modW_i, powW_i, shlW_i, shrW_i, bitW_i, iaddW_i, imulW_i, ifdivW_i, ltW_i, leW_i, gtW_i, geW_i, eqW_i, neW_i, isW_n, isntW_n, isW_b, isntW_b, idxW_l, idxW_t, optW_s, optP_s, lenW_l, lenW_t, lenW_s, lenW_d, intW_i, intW_b, absW_i, maxW_i, minW_i, negW_i, listW_l, listW_t, tupleW_l, tupleW_t, sliceW_l, sliceW_t, isiW_1, optI_n, optI_s, truW_b, truW_i, truW_l, truW_t, truW_n, itW_l, itW_t, itW_r1, itW_r2, itW_r3, strW_i, itW_el, itW_et, itW_zl, itW_zt, itW_vl, itW_vt, tgW_n, tgW_t, setAll_c, setAll_n, List.map_cons, List.map_nil, List.cons_append, List.nil_append, List.append_nil, List.getElem?_cons_succ, List.getElem?_cons_zero, List.length_cons, List.length_nil, Nat.reduceAdd, Nat.reduceSub, List.replicate, List.set_cons_succ, List.set_cons_zero, mtW, mtTy, getW, bkW, dicW, revW, Sl_od, inW_d, notinW_d])
      refine ⟨⟨sm_mk (by omega) (by omega), sm_mk (by decide) (by decide)⟩, by decide, ?_⟩
      (show WSs _ _ _ _; rw [WSs_n])
      exact hkk _ ⟨cs, _, _, rfl, Int.emod_nonneg _ (by decide), Int.emod_lt_of_pos _ (by decide), rfl⟩
  rintro ρ ⟨cs, seed, y2, e, s0, s1, rfl⟩
  clear e
  have s1 : seed < 2147483647 := by omega
  (show WSs _ _ _ _; show WSs _ (_ :: _) _ _; rw [WSs_c]; simp only [wipeE, WCs, mkEnv, fnEnds, WS, WE, WAs, WLs, WT, argK, argW, opW, opI, biW, Sl_v, Sl_o, csD, slW, ownW, if_true, if_false, addW_i, addW_l, addW_t, subW_i, mulW_i, mulW_l, mulW_t, fdivW_i, modW_i, powW_i, shlW_i, shrW_i, bitW_i, iaddW_i, imulW_i, ifdivW_i, ltW_i, leW_i, gtW_i, geW_i, eqW_i, neW_i, isW_n, isntW_n, isW_b, isntW_b, idxW_l, idxW_t, optW_s, optP_s, lenW_l, lenW_t, lenW_s, lenW_d, intW_i, intW_b, absW_i, maxW_i, minW_i, negW_i, listW_l, listW_t, tupleW_l, tupleW_t, sliceW_l, sliceW_t, isiW_1, optI_n, optI_s, truW_b, truW_i, truW_l, truW_t, truW_n, itW_l, itW_t, itW_r1, itW_r2, itW_r3, strW_i, itW_el, itW_et, itW_zl, itW_zt, itW_vl, itW_vt, tgW_n, tgW_t, setAll_c, setAll_n, List.map_cons, List.map_nil, List.cons_append, List.nil_append, List.append_nil, List.getElem?_cons_succ, List.getElem?_cons_zero, List.length_cons, List.length_nil, Nat.reduceAdd, Nat.reduceSub, List.replicate, List.set_cons_succ, List.set_cons_zero, mtW, mtTy, getW, bkW, dicW, revW, Sl_od, inW_d, notinW_d])
  refine ⟨by unfold B62; decide, ?_⟩
  rw [show ((150 : Int)).toNat = 150 from rfl, rgD_nat, List.range_eq_range']
  refine forW_inv (fun items ρ => ∃ (j n : Nat) (xs : List Int) (seed : Int) (y4 : Option Sl), items = (List.range' j n).map (fun i => D.int (i : Nat)) ∧ j + n = 150 ∧ 0 ≤ seed ∧ seed < 2147483647 ∧ xs.length + n ≤ 4000 ∧ (∀ x ∈ xs, 0 ≤ x) ∧
    ρ = [some (.val (.scr ns)), some (.own (D.int 1 :: xs.map D.int)), y2, some (.val (.int seed)), y4, y5]) ?_ ?_ _ _ ⟨0, 150, xs, seed, _, rfl, by omega, s0, s1, by omega, hx, rfl⟩
  · rintro ρ ⟨j, n, xs, seed, y4, e, hj, s0, s1, hl, hx, rfl⟩
    (show WSs _ _ _ _; show WSs _ (_ :: _) _ _; rw [WSs_c]; simp only [wipeE, WCs, mkEnv, fnEnds, WS, WE, WAs, WLs, WT, argK, argW, opW, opI, biW, Sl_v, Sl_o, csD, slW, ownW, if_true, if_false, addW_i, addW_l, addW_t, subW_i, mulW_i, mulW_l, mulW_t, fdivW_i, modW_i, powW_i, shlW_i, shrW_i, bitW_i, iaddW_i, imulW_i, ifdivW_i, ltW_i, leW_i, gtW_i, geW_i, eqW_i, neW_i, isW_n, isntW_n, isW_b, isntW_b, idxW_l, idxW_t, optW_s, optP_s, lenW_l, lenW_t, lenW_s, lenW_d, intW_i, intW_b, absW_i, maxW_i, minW_i, negW_i, listW_l, listW_t, tupleW_l, tupleW_t, sliceW_l, sliceW_t, isiW_1, optI_n, optI_s, truW_b, truW_i, truW_l, truW_t, truW_n, itW_l, itW_t, itW_r1, itW_r2, itW_r3, strW_i, itW_el, itW_et, itW_zl, itW_zt, itW_vl, itW_vt, tgW_n, tgW_t, setAll_c, setAll_n, List.map_cons, List.map_nil, List.cons_append, List.nil_append, List.append_nil, List.getElem?_cons_succ, List.getElem?_cons_zero, List.length_cons, List.length_nil, Nat.reduceAdd, Nat.reduceSub, List.replicate, List.set_cons_succ, List.set_cons_zero, mtW, mtTy, getW, bkW, dicW, revW, Sl_od, inW_d, notinW_d])
    exact hq 1 xs ⟨by decide, by omega, hx⟩
  · rintro d items ρ ⟨j, n, xs, seed, y4, e, hj, s0, s1, hl, hx, rfl⟩ kk hkk
    cases n with
    | zero => cases e
    | succ n =>
      rw [List.range'_succ, List.map_cons] at e
      cases e
      simp only [wipeE, WCs, mkEnv, fnEnds, WS, WE, WAs, WLs, WT, argK, argW, opW, opI, biW, Sl_v, Sl_o, csD, slW, ownW, if_true, if_false, addW_i, addW_l, addW_t, subW_i, mulW_i, mulW_l, mulW_t, fdivW_i, modW_i, powW_i, shlW_i, shrW_i, bitW_i, iaddW_i, imulW_i, ifdivW_i, ltW_i, leW_i, gtW_i, geW_i, eqW_i, neW_i, isW_n, isntW_n, isW_b, isntW_b, idxW_l, idxW_t, optW_s, optP_s, lenW_l, lenW_t, lenW_s, lenW_d, intW_i, intW_b, absW_i, maxW_i, minW_i, negW_i, listW_l, listW_t, tupleW_l, tupleW_t, sliceW_l, sliceW_t, isiW_1, optI_n, optI_s, truW_b, truW_i, truW_l, truW_t, truW_n, itW_l, itW_t, itW_r1, itW_r2, itW_r3, strW_i, itW_el, itW_et, itW_zl, itW_zt, itW_vl, itW_vt, tgW_n, tgW_t, setAll_c, setAll_n, List.map_cons, List.map_nil, List.cons_append, List.nil_append, List.append_nil, List.getElem?_cons_succ, List.getElem?_cons_zero, List.length_cons, List.length_nil, Nat.reduceAdd, Nat.reduceSub, List.replicate, List.set_cons_succ, List.set_cons_zero, mtW, mtTy, getW, bkW, dicW, revW, Sl_od, inW_d, notinW_d]
      (show WSs _ _ _ _; show WSs _ (_ :: _) _ _; rw [WSs_c]; simp only [wipeE, WCs, mkEnv, fnEnds, WS, WE, WAs, WLs, WT, argK, argW, opW, opI, biW, Sl_v, Sl_o, csD, slW, ownW, if_true, if_false, addW_i, addW_l, addW_t, subW_i, mulW_i, mulW_l, mulW_t, fdivW_i, modW_i, powW_i, shlW_i, shrW_i, bitW_i, iaddW_i, imulW_i, ifdivW_i, ltW_i, leW_i, gtW_i, geW_i, eqW_i, neW_i, isW_n, isntW_n, isW_b, isntW_b, idxW_l, idxW_t, optW_s, optP_s, lenW_l, lenW_t, lenW_s, lenW_d, intW_i, intW_b, absW_i, maxW_i, minW_i, negW_i, listW_l, listW_t, tupleW_l, tupleW_t, sliceW_l, sliceW_t, isiW_1, optI_n, optI_s, truW_b, truW_i, truW_l, truW_t, truW_n, itW_l, itW_t, itW_r1, itW_r2, itW_r3, strW_i, itW_el, itW_et, itW_zl, itW_zt, itW_vl, itW_vt, tgW_n, tgW_t, setAll_c, setAll_n, List.map_cons, List.map_nil, List.cons_append, List.nil_append, List.append_nil, List.getElem?_cons_succ, List.getElem?_cons_zero, List.length_cons, List.length_nil, Nat.reduceAdd, Nat.reduceSub, List.replicate, List.set_cons_succ, List.set_cons_zero, mtW, mtTy, getW, bkW, dicW, revW, Sl_od, inW_d, notinW_d])
      refine ⟨⟨sm_mk (by omega) (by omega), sm_mk (by decide) (by decide)⟩, ⟨sm_mk (by omega) (by omega), sm_mk (by decide) (by decide)⟩, by decide, ?_⟩
      have b0 : 0 ≤ (seed * 48271 + (j : Int) * 69621 + 11) % 2147483647 := Int.emod_nonneg _ (by decide)
      have b1 : (seed * 48271 + (j : Int) * 69621 + 11) % 2147483647 < 2147483647 := Int.emod_lt_of_pos _ (by decide)
      generalize (seed * 48271 + (j : Int) * 69621 + 11) % 2147483647 = sd at b0 b1 ⊢
      (show WSs _ _ _ _; show WSs _ (_ :: _) _ _; rw [WSs_c]; simp only [wipeE, WCs, mkEnv, fnEnds, WS, WE, WAs, WLs, WT, argK, argW, opW, opI, biW, Sl_v, Sl_o, csD, slW, ownW, if_true, if_false, addW_i, addW_l, addW_t, subW_i, mulW_i, mulW_l, mulW_t, fdivW_i, modW_i, powW_i, shlW_i, shrW_i, bitW_i, iaddW_i, imulW_i, ifdivW_i, ltW_i, leW_i, gtW_i, geW_i, eqW_i, neW_i, isW_n, isntW_n, isW_b, isntW_b, idxW_l, idxW_t, optW_s, optP_s, lenW_l, lenW_t, lenW_s, lenW_d, intW_i, intW_b, absW_i, maxW_i, minW_i, negW_i, listW_l, listW_t, tupleW_l, tupleW_t, sliceW_l, sliceW_t, isiW_1, optI_n, optI_s, truW_b, truW_i, truW_l, truW_t, truW_n, itW_l, itW_t, itW_r1, itW_r2, itW_r3, strW_i, itW_el, itW_et, itW_zl, itW_zt, itW_vl, itW_vt, tgW_n, tgW_t, setAll_c, setAll_n, List.map_cons, List.map_nil, List.cons_append, List.nil_append, List.append_nil, List.getElem?_cons_succ, List.getElem?_cons_zero, List.length_cons, List.length_nil, Nat.reduceAdd, Nat.reduceSub, List.replicate, List.set_cons_succ, List.set_cons_zero, mtW, mtTy, getW, bkW, dicW, revW, Sl_od, inW_d, notinW_d])
      refine ⟨⟨by decide, sm_mk (by decide) (by decide)⟩, by decide, by simp; unfold LIM; omega, ?_⟩
      rw [row_app]
      (show WSs _ _ _ _; rw [WSs_n])
      refine hkk _ ⟨j + 1, n, xs ++ [sd / 1009 % 59], sd, _, rfl, by omega, b0, b1, by simp; omega, fun x h => ?_, rfl⟩
      rcases List.mem_append.mp h with h | h
      · exact hx x h
      · have : x = sd / 1009 % 59 := by simpa using h
        rw [this]
        exact Int.emod_nonneg _ (by decide)
/-! ## _law_take -/
def tabT : Tab := ⟨fun _ => none, ["len", "int"], [], [], [], []⟩
def tC1 : ME := .bin .lt (.bin .idx (.var 0) (.cst (.int 0))) (.cal .len [(.var 0)])
def tE6 : ME := .bin .add (.bin .idx (.var 0) (.cst (.int 0))) (.cst (.int 1))
def tE7 : ME := .bin .mod (.cal .int [(.bin .idx (.var 0) (.bin .sub (.bin .idx (.var 0) (.cst (.int 0))) (.cst (.int 1))))]) (.var 1)
def tE8 : ME := .cst (.int 0)
def chkTake (c : CC) : List Stmt → Bool
  | [.If ec [.Assign [.Subscript e4 e5 _] e6 _, .Return (some e7) _] [] _, .Return (some e8) _] =>
    kindFn c && chkE tabT tC1 true c ec && varIs c 0 e4 && isK 0 e5 && chkE tabT tE6 false c e6 && chkE tabT tE7 false c e7 && chkE tabT tE8 false c e8
  | _ => false
def spTake : FSp := fun ds Q _ => ∃ i m, ds = [.g i 1, .int m] ∧ 0 < m ∧ ∀ x, 0 ≤ x → x < m → Q (.val (.int x))
/-- the state of the walk -/
structure TS (W1 : Wd) (H0 : Hp) (r : Addr) (H : Hp) (n : Int) (xs : List Int) : Prop where
  ok : W1.Ok H
  fr : ∀ a o, H0 a = some o → a ≠ r → H a = some o
  hr : H r = some (.lst ((n :: xs).map V.int))
theorem TS.grow {W1 W' : Wd} {H0 : Hp} {r : Addr} {H H' : Hp} {n : Int} {xs : List Int} (h : TS W1 H0 r H n xs) (hg : W1.gs = []) (g : Grow W1 H W' H') : TS W1 H0 r H' n xs := by
  have sm : Same H H' := fun a o e => g.same a o e fun x hx => by rw [hg] at hx; cases hx
  refine ⟨⟨h.ok.sub.trans sm, (fun x hx => by rw [hg] at hx; cases hx), (fun x hx => by rw [hg] at hx; cases hx), by rw [hg]; exact .nil⟩, fun a o e n2 => sm _ _ (h.fr a o e n2), sm _ _ h.hr⟩
theorem ts_env {K : PySem.W.Frag} {mg : Str → Option Value} {W1 : Wd} {H0 : Hp} {r : Addr} {H : Hp} {n m : Int} {xs : List Int} (h : TS W1 H0 r H n xs) (fr : W1.free r) :
    EnvOk K mg W1 H [some (.ref r), some (.int m)] [some (.own ((n :: xs).map D.int)), some (.val (.int m))] := by
  refine ⟨fun i t e => ?_, fun i j t u a hij e1 o1 e2 o2 f1 f2 => ?_, rfl⟩
  · match i, e with
    | 0, e => cases e; exact ⟨_, rfl, r, _, rfl, h.hr, fr, DenAll.ints (n :: xs)⟩
    | 1, e => cases e; exact ⟨_, rfl, .int m⟩
    | n + 2, e => simp at e
  · have one : ∀ (k : Nat) (t : Sl), ([some (.own ((n :: xs).map D.int)), some (.val (.int m))] : Env)[k]? = some (some t) → t.isOwn = true → k = 0 := fun k t e o => by
      match k, e with
      | 0, e => rfl
      | 1, e => cases e; cases o
      | k + 2, e => simp at e
    exact hij ((one i t e1 o1).trans (one j u e2 o2).symm)
theorem Out.intT {K : PySem.W.Frag} {mg : Str → Option Value} {W1 : Wd} {H0 : Hp} {r : Addr} {H H' : Hp} {n : Int} {xs : List Int} {Z : Int → Prop} {v : V} (h : TS W1 H0 r H n xs) (hg : W1.gs = []) (o : Out K mg W1 H (fun t => ∃ y, t = .val (.int y) ∧ Z y) v H') : ∃ y, v = .int y ∧ Z y ∧ TS W1 H0 r H' n xs := by
  obtain ⟨W', t, ok', g', s', _, y, rfl, hz⟩ := o
  cases (show Den K mg W' v (.int y) from s')
  exact ⟨y, rfl, hz, h.grow hg g'⟩
theorem TS.put {W1 : Wd} {H0 : Hp} {r : Addr} {H : Hp} {n n' : Int} {xs : List Int} (h : TS W1 H0 r H n xs) (fr : W1.free r) : TS W1 H0 r (upd H r (.lst ((n' :: xs).map V.int))) n' xs :=
  ⟨h.ok.put fr, fun a o e n2 => by rw [upd_ne n2]; exact h.fr a o e n2, upd_same⟩
theorem take_c {n : Int} {xs : List Int} {v : Option Sl} {Q : Bool → Prop} {QX : QX} (h : Q (decide (n < ((xs.length : Nat) : Int) + 1))) : WT tabT tC1 [some (.own ((n :: xs).map D.int)), v] Q QX := by
  have a0 : atI ((n :: xs).map D.int) 0 = some (.int n) := atI0 rfl
  have el : (((n :: xs).map D.int).length : Int) = ((xs.length : Nat) : Int) + 1 := by simp
  simp only [WT, argK, tC1, WE, WAs, List.getElem?_cons_zero, biW, lenW, opW, idxW, a0, optW, ltW, truW, Sl.d, csD, el]
  exact h
theorem take_6 {n : Int} {xs : List Int} {v : Option Sl} {Q : QS} {QX : QX} (h : Q (.val (.int (n + 1)))) : WE tabT tE6 [some (.own ((n :: xs).map D.int)), v] Q QX := by
  have a0 : atI ((n :: xs).map D.int) 0 = some (.int n) := atI0 rfl
  simp only [argK, tE6, WE, List.getElem?_cons_zero, opW, idxW, a0, optW, addW, Sl.d, csD]
  exact h
theorem take_7 {k : Nat} {x m : Int} {xs : List Int} {Q : QS} {QX : QX} (hx : xs[k]? = some x) (hm : 0 < m) (h : Q (.val (.int (x % m)))) : WE tabT tE7 [some (.own (((((k : Nat) : Int) + 2) :: xs).map D.int)), some (.val (.int m))] Q QX := by
  have a0 : atI (((((k : Nat) : Int) + 2) :: xs).map D.int) 0 = some (.int (((k : Nat) : Int) + 2)) := atI0 rfl
  have a1 : atI (((((k : Nat) : Int) + 2) :: xs).map D.int) (((k : Nat) : Int) + 2 - 1) = some (.int x) := by
    have e : ((k : Nat) : Int) + 2 - 1 = ((k + 1 : Nat) : Int) := by omega
    rw [e]
    refine atI_nat ?_
    rw [List.map_cons, List.getElem?_cons_succ, List.getElem?_map, hx]
    rfl
  simp only [argK, tE7, WE, WAs, List.getElem?_cons_zero, List.getElem?_cons_succ, opW, biW, idxW, a0, a1, optW, subW, intW, modW, Sl.d, csD]
  exact ⟨hm, h⟩
section
variable {P : Program} {w : World} {K : PySem.W.Frag} {mg : Str → Option Value} {base : Heap}
theorem take_ok {x qual : Str} {params : Arguments} {body : List Stmt} {scope : Scope} {dvs : List V} {kws : List (Str × V)} {f : Addr} {fd : FuncData} {N ps : List Str} {k : Nat} (F : FunD K x qual params body scope dvs kws f fd) (g : GOk tabT P w K mg base k)
    (S : okSc N ps scope = true) (hN : N.length = 2) (hps : ps.length = 2) (hc : chkTake (fnC N scope) body = true) : FnOk P w K mg base (L2.CX P w) (k + 1) f fd ps (liftD K mg spTake) := by
  have S' := okSc_by S
  refine F.ok S' (fun vs H Q E h => ?_) (fun cdv A outer s H vs Q E hr h => ?_)
  · obtain ⟨W, ds, Qp, Xp, ok, t, ⟨i, m, rfl, _⟩, _⟩ := h
    rw [t.length, hps]
    rfl
  have xs : XS tabT k (fnC N scope) (cxOf (L2.CX P w) P w K mg base N qual scope f cdv A outer s H E) (fun cls d _ H => E cls d H) := {
    xo := { N := rfl, nd := S'.nd, sc := rfl, calm := fun _ => rfl, tk := takes_of rfl rfl rfl rfl, rm := hr, g := g, fn := fun _ _ => rfl, gd := fun z => absurd z (by decide +kernel) }
    cal := rfl
    po := passes_of rfl
    kd := S'.kind
    stk := rfl
    frm := rfl }
  have xo := xs.xo
  generalize hX : cxOf (L2.CX P w) P w K mg base N qual scope f cdv A outer s H E = X at xs xo
  have eK : X.K = K := by rw [← hX]; rfl
  have eM : X.mg = mg := by rw [← hX]; rfl
  unfold chkTake at hc
  split at hc
  case h_2 => cases hc
  rename_i ec e4 e5 p4 e6 p6 e7 p7 p8 e8 p9
  simp only [Bool.and_eq_true] at hc
  obtain ⟨⟨⟨⟨⟨⟨c0, c1⟩, c2⟩, c3⟩, c4⟩, c5⟩, c6⟩ := hc
  obtain ⟨tc, ptc, htc⟩ := ((sound tC1 (fnC N scope) ec).2 c1).t X _ xo
  have q6 := pe_bE ((sound tE6 (fnC N scope) e6).1 c4) xo
  have q7 := pe_bE ((sound tE7 (fnC N scope) e7).1 c5) xo
  have q8 := pe_bE ((sound tE8 (fnC N scope) e8).1 c6) xo
  refine ⟨_, pss_cons (ps_if ptc (pss_cons (ps_asg q6 (pg_sub (var_ok c2 xo) (k_ok c3) set_list (asg_sub (k_slice c3) _)) swapsSub swapped_sub rfl) (pss_one (ps_ret q7))) pss_nil) (pss_one (ps_ret q8)), ?_⟩
  obtain ⟨W, ds, Qp, Xp, ok, dn, ⟨i, m, rfl, hm, hq⟩, q, qx⟩ := h
  cases dn with
  | cons d1 dn =>
  cases dn with
  | cons d2 dn =>
  cases dn
  cases d2
  cases d1 with
  | @g i k0 G hG hk =>
  have wf := G.wf
  rw [hk] at wf
  rcases wf with ⟨h1, _⟩ | ⟨_, hfp, hinv⟩
  case inl => cases h1
  have hmem : G ∈ W.gs := List.mem_of_getElem? hG
  obtain ⟨n0, xs0, hr0, hn1, hn2, hpos⟩ := (hinv _ _).mp (ok.inv G hmem)
  generalize hW1 : (Wd.mk W.fz []) = W1
  have hg : W1.gs = [] := by rw [← hW1]
  have fr : W1.free G.root := ⟨by rw [← hW1]; exact ok.dj G hmem _ (by rw [hfp]; simp), fun x hx => by rw [hg] at hx; cases hx⟩
  have d0 : TS W1 H G.root H n0 xs0 := ⟨⟨by rw [← hW1]; exact ok.sub, (fun x hx => by rw [hg] at hx; cases hx), (fun x hx => by rw [hg] at hx; cases hx), by rw [hg]; exact .nil⟩, fun a o e _ => e, hr0⟩
  have fin : ∀ (y : Int) (H' : Hp) (n : Int) (xs : List Int), 0 ≤ y → y < m → TS W1 H G.root H' n xs → 1 ≤ n → n ≤ xs.length + 1 → (∀ z ∈ xs, 0 ≤ z) → Q (.int y) H' := fun y H' n xs h0 h1 d hn1 hn2 hp =>
    q _ _ (Out.kept (K := K) (mg := mg) ok hG (fun a o e nn => d.fr a o e (fun z => nn (by rw [hfp, z]; simp))) ((hinv _ _).mpr ⟨n, xs, d.hr, hn1, hn2, hp⟩) (.int y) (hq y h0 h1))
  have e0 : L2.start N [V.ref G.root, V.int m] = [some (.ref G.root), some (.int m)] := by
    unfold L2.start
    rw [hN]
    rfl
  rw [e0]
  refine htc W1 H _ [some (.own ((n0 :: xs0).map D.int)), some (.val (.int m))] (fun b => b = decide (n0 < ((xs0.length : Nat) : Int) + 1)) noX _ d0.ok (ts_env d0 fr) (take_c rfl) .no fun b W' H2 ok' g' hb => ?_
  have d2 := d0.grow hg g'
  cases b with
  | true =>
    rw [if_pos rfl]
    have hlt : n0 < ((xs0.length : Nat) : Int) + 1 := of_decide_eq_true hb.symm
    obtain ⟨kn, hkn⟩ := Int.eq_ofNat_of_zero_le (show 0 ≤ n0 - 1 by omega)
    have hk : kn < xs0.length := by omega
    refine bE_ok W1 H2 _ [some (.own ((n0 :: xs0).map D.int)), some (.val (.int m))] (fun t => ∃ y, t = .val (.int y) ∧ y = n0 + 1) _ d2.ok (ts_env d2 fr) (take_6 ⟨_, rfl, rfl⟩) fun v H3 o3 => ?_
    obtain ⟨y, rfl, rfl, d3⟩ := o3.intT d2 hg
    refine ⟨.ref G.root, rfl, G.root, _, 0, 0, rfl, rfl, d3.hr, ixN0 (Nat.succ_pos _), ?_⟩
    have d4 := d3.put (n' := n0 + 1) fr
    have e2 : n0 + 1 = ((kn : Nat) : Int) + 2 := by omega
    refine bE_ok W1 _ _ [some (.own (((((kn : Nat) : Int) + 2) :: xs0).map D.int)), some (.val (.int m))] (fun t => ∃ y, t = .val (.int y) ∧ 0 ≤ y ∧ y < m) _ d4.ok (by rw [← e2]; exact ts_env d4 fr) (take_7 (List.getElem?_eq_getElem hk) hm ⟨_, rfl, Int.emod_nonneg _ (by omega), Int.emod_lt_of_pos _ hm⟩) fun v H5 o5 => ?_
    obtain ⟨y, rfl, ⟨y0, y1⟩, d5⟩ := o5.intT d4 hg
    exact fin y H5 _ _ y0 y1 d5 (by omega) (by omega) hpos
  | false =>
    rw [if_neg Bool.false_ne_true]
    refine bE_ok W1 H2 _ [some (.own ((n0 :: xs0).map D.int)), some (.val (.int m))] (fun t => ∃ y, t = .val (.int y) ∧ y = 0) _ d2.ok (ts_env d2 fr) (by unfold tE8; rw [WE]; exact ⟨0, rfl, rfl⟩) fun v H3 o3 => ?_
    obtain ⟨y, rfl, rfl, d3⟩ := o3.intT d2 hg
    exact fin 0 H3 _ _ (Int.le_refl _) hm d3 hn1 hn2 hpos
end
end PL

namespace PL
open PySem PySem.Spec PyProof.Rows L2
/-! ## plain data by its shape -/
def plB : Nat → D → Bool
  | _, .non => true
  | _, .bl _ => true
  | _, .int _ => true
  | _, .str x => PyData.strOk x
  | n + 1, .lst xs => xs.all (plB n)
  | n + 1, .tup xs => xs.all (plB n)
  | _, _ => false
theorem plB_pys {n : Nat} (ih : ∀ d, plB n d = true → ∃ p, d.py = some p ∧ PyData.canLay0 p = true ∧ PyData.depth p ≤ n) : ∀ xs : List D, xs.all (plB n) = true → ∃ ps, D.pys xs = some ps ∧ PyData.canLayAll0 ps = true ∧ PyData.depthAll ps ≤ n
  | [], _ => ⟨[], by rw [D.pys], by rw [PyData.canLayAll0], by rw [PyData.depthAll]; exact Nat.zero_le _⟩
  | x :: xs, h => by
    rw [List.all_cons, Bool.and_eq_true] at h
    obtain ⟨p, a1, a2, a3⟩ := ih x h.1
    obtain ⟨ps, b1, b2, b3⟩ := plB_pys ih xs h.2
    refine ⟨p :: ps, by rw [D.pys, a1, b1], by rw [PyData.canLayAll0, a2, b2]; rfl, ?_⟩
    rw [PyData.depthAll]
    omega
theorem plB_py : ∀ (n : Nat) (d : D), plB n d = true → ∃ p, d.py = some p ∧ PyData.canLay0 p = true ∧ PyData.depth p ≤ n
  | n, .non, _ => ⟨_, by rw [D.py], by rw [PyData.canLay0], by rw [PyData.depth]; exact Nat.zero_le _⟩
  | n, .bl b, _ => ⟨_, by rw [D.py], by rw [PyData.canLay0], by rw [PyData.depth]; exact Nat.zero_le _⟩
  | n, .int b, _ => ⟨_, by rw [D.py], by rw [PyData.canLay0], by rw [PyData.depth]; exact Nat.zero_le _⟩
  | n, .str x, h => ⟨_, by rw [D.py], by rw [PyData.canLay0]; unfold plB at h; exact h, by rw [PyData.depth]; exact Nat.zero_le _⟩
  | 0, .lst xs, h => by unfold plB at h; cases h
  | 0, .tup xs, h => by unfold plB at h; cases h
  | n + 1, .lst xs, h => by
    have h : xs.all (plB n) = true := by unfold plB at h; exact h
    obtain ⟨ps, a1, a2, a3⟩ := plB_pys (plB_py n) xs h
    refine ⟨.list ps, by rw [D.py, a1]; rfl, by rw [PyData.canLay0]; exact a2, ?_⟩
    rw [PyData.depth]
    omega
  | n + 1, .tup xs, h => by
    have h : xs.all (plB n) = true := by unfold plB at h; exact h
    obtain ⟨ps, a1, a2, a3⟩ := plB_pys (plB_py n) xs h
    refine ⟨.tuple ps, by rw [D.py, a1]; rfl, by rw [PyData.canLay0]; exact a2, ?_⟩
    rw [PyData.depth]
    omega
  | 0, .scr _, h => by unfold plB at h; cases h
  | n + 1, .scr _, h => by unfold plB at h; cases h
  | 0, .dic _ _, h => by unfold plB at h; cases h
  | n + 1, .dic _ _, h => by unfold plB at h; cases h
  | 0, .obj _ _, h => by unfold plB at h; cases h
  | n + 1, .obj _ _, h => by unfold plB at h; cases h
  | 0, .g _ _, h => by unfold plB at h; cases h
  | n + 1, .g _ _, h => by unfold plB at h; cases h
theorem pl_of (n : Nat) {d : D} (h : plB n d = true) (hn : n ≤ 64 := by decide) : pl d = true := by
  obtain ⟨p, a1, a2, a3⟩ := plB_py n d h
  unfold pl
  rw [a1]
  unfold SeqAt.shaped
  rw [Bool.and_eq_true]
  exact ⟨a2, decide_eq_true (by omega)⟩
theorem eqDs_all {n : Nat} (ih : ∀ d, plB n d = true → eqD d d = true) : ∀ xs : List D, xs.all (plB n) = true → eqDs xs xs = true
  | [], _ => by rw [eqDs]
  | x :: xs, h => by
    rw [List.all_cons, Bool.and_eq_true] at h
    rw [eqDs, ih x h.1, eqDs_all ih xs h.2]
    rfl
theorem eqD_self : ∀ (n : Nat) (d : D), plB n d = true → eqD d d = true
  | n, .non, _ => by rw [eqD]
  | n, .bl b, _ => by rw [eqD]; exact beq_self_eq_true b
  | n, .int b, _ => by rw [eqD]; exact beq_self_eq_true b
  | n, .str x, h => by rw [eqD]; exact beq_self_eq_true x
  | 0, .lst xs, h => by unfold plB at h; cases h
  | 0, .tup xs, h => by unfold plB at h; cases h
  | n + 1, .lst xs, h => by
    have h : xs.all (plB n) = true := by unfold plB at h; exact h
    rw [eqD]
    exact eqDs_all (eqD_self n) xs h
  | n + 1, .tup xs, h => by
    have h : xs.all (plB n) = true := by unfold plB at h; exact h
    rw [eqD]
    exact eqDs_all (eqD_self n) xs h
  | 0, .scr _, h => by unfold plB at h; cases h
  | n + 1, .scr _, h => by unfold plB at h; cases h
  | 0, .dic _ _, h => by unfold plB at h; cases h
  | n + 1, .dic _ _, h => by unfold plB at h; cases h
  | 0, .obj _ _, h => by unfold plB at h; cases h
  | n + 1, .obj _ _, h => by unfold plB at h; cases h
  | 0, .g _ _, h => by unfold plB at h; cases h
  | n + 1, .g _ _, h => by unfold plB at h; cases h
/-- comparing plain data -/
theorem eqW_of (n : Nat) {a b : D} {v : Bool} {Q : QS} (ha : plB n a = true) (hb : plB n b = true) (e : eqD a b = v) (h : Q (.val (.bl v))) (hn : n ≤ 64 := by decide) : eqW a b Q := by
  unfold eqW
  rw [pl_of n ha hn, pl_of n hb hn, e]
  exact .inl ⟨⟨rfl, rfl⟩, h⟩
theorem neW_of (n : Nat) {a b : D} {v : Bool} {Q : QS} (ha : plB n a = true) (hb : plB n b = true) (e : eqD a b = v) (h : Q (.val (.bl (!v)))) (hn : n ≤ 64 := by decide) : neW a b Q := by
  unfold neW
  rw [pl_of n ha hn, pl_of n hb hn, e]
  exact .inl ⟨⟨rfl, rfl⟩, h⟩
theorem eqW_same (n : Nat) {a : D} {Q : QS} (ha : plB n a = true) (h : Q (.val (.bl true))) (hn : n ≤ 64 := by decide) : eqW a a Q := eqW_of n ha ha (eqD_self n a ha) h hn
theorem neW_same (n : Nat) {a : D} {Q : QS} (ha : plB n a = true) (h : Q (.val (.bl false))) (hn : n ≤ 64 := by decide) : neW a a Q := neW_of n ha ha (eqD_self n a ha) h hn
theorem eqDs_map {α : Type} [DecidableEq α] (f : α → D) (hf : ∀ a b, eqD (f a) (f b) = decide (a = b)) : ∀ xs ys : List α, eqDs (xs.map f) (ys.map f) = decide (xs = ys)
  | [], [] => by rw [List.map_nil, eqDs]; rfl
  | [], y :: ys => by rw [List.map_nil, List.map_cons, eqDs]; rfl; all_goals simp
  | x :: xs, [] => by rw [List.map_nil, List.map_cons, eqDs]; rfl; all_goals simp
  | x :: xs, y :: ys => by
    rw [List.map_cons, List.map_cons, eqDs, hf, eqDs_map f hf xs ys]
    by_cases h : x = y <;> by_cases k : xs = ys <;> simp [h, k]
/-! ## loops, comprehensions -/
theorem lcW_gen {α : Type} {step : D → (Option D → Prop) → Prop} {Q : QS} (f : α → D) (P : α → Prop) : ∀ (ds : List D) (acc : List α), acc.length + ds.length ≤ LIM → (∀ d ∈ ds, ∀ k : Option D → Prop, (∀ x, P x → k (some (f x))) → step d k) →
    (∀ zs : List α, zs.length = ds.length → (∀ z ∈ zs, P z) → Q (.own ((acc ++ zs).map f))) → lcW step Q ds (acc.map f)
  | [], acc, _, _, h => by
    have := h [] rfl (fun _ z => nomatch z)
    rw [List.append_nil] at this
    exact this
  | d :: ds, acc, hl, hs, h => by
    rw [lcW]
    refine hs d List.mem_cons_self _ fun x hx => ⟨by rw [List.length_map]; simp at hl; omega, ?_⟩
    have := lcW_gen f P ds (acc ++ [x]) (by simp at hl ⊢; omega) (fun d' hd' => hs d' (List.mem_cons_of_mem _ hd')) (fun zs hz hp => by
      have := h (x :: zs) (by simp [hz]) (fun z hz' => by
        rcases List.mem_cons.mp hz' with rfl | hz'
        · exact hx
        · exact hp z hz')
      rw [List.append_assoc]
      exact this)
    rw [List.map_append] at this
    exact this
/-- each item told -/
theorem lcW_map {step : D → (Option D → Prop) → Prop} {Q : QS} (f : D → D) : ∀ (ds acc : List D), acc.length + ds.length ≤ LIM → (∀ d ∈ ds, ∀ k : Option D → Prop, k (some (f d)) → step d k) → Q (.own (acc ++ ds.map f)) → lcW step Q ds acc
  | [], acc, _, _, h => by rw [List.map_nil, List.append_nil] at h; exact h
  | d :: ds, acc, hl, hs, h => by
    rw [lcW]
    refine hs d List.mem_cons_self _ ⟨by simp at hl; omega, ?_⟩
    refine lcW_map f ds (acc ++ [f d]) (by simp at hl ⊢; omega) (fun d' hd' => hs d' (List.mem_cons_of_mem _ hd')) ?_
    rw [List.append_assoc]
    exact h
/-- items of a kind -/
theorem lcW_of {α : Type} {step : D → (Option D → Prop) → Prop} {Q : QS} (g : α → D) (f : α → D) : ∀ (xs : List α) (acc : List D), acc.length + xs.length ≤ LIM → (∀ x ∈ xs, ∀ k : Option D → Prop, k (some (f x)) → step (g x) k) → Q (.own (acc ++ xs.map f)) → lcW step Q (xs.map g) acc
  | [], acc, _, _, h => by rw [List.map_nil, List.append_nil] at h; exact h
  | x :: xs, acc, hl, hs, h => by
    rw [List.map_cons, lcW]
    refine hs x List.mem_cons_self _ ⟨by simp at hl; omega, ?_⟩
    refine lcW_of g f xs (acc ++ [f x]) (by simp at hl ⊢; omega) (fun d' hd' => hs d' (List.mem_cons_of_mem _ hd')) ?_
    rw [List.append_assoc]
    exact h
/-- a comprehension that takes some of its items -/
theorem lcW_filt {step : D → (Option D → Prop) → Prop} {Q : QS} (c : D → Bool) : ∀ (ds acc : List D), acc.length + ds.length ≤ LIM → (∀ d ∈ ds, ∀ k : Option D → Prop, (c d = true → k (some d)) → (c d = false → k none) → step d k) → Q (.own (acc ++ ds.filter c)) → lcW step Q ds acc
  | [], acc, _, _, h => by rw [List.filter_nil, List.append_nil] at h; exact h
  | d :: ds, acc, hl, hs, h => by
    rw [lcW]
    refine hs d List.mem_cons_self _ (fun hc => ⟨by simp at hl; omega, ?_⟩) fun hc => ?_
    · refine lcW_filt c ds (acc ++ [d]) (by simp at hl ⊢; omega) (fun d' hd' => hs d' (List.mem_cons_of_mem _ hd')) ?_
      rw [List.append_assoc]
      rw [List.filter_cons_of_pos hc] at h
      exact h
    · refine lcW_filt c ds acc (by simp at hl ⊢; omega) (fun d' hd' => hs d' (List.mem_cons_of_mem _ hd')) ?_
      rw [List.filter_cons_of_neg (by rw [hc]; decide)] at h
      exact h
/-- items of a kind, some of them taken, made into others -/
theorem lcW_fm {α : Type} {step : D → (Option D → Prop) → Prop} {Q : QS} (g : α → D) (c : α → Bool) (f : α → D) : ∀ (xs : List α) (acc : List D), acc.length + xs.length ≤ LIM → (∀ x ∈ xs, ∀ k : Option D → Prop, (c x = true → k (some (f x))) → (c x = false → k none) → step (g x) k) → Q (.own (acc ++ (xs.filter c).map f)) → lcW step Q (xs.map g) acc
  | [], acc, _, _, h => by rw [List.filter_nil, List.map_nil, List.append_nil] at h; exact h
  | x :: xs, acc, hl, hs, h => by
    rw [List.map_cons, lcW]
    refine hs x List.mem_cons_self _ (fun hc => ⟨by simp at hl; omega, ?_⟩) fun hc => ?_
    · refine lcW_fm g c f xs (acc ++ [f x]) (by simp at hl ⊢; omega) (fun d' hd' => hs d' (List.mem_cons_of_mem _ hd')) ?_
      rw [List.append_assoc]
      rw [List.filter_cons_of_pos hc] at h
      exact h
    · refine lcW_fm g c f xs acc (by simp at hl ⊢; omega) (fun d' hd' => hs d' (List.mem_cons_of_mem _ hd')) ?_
      rw [List.filter_cons_of_neg (by rw [hc]; decide)] at h
      exact h
theorem rgD_from (a n : Nat) : rgD (a : Int) n = (List.range' a n).map fun i => D.int (i : Nat) := by
  unfold rgD
  rw [List.range'_eq_map_range, List.map_map]
  apply List.map_congr_left
  intro i _
  simp
theorem rgD_0 (n : Nat) : rgD 0 n = (List.range' 0 n).map fun i => D.int (i : Nat) := rgD_from 0 n
/-- a loop over a stretch of numbers -/
theorem forW_rg {step : D → Env → (Env → Prop) → Prop} {nx : Env → Prop} {f : Nat → D} (I : Nat → Env → Prop) (a n : Nat) {ρ : Env} (h0 : I a ρ) (hs : ∀ i ρ, a ≤ i → i < a + n → I i ρ → ∀ k : Env → Prop, (∀ ρ', I (i + 1) ρ' → k ρ') → step (f i) ρ k) (he : ∀ ρ, I (a + n) ρ → nx ρ) : forW step nx ((List.range' a n).map f) ρ := by
  have key : ∀ m j ρ, j + m = a + n → a ≤ j → I j ρ → forW step nx ((List.range' j m).map f) ρ := by
    intro m
    induction m with
    | zero =>
      intro j ρ e _ h
      have : j = a + n := by omega
      subst this
      exact he ρ h
    | succ m ih =>
      intro j ρ e ha h
      rw [List.range'_succ, List.map_cons, forW]
      exact hs j ρ ha (by omega) h _ fun ρ' h' => ih (j + 1) ρ' (by omega) (by omega) h'
  exact key n a ρ rfl (Nat.le_refl _) h0
/-- a loop over items of a kind -/
theorem forW_of {α : Type} {step : D → Env → (Env → Prop) → Prop} {nx : Env → Prop} {f : α → D} (I : List α → List α → Env → Prop) (xs : List α) {ρ : Env} (h0 : I [] xs ρ) (hs : ∀ u x v ρ, xs = u ++ x :: v → I u (x :: v) ρ → ∀ k : Env → Prop, (∀ ρ', I (u ++ [x]) v ρ' → k ρ') → step (f x) ρ k) (he : ∀ ρ, I xs [] ρ → nx ρ) : forW step nx (xs.map f) ρ := by
  have key : ∀ (v u : List α) ρ, xs = u ++ v → I u v ρ → forW step nx (v.map f) ρ := by
    intro v
    induction v with
    | nil =>
      intro u ρ e h
      rw [List.append_nil] at e
      subst e
      exact he ρ h
    | cons x v ih =>
      intro u ρ e h
      rw [List.map_cons, forW]
      exact hs u x v ρ e h _ fun ρ' h' => ih (u ++ [x]) ρ' (by rw [e, List.append_assoc]; rfl) h'
  exact key xs [] ρ rfl h0
theorem enum_of {α : Type} {f : α → D} (xs : List α) (y : α) : ((xs.map f).zipIdx.map fun p => D.tup [.int (p.2 : Nat), p.1]) = (List.range' 0 xs.length).map fun i => D.tup [.int (i : Nat), f (xs.getD i y)] := by
  apply List.ext_getElem
  · simp
  · intro i h1 h2
    simp at h1
    simp [List.getD_eq_getElem?_getD, List.getElem?_eq_getElem h1]
/-! ## lists made by a function of the place -/
theorem range_set {α : Type} {L m : Nat} {f : Nat → α} {v : α} : ((List.range L).map f).set m v = (List.range L).map fun j => if j = m then v else f j := by
  apply List.ext_getElem
  · simp
  · intro i h1 h2
    rw [List.getElem_set]
    simp only [List.getElem_map, List.getElem_range]
    by_cases h : m = i
    · rw [if_pos h, if_pos h.symm]
    · rw [if_neg h, if_neg fun z => h z.symm]
theorem range_get {α : Type} {L m : Nat} {f : Nat → α} (h : m < L) : ((List.range L).map f)[m]? = some (f m) := by
  rw [List.getElem?_map, List.getElem?_range h]
  rfl
theorem ixW_nat {xs : List D} {n : Nat} {Q : Nat → Prop} (h : n < xs.length) (k : Q n) : ixW xs (.int (n : Nat)) Q := by
  show (match ixN xs.length (n : Int) with
    | some j => Q j
    | none => False)
  rw [ixN_nat h]
  exact k
theorem idxW_ln {xs : List D} {n : Nat} {x : D} {Q : QS} (h : xs[n]? = some x) (k : Q (.val x)) : idxW (.lst xs) (.int (n : Nat)) Q := by
  rw [idxW_l, atI_nat h]
  exact k
theorem idxW_tn {xs : List D} {n : Nat} {x : D} {Q : QS} (h : xs[n]? = some x) (k : Q (.val x)) : idxW (.tup xs) (.int (n : Nat)) Q := by
  rw [idxW_t, atI_nat h]
  exact k
theorem cut_from {xs : List D} {k : Nat} : cutD xs (some (k : Int)) none = xs.drop k := by
  unfold cutD
  rw [HT.sIx_none, HT.sIx_nat]
  rcases Nat.le_total k xs.length with h | h
  · rw [Nat.min_eq_left h, List.take_of_length_le (by rw [List.length_drop]; omega)]
  · rw [Nat.min_eq_right h, List.drop_of_length_le (Nat.le_refl _), List.drop_of_length_le h]
    simp
theorem cut_ab {xs : List D} {i j : Nat} (h : j ≤ xs.length) : cutD xs (some (i : Int)) (some (j : Int)) = (xs.drop i).take (j - i) := by
  unfold cutD
  rw [HT.sIx_nat, HT.sIx_nat, Nat.min_eq_left h]
  rcases Nat.le_total i xs.length with g | g
  · rw [Nat.min_eq_left g]
  · rw [Nat.min_eq_right g, List.drop_of_length_le (Nat.le_refl _), List.drop_of_length_le g]
    simp
theorem cut_tail {xs : List D} {w : Nat} (h1 : 1 ≤ w) (h : w ≤ xs.length) : cutD xs (some (-(w : Int))) none = xs.drop (xs.length - w) := by
  have e : HT.sIx xs.length 0 (some (-(w : Int))) = xs.length - w := by
    unfold HT.sIx
    simp only
    rw [if_pos (by omega)]
    omega
  unfold cutD
  rw [HT.sIx_none, e, List.take_of_length_le (by rw [List.length_drop]; omega)]
theorem rep_one {n : Nat} {x : D} : (List.replicate n [x]).flatten = List.replicate n x := by
  induction n with
  | zero => rfl
  | succ k ih => rw [List.replicate_succ, List.flatten_cons, ih]; rfl
theorem allW_map {α : Type} {f : α → Bool} {xs : List α} {Q : QS} (h : Q (.val (.bl (xs.all f)))) : allW [.lst (xs.map fun x => D.bl (f x))] Q := by
  refine ⟨xs.map f, by rw [List.map_map]; rfl, ?_⟩
  rw [List.all_map]
  exact h
theorem anyW_map {α : Type} {f : α → Bool} {xs : List α} {Q : QS} (h : Q (.val (.bl (xs.any f)))) : anyW [.lst (xs.map fun x => D.bl (f x))] Q := by
  refine ⟨xs.map f, by rw [List.map_map]; rfl, ?_⟩
  rw [List.any_map]
  exact h
theorem ite_both {b : Bool} {A B : Prop} (h : B → b = true → A) (hB : B) : if b = true then A else B := by
  split
  · next g => exact h hB g
  · exact hB
theorem ite_t {b : Bool} {A B : Prop} (hb : b = true) (h : A) : if b = true then A else B := by
  rw [if_pos hb]
  exact h
theorem ite_f {b : Bool} {A B : Prop} (hb : b = false) (h : B) : if b = true then A else B := by
  rw [if_neg (by rw [hb]; decide)]
  exact h
theorem exmW_mk {Γ : Tab} {x y : Str} {b : Bool} {Q : Bool → Prop} (h : Γ.exm.lookup (x, y) = some b) (k : Q b) : exmW Γ x y Q := by
  unfold exmW
  rw [h]
  exact k
theorem to_nats {zs : List Int} (h : ∀ z ∈ zs, 0 ≤ z) : ∃ ps : List Nat, zs = ps.map fun p => ((p : Nat) : Int) := ⟨zs.map Int.toNat, by
    rw [List.map_map]
    conv => lhs; rw [← List.map_id zs]
    apply List.map_congr_left
    intro z hz'
    have := h z hz'
    simp
    omega⟩
theorem optA {xs : List D} {n : Nat} {x : D} {Q : QS} (h : xs[n]? = some x) (k : Q (.val x)) : optW (atI xs (n : Int)) Q := by
  rw [atI_nat h]
  exact k
/-! ## _law_pick -/
def msPick : List MS := (.ret (.bin .idx (.var 1) (.call "_law_draw" [(.var 0), (.cal .len [(.var 1)])]))) :: []
def NPick : List Str := ["state", "row"]
def spPick : FSp := fun ds Q _ => ∃ (i : Nat) (xs : List D), ds = [.g i 0, .lst xs] ∧ (1 ≤ xs.length ∧ xs.length ≤ 100000) ∧ ∀ x ∈ xs, Q (.val x)
abbrev G_pick : Tab := tabOf [("_law_draw", spDraw)] ["len"] [] [] []
theorem pure_pick : ∀ ds Q X, spPick ds Q X → ds.length = 2 ∧ WSs G_pick msPick (mkEnv 2 ds) (fnEnds Q X) := by
  rintro ds Q X ⟨i, xs, rfl, ⟨h1, h2⟩, hq⟩
  refine ⟨rfl, ?_⟩
  simp only [msPick, wipeE, WCs, mkEnv, fnEnds, WSs, WS, WE, WAs, WLs, WT, argK, argW, opW, opI, biW, Sl_v, Sl_o, csD, slW, ownW, if_true, if_false, addW_i, addW_l, addW_t, subW_i, mulW_i, mulW_l, mulW_t, fdivW_i, modW_i, powW_i, shlW_i, shrW_i, bitW_i, iaddW_i, imulW_i, ifdivW_i, ltW_i, leW_i, gtW_i, geW_i, eqW_i, neW_i, isW_n, isntW_n, isW_b, isntW_b, idxW_l, idxW_t, optW_s, optP_s, lenW_l, lenW_t, lenW_s, lenW_d, intW_i, intW_b, absW_i, maxW_i, minW_i, negW_i, listW_l, listW_t, tupleW_l, tupleW_t, sliceW_l, sliceW_t, isiW_1, optI_n, optI_s, truW_b, truW_i, truW_l, truW_t, truW_n, itW_l, itW_t, itW_r1, itW_r2, itW_r3, strW_i, itW_el, itW_et, itW_zl, itW_zt, itW_vl, itW_vt, tgW_n, tgW_t, setAll_c, setAll_n, List.map_cons, List.map_nil, List.cons_append, List.nil_append, List.append_nil, List.getElem?_cons_succ, List.getElem?_cons_zero, List.length_cons, List.length_nil, Nat.reduceAdd, Nat.reduceSub, List.replicate, List.set_cons_succ, List.set_cons_zero, mtW, mtTy, getW, bkW, dicW, revW, Sl_od, inW_d, notinW_d]
  refine fnW_mk rfl ⟨i, xs.length, rfl, by omega, sm_mk (by omega) (by omega), fun a a0 a1 => ?_⟩
  obtain ⟨n, rfl⟩ := Int.eq_ofNat_of_zero_le a0
  have hn : n < xs.length := by omega
  simp only [wipeE, WCs, mkEnv, fnEnds, WS, WE, WAs, WLs, WT, argK, argW, opW, opI, biW, Sl_v, Sl_o, csD, slW, ownW, if_true, if_false, addW_i, addW_l, addW_t, subW_i, mulW_i, mulW_l, mulW_t, fdivW_i, modW_i, powW_i, shlW_i, shrW_i, bitW_i, iaddW_i, imulW_i, ifdivW_i, ltW_i, leW_i, gtW_i, geW_i, eqW_i, neW_i, isW_n, isntW_n, isW_b, isntW_b, idxW_l, idxW_t, optW_s, optP_s, lenW_l, lenW_t, lenW_s, lenW_d, intW_i, intW_b, absW_i, maxW_i, minW_i, negW_i, listW_l, listW_t, tupleW_l, tupleW_t, sliceW_l, sliceW_t, isiW_1, optI_n, optI_s, truW_b, truW_i, truW_l, truW_t, truW_n, itW_l, itW_t, itW_r1, itW_r2, itW_r3, strW_i, itW_el, itW_et, itW_zl, itW_zt, itW_vl, itW_vt, tgW_n, tgW_t, setAll_c, setAll_n, List.map_cons, List.map_nil, List.cons_append, List.nil_append, List.append_nil, List.getElem?_cons_succ, List.getElem?_cons_zero, List.length_cons, List.length_nil, Nat.reduceAdd, Nat.reduceSub, List.replicate, List.set_cons_succ, List.set_cons_zero, mtW, mtTy, getW, bkW, dicW, revW, Sl_od, inW_d, notinW_d, atI_nat (List.getElem?_eq_getElem hn)]
  exact hq _ (List.getElem_mem hn)
/-! ## the largest, the least -/
theorem fmax_ge : ∀ (l : List Int) (a : Int), a ≤ l.foldl max a ∧ ∀ x ∈ l, x ≤ l.foldl max a
  | [], a => ⟨Int.le_refl _, fun _ z => nomatch z⟩
  | x :: l, a => by
    obtain ⟨h1, h2⟩ := fmax_ge l (max a x)
    rw [List.foldl_cons]
    refine ⟨by omega, fun y hy => ?_⟩
    rcases List.mem_cons.mp hy with rfl | hy
    · omega
    · exact h2 y hy
theorem fmax_mem : ∀ (l : List Int) (a : Int), l.foldl max a = a ∨ l.foldl max a ∈ l
  | [], a => .inl rfl
  | x :: l, a => by
    rw [List.foldl_cons]
    rcases fmax_mem l (max a x) with h | h
    · rw [h]
      rcases Int.le_total a x with hx | hx
      · exact .inr (by rw [Int.max_eq_right hx]; exact List.mem_cons_self)
      · exact .inl (Int.max_eq_left hx)
    · exact .inr (List.mem_cons_of_mem _ h)
theorem maxW_l {zs : List Int} {Q : QS} (hne : zs ≠ []) (h : ∀ M : Int, M ∈ zs → (∀ z ∈ zs, z ≤ M) → Q (.val (.int M))) : maxW [.lst (zs.map D.int)] Q := by
  exact ⟨zs, rfl, List.length_pos_iff.mpr hne, h⟩
theorem atI_last {xs : List D} {x : D} : atI (xs ++ [x]) (-1) = some x := by
  unfold atI ixN
  rw [if_neg (by decide)]
  have e : (xs ++ [x]).length = xs.length + 1 := by simp
  rw [e, if_pos (by omega)]
  show (xs ++ [x])[((-1 : Int) + ((xs.length + 1 : Nat) : Int)).toNat]? = some x
  rw [show ((-1 : Int) + ((xs.length + 1 : Nat) : Int)).toNat = xs.length by omega]
  simp
end PL

namespace PL
open PySem PySem.Spec PyProof.Rows L2
/-! ## the order of data -/
theorem lt_dint (a b : Int) : PySem.W.dataLt (.int a) (.int b) = decide (a < b) := by
  show lexLt itemOrd [.inl a] [.inl b] = _
  rw [lex_cons]
  have hc : ∀ x y : Int, itemOrd.blt (.inl x) (.inl y) = decide (x < y) := fun _ _ => rfl
  have hn : lexLt itemOrd [] [] = false := rfl
  rw [hc, hc, hn, Bool.and_false, Bool.or_false]
theorem lt_scons {x y : PyData} (xs ys : List PyData) (h : PySem.W.alike x y = true) : lexLt itemOrd (PySem.W.keyToksAll (x :: xs)) (PySem.W.keyToksAll (y :: ys)) = if PyData.eqv x y = true then lexLt itemOrd (PySem.W.keyToksAll xs) (PySem.W.keyToksAll ys) else PySem.W.dataLt x y := by
  rw [PySem.W.toks_all_cons, PySem.W.toks_all_cons, lex_self]
  obtain ⟨h1, h2⟩ := PySem.W.toks_eqv x y h
  cases e : PyData.eqv x y with
  | true => rw [if_pos rfl, h1 e, PySem.W.lex_pre]
  | false => rw [if_neg (by decide), h2 e]; rfl
theorem lt_snil : lexLt itemOrd (PySem.W.keyToksAll []) (PySem.W.keyToksAll []) = false := rfl
theorem lt_snc (y : PyData) (ys : List PyData) : lexLt itemOrd (PySem.W.keyToksAll []) (PySem.W.keyToksAll (y :: ys)) = true := by
  rw [PySem.W.toks_all_cons]
  show lexLt itemOrd [.inl 0] _ = true
  rw [lex_cons]
  rfl
theorem lt_scn (y : PyData) (ys : List PyData) : lexLt itemOrd (PySem.W.keyToksAll (y :: ys)) (PySem.W.keyToksAll []) = false := by
  rw [PySem.W.toks_all_cons]
  show lexLt itemOrd _ [.inl 0] = false
  rw [lex_cons]
  rfl
theorem lt_tup (xs ys : List PyData) : PySem.W.dataLt (.tuple xs) (.tuple ys) = lexLt itemOrd (PySem.W.keyToksAll xs) (PySem.W.keyToksAll ys) := rfl
theorem lt_lst (xs ys : List PyData) : PySem.W.dataLt (.list xs) (.list ys) = lexLt itemOrd (PySem.W.keyToksAll xs) (PySem.W.keyToksAll ys) := rfl
theorem eqv_i (a b : Int) : PyData.eqv (.int a) (.int b) = (a == b) := by rw [PyData.eqv]
/-- lists of numbers in order -/
def lexI : List Int → List Int → Bool
  | [], [] => false
  | [], _ :: _ => true
  | _ :: _, [] => false
  | x :: xs, y :: ys => decide (x < y) || (decide (x = y) && lexI xs ys)
theorem lt_ints : ∀ xs ys : List Int, lexLt itemOrd (PySem.W.keyToksAll (xs.map PyData.int)) (PySem.W.keyToksAll (ys.map PyData.int)) = lexI xs ys
  | [], [] => rfl
  | [], y :: ys => lt_snc _ _
  | x :: xs, [] => lt_scn _ _
  | x :: xs, y :: ys => by
    rw [List.map_cons, List.map_cons, lt_scons _ _ (alike_int x y), eqv_i, lt_ints xs ys, lexI, lt_dint]
    by_cases h : x = y
    · subst h
      simp
    · rw [beq_false_of_ne h, decide_eq_false h]
      simp
theorem eqv_ints (xs ys : List Int) : PyData.eqvAll (xs.map PyData.int) (ys.map PyData.int) = decide (xs = ys) := by
  induction xs generalizing ys with
  | nil => cases ys <;> rw [List.map_nil] <;> first | rfl | (rw [List.map_cons, PyData.eqvAll]; simp; all_goals simp)
  | cons x xs ih =>
    cases ys with
    | nil => rw [List.map_cons, List.map_nil, PyData.eqvAll]; simp; all_goals simp
    | cons y ys =>
      rw [List.map_cons, List.map_cons, PyData.eqvAll, eqv_i, ih]
      by_cases h : x = y <;> by_cases k : xs = ys <;> simp [h, k]
theorem alike_ints : ∀ xs ys : List Int, PySem.W.alikeAll (xs.map PyData.int) (ys.map PyData.int) = true
  | [], _ => by rw [List.map_nil, PySem.W.alikeAll]
  | _ :: _, [] => by rw [List.map_cons, List.map_nil, PySem.W.alikeAll]
  | x :: xs, y :: ys => by rw [List.map_cons, List.map_cons, PySem.W.alikeAll, alike_int, alike_ints xs ys]; rfl
theorem lexI_irr : ∀ xs : List Int, lexI xs xs = false
  | [] => rfl
  | x :: xs => by rw [lexI, lexI_irr xs]; simp
theorem lexI_asym : ∀ xs ys : List Int, lexI xs ys = true → lexI ys xs = false
  | [], [], h => by cases h
  | [], _ :: _, _ => rfl
  | _ :: _, [], h => by cases h
  | x :: xs, y :: ys, h => by
    rw [lexI, Bool.or_eq_true, Bool.and_eq_true, decide_eq_true_eq, decide_eq_true_eq] at h
    rw [lexI]
    rcases h with h | ⟨rfl, h⟩
    · rw [decide_eq_false (by omega), decide_eq_false (by omega)]
      rfl
    · rw [lexI_asym xs ys h]
      simp
theorem lexI_tot : ∀ xs ys : List Int, lexI xs ys = false → lexI ys xs = false → xs = ys
  | [], [], _, _ => rfl
  | [], _ :: _, h, _ => by cases h
  | _ :: _, [], _, h => by cases h
  | x :: xs, y :: ys, h, k => by
    rw [lexI, Bool.or_eq_false_iff, decide_eq_false_iff_not] at h k
    have : x = y := by omega
    subst this
    have h2 := h.2
    have k2 := k.2
    rw [decide_eq_true rfl, Bool.true_and] at h2 k2
    rw [lexI_tot xs ys h2 k2]
theorem lexI_trans : ∀ xs ys zs : List Int, lexI xs ys = true → lexI ys zs = true → lexI xs zs = true
  | [], [], _, h, _ => by cases h
  | [], _ :: _, [], _, k => by cases k
  | [], _ :: _, _ :: _, _, _ => rfl
  | _ :: _, [], _, h, _ => by cases h
  | _ :: _, _ :: _, [], _, k => by cases k
  | x :: xs, y :: ys, z :: zs, h, k => by
    rw [lexI, Bool.or_eq_true, Bool.and_eq_true, decide_eq_true_eq, decide_eq_true_eq] at h k ⊢
    rcases h with h | ⟨rfl, h⟩ <;> rcases k with k | ⟨rfl, k⟩
    · exact .inl (by omega)
    · exact .inl h
    · exact .inl k
    · exact .inr ⟨rfl, lexI_trans xs ys zs h k⟩
/-- comparing tuples -/
theorem ltW_t {xs ys : List D} {p q : PyData} {b : Bool} {Q : QS} (hx : (D.tup xs).py = some p) (hy : (D.tup ys).py = some q) (ha : PySem.W.alike p q = true) (hd : p.depth ≤ 60) (hb : PySem.W.dataLt p q = b) (k : Q (.val (.bl b))) : ltW (.tup xs) (.tup ys) Q :=
  ⟨b, ⟨p, q, hx, hy, ha, (fun z => by rw [D.py] at hx; subst z; cases h : D.pys xs <;> rw [h] at hx <;> cases hx), hd, hb.symm⟩, k⟩
theorem leW_t {xs ys : List D} {p q : PyData} {b : Bool} {Q : QS} (hx : (D.tup xs).py = some p) (hy : (D.tup ys).py = some q) (ha : PySem.W.alike p q = true) (hd : p.depth ≤ 60) (hb : PySem.W.dataLt q p = b) (k : Q (.val (.bl (!b)))) : leW (.tup xs) (.tup ys) Q :=
  ⟨!b, ⟨p, q, hx, hy, ha, (fun z => by rw [D.py] at hx; subst z; cases h : D.pys xs <;> rw [h] at hx <;> cases hx), hd, (congrArg not hb).symm⟩, k⟩
theorem ltW_l {xs ys : List D} {p q : PyData} {b : Bool} {Q : QS} (hx : (D.lst xs).py = some p) (hy : (D.lst ys).py = some q) (ha : PySem.W.alike p q = true) (hd : p.depth ≤ 60) (hb : PySem.W.dataLt p q = b) (k : Q (.val (.bl b))) : ltW (.lst xs) (.lst ys) Q :=
  ⟨b, ⟨p, q, hx, hy, ha, (fun z => by rw [D.py] at hx; subst z; cases h : D.pys xs <;> rw [h] at hx <;> cases hx), hd, hb.symm⟩, k⟩
end PL

namespace PL.K47
abbrev P := Int × Int
def pa (x y : P) : P := (x.1 + y.1, x.2 + y.2)
def pm (x y : P) : P := (x.1 * y.1 - x.2 * y.2, x.1 * y.2 + x.2 * y.1)
def p0 : P := (0, 0)
theorem pa_c (x y : P) : pa x y = pa y x := by unfold pa; ext <;> simp <;> omega
theorem pa_a (x y z : P) : pa (pa x y) z = pa x (pa y z) := by unfold pa; ext <;> simp <;> omega
theorem pa_0 (x : P) : pa x p0 = x := by unfold pa p0; simp
theorem pa_0' (x : P) : pa p0 x = x := by unfold pa p0; simp
theorem pm_c (x y : P) : pm x y = pm y x := by unfold pm; ext <;> simp <;> grind
theorem pm_a (x y z : P) : pm (pm x y) z = pm x (pm y z) := by unfold pm; ext <;> simp <;> grind
theorem pm_d (x y z : P) : pm x (pa y z) = pa (pm x y) (pm x z) := by unfold pm pa; ext <;> simp <;> grind
theorem pm_d' (x y z : P) : pm (pa x y) z = pa (pm x z) (pm y z) := by unfold pm pa; ext <;> simp <;> grind
theorem pm_0 (x : P) : pm x p0 = p0 := by unfold pm p0; simp
theorem pm_0' (x : P) : pm p0 x = p0 := by unfold pm p0; simp
theorem sq_pos {a b : Int} (h : ¬ (a = 0 ∧ b = 0)) : 0 < a * a + b * b := by
  have h1 : 0 ≤ a * a := by
    rcases Int.le_total 0 a with g | g
    · exact Int.mul_nonneg g g
    · exact Int.mul_nonneg_of_nonpos_of_nonpos g g
  have h2 : 0 ≤ b * b := by
    rcases Int.le_total 0 b with g | g
    · exact Int.mul_nonneg g g
    · exact Int.mul_nonneg_of_nonpos_of_nonpos g g
  by_cases ha : a = 0
  · have hb : b ≠ 0 := fun z => h ⟨ha, z⟩
    have : b * b ≠ 0 := fun z => by
      rcases Int.mul_eq_zero.mp z with z | z <;> exact hb z
    omega
  · have : a * a ≠ 0 := fun z => by
      rcases Int.mul_eq_zero.mp z with z | z <;> exact ha z
    omega
theorem pm_ne {x y : P} (hx : x ≠ p0) (hy : y ≠ p0) : pm x y ≠ p0 := by
  obtain ⟨a, b⟩ := x
  obtain ⟨c, d⟩ := y
  intro h
  have h1 : a * c - b * d = 0 := congrArg Prod.fst h
  have h2 : a * d + b * c = 0 := congrArg Prod.snd h
  have hp := sq_pos (a := a) (b := b) fun ⟨u, v⟩ => hx (by rw [u, v]; rfl)
  have e1 : (a * a + b * b) * c = 0 := by grind
  have e2 : (a * a + b * b) * d = 0 := by grind
  apply hy
  rcases Int.mul_eq_zero.mp e1 with z | z
  · omega
  · rcases Int.mul_eq_zero.mp e2 with w | w
    · omega
    · rw [z, w]; rfl
/-- Cauchy's product -/
def cnv : (Nat → P) → (Nat → P) → Nat → P
  | f, g, 0 => pm (f 0) (g 0)
  | f, g, m + 1 => pa (pm (f 0) (g (m + 1))) (cnv (fun n => f (n + 1)) g m)
theorem cnv_r : ∀ (m : Nat) (f g : Nat → P), cnv f g (m + 1) = pa (cnv f (fun n => g (n + 1)) m) (pm (f (m + 1)) (g 0))
  | 0, f, g => rfl
  | m + 1, f, g => by
    rw [cnv, cnv_r m, cnv, pa_a]
theorem cnv_c : ∀ (m : Nat) (f g : Nat → P), cnv f g m = cnv g f m
  | 0, f, g => pm_c _ _
  | m + 1, f, g => by
    rw [cnv, cnv_r m g f, cnv_c m, pm_c, pa_c]
theorem cnv_add : ∀ (m : Nat) (f f' g : Nat → P), cnv (fun n => pa (f n) (f' n)) g m = pa (cnv f g m) (cnv f' g m)
  | 0, f, f', g => pm_d' _ _ _
  | m + 1, f, f', g => by
    rw [cnv, cnv, cnv, cnv_add m (fun n => f (n + 1)) (fun n => f' (n + 1)) g, pm_d', pa_a, pa_a]
    congr 1
    rw [← pa_a, ← pa_a, pa_c (pm (f' 0) _)]
theorem cnv_scal : ∀ (m : Nat) (x : P) (f g : Nat → P), cnv (fun n => pm x (f n)) g m = pm x (cnv f g m)
  | 0, x, f, g => pm_a _ _ _
  | m + 1, x, f, g => by
    rw [cnv, cnv, cnv_scal m x (fun n => f (n + 1)) g, pm_d, pm_a]
theorem cnv_a : ∀ (m : Nat) (f g h : Nat → P), cnv (cnv f g) h m = cnv f (cnv g h) m
  | 0, f, g, h => pm_a _ _ _
  | m + 1, f, g, h => by
    rw [cnv, cnv]
    have e : (fun n => cnv f g (n + 1)) = fun n => pa (pm (f 0) (g (n + 1))) (cnv (fun k => f (k + 1)) g n) := by
      funext n
      rw [cnv]
    rw [e, cnv_add, cnv_scal, cnv_a m (fun k => f (k + 1)) g h]
    rw [show cnv f (cnv g h) (m + 1) = pa (pm (f 0) (cnv g h (m + 1))) (cnv (fun n => f (n + 1)) (cnv g h) m) from by rw [cnv], show cnv g h (m + 1) = pa (pm (g 0) (h (m + 1))) (cnv (fun n => g (n + 1)) h m) from by rw [cnv], pm_d, pm_a, pa_a]
theorem cnv_z : ∀ (m : Nat) (f g : Nat → P), (∀ n, f n = p0) → cnv f g m = p0
  | 0, f, g, h => by rw [cnv, h, pm_0']
  | m + 1, f, g, h => by rw [cnv, h, pm_0', cnv_z m _ g fun n => h (n + 1), pa_0]
/-- sums -/
def dot (f w : Nat → P) : Nat → P
  | 0 => p0
  | n + 1 => pa (dot f w n) (pm (f n) (w n))
def bk (g : Nat → P) (m k : Nat) : P := if k ≤ m then g (m - k) else p0
theorem dot_l : ∀ (n : Nat) (f w : Nat → P), dot f w (n + 1) = pa (pm (f 0) (w 0)) (dot (fun k => f (k + 1)) (fun k => w (k + 1)) n)
  | 0, f, w => by rw [dot, dot, dot, pa_0, pa_0']
  | n + 1, f, w => by rw [dot, dot_l n, dot, pa_a]
theorem dot_cnv : ∀ (m : Nat) (f g : Nat → P), dot f (bk g m) (m + 1) = cnv f g m
  | 0, f, g => by
    rw [dot, dot, pa_0', cnv, bk, if_pos (Nat.le_refl _)]
  | m + 1, f, g => by
    rw [dot_l, cnv, bk, if_pos (Nat.zero_le _), ← dot_cnv m]
    have e : (fun k => bk g (m + 1) (k + 1)) = bk g m := by
      funext k
      unfold bk
      by_cases h : k ≤ m
      · rw [if_pos h, if_pos (by omega)]
        congr 1
        omega
      · rw [if_neg h, if_neg (by omega)]
    rw [e]
    rfl
theorem dot_more {f w : Nat → P} {n : Nat} (h : ∀ k, n ≤ k → pm (f k) (w k) = p0) : ∀ d, dot f w (n + d) = dot f w n
  | 0 => rfl
  | d + 1 => by rw [← Nat.add_assoc, dot, dot_more h d, h _ (by omega), pa_0]
/-- terms behind the end are nothing -/
theorem dot_end {f g : Nat → P} {n m : Nat} (h : ∀ k, n ≤ k → f k = p0) : dot f (bk g m) n = cnv f g m := by
  rw [← dot_cnv]
  rcases Nat.le_total n (m + 1) with a | a
  · obtain ⟨d, hd⟩ : ∃ d, m + 1 = n + d := ⟨m + 1 - n, by omega⟩
    rw [hd, dot_more fun k hk => by rw [h k hk, pm_0']]
  · obtain ⟨d, e⟩ : ∃ d, n = m + 1 + d := ⟨n - (m + 1), by omega⟩
    rw [e, dot_more fun k hk => by rw [bk, if_neg (by omega), pm_0]]
def co (a : List P) (n : Nat) : P := a.getD n p0
theorem co_end {a : List P} {k : Nat} (h : a.length ≤ k) : co a k = p0 := by
  unfold co
  rw [List.getD_eq_getElem?_getD, List.getElem?_eq_none h]
  rfl
theorem co_get {a : List P} {k : Nat} (h : k < a.length) : a[k]? = some (co a k) := by
  unfold co
  rw [List.getD_eq_getElem?_getD, List.getElem?_eq_getElem h]
  rfl
/-- nothing behind the sum of the lengths -/
theorem cnv_end : ∀ (m n k : Nat) (f g : Nat → P), (∀ i, n ≤ i → f i = p0) → (∀ i, k ≤ i → g i = p0) → n + k ≤ m + 1 → cnv f g m = p0
  | m, n, k, f, g, hf, hg, h => by
    rw [← dot_end hf]
    have : ∀ j, j ≤ n → dot f (bk g m) j = p0 := by
      intro j
      induction j with
      | zero => intro _; rfl
      | succ j ih =>
        intro hj
        rw [dot, ih (by omega), bk]
        split
        · rw [hg _ (by omega), pm_0, pa_0]
        · rw [pm_0, pa_0]
    exact this n (Nat.le_refl _)
/-- lines behind each other -/
def cv (a b : List P) : List P := (List.range (a.length + b.length - 1)).map (cnv (co a) (co b))
theorem cv_len {a b : List P} : (cv a b).length = a.length + b.length - 1 := by simp [cv]
theorem co_cv {a b : List P} : co (cv a b) = cnv (co a) (co b) := by
  funext m
  rcases Nat.lt_or_ge m (a.length + b.length - 1) with h | h
  · unfold co
    rw [List.getD_eq_getElem?_getD, cv, List.getElem?_map, List.getElem?_range h]
    rfl
  · rw [co_end (by rw [cv_len]; exact h), cnv_end m a.length b.length _ _ (fun i hi => co_end hi) (fun i hi => co_end hi) (by omega)]
theorem cv_c {a b : List P} : cv a b = cv b a := by
  unfold cv
  rw [Nat.add_comm]
  apply List.map_congr_left
  intro m _
  exact cnv_c m _ _
theorem cv_a {a b c : List P} (ha : a ≠ []) (hb : b ≠ []) (hc : c ≠ []) : cv (cv a b) c = cv a (cv b c) := by
  have la := List.length_pos_iff.mpr ha
  have lb := List.length_pos_iff.mpr hb
  have lc := List.length_pos_iff.mpr hc
  unfold cv
  rw [show (List.range (a.length + b.length - 1)).map (cnv (co a) (co b)) = cv a b from rfl, show (List.range (b.length + c.length - 1)).map (cnv (co b) (co c)) = cv b c from rfl, cv_len, cv_len, co_cv, co_cv]
  rw [show a.length + b.length - 1 + c.length - 1 = a.length + (b.length + c.length - 1) - 1 by omega]
  apply List.map_congr_left
  intro m _
  exact cnv_a m _ _ _
theorem cv_ne {a b : List P} (ha : a ≠ []) (hb : b ≠ []) : cv a b ≠ [] := by
  have la := List.length_pos_iff.mpr ha
  have lb := List.length_pos_iff.mpr hb
  intro h
  have := congrArg List.length h
  rw [cv_len] at this
  simp at this
  omega
/-- not all are nothing -/
def NZ (a : List P) : Prop := ∃ x ∈ a, x ≠ p0
theorem nz_ne {a : List P} (h : NZ a) : a ≠ [] := fun z => by
  obtain ⟨x, hx, _⟩ := h
  rw [z] at hx
  cases hx
theorem nz_first {a : List P} (h : NZ a) : ∃ i, i < a.length ∧ co a i ≠ p0 ∧ ∀ j, j < i → co a j = p0 := by
  induction a with
  | nil => obtain ⟨x, hx, _⟩ := h; cases hx
  | cons x a ih =>
    by_cases hx : x = p0
    · have : NZ a := by
        obtain ⟨y, hy, hn⟩ := h
        rcases List.mem_cons.mp hy with rfl | hy
        · exact absurd hx hn
        · exact ⟨y, hy, hn⟩
      obtain ⟨i, h1, h2, h3⟩ := ih this
      refine ⟨i + 1, by simpa using h1, by simpa [co] using h2, fun j hj => ?_⟩
      cases j with
      | zero => simpa [co] using hx
      | succ j => simpa [co] using h3 j (by omega)
    · exact ⟨0, by simp, by simpa [co] using hx, fun j hj => absurd hj (Nat.not_lt_zero _)⟩
theorem dot_one {f w : Nat → P} {i : Nat} (h : ∀ k, k ≠ i → pm (f k) (w k) = p0) : ∀ n, i < n → dot f w n = pm (f i) (w i)
  | 0, hn => absurd hn (Nat.not_lt_zero _)
  | n + 1, hn => by
    rw [dot]
    rcases Nat.lt_or_ge i n with g | g
    · rw [dot_one h n g, h n (by omega), pa_0]
    · have e : n = i := by omega
      subst e
      have z : ∀ j, j ≤ n → dot f w j = p0 := by
        intro j
        induction j with
        | zero => intro _; rfl
        | succ j ih => intro hj; rw [dot, ih (by omega), h j (by omega), pa_0]
      rw [z n (Nat.le_refl _), pa_0']
theorem nz_cv {a b : List P} (ha : NZ a) (hb : NZ b) : NZ (cv a b) := by
  obtain ⟨i, i1, i2, i3⟩ := nz_first ha
  obtain ⟨j, j1, j2, j3⟩ := nz_first hb
  have hlt : i + j < a.length + b.length - 1 := by omega
  refine ⟨cnv (co a) (co b) (i + j), List.mem_map.mpr ⟨i + j, List.mem_range.mpr hlt, rfl⟩, ?_⟩
  rw [← dot_cnv, dot_one (i := i) (fun k hk => ?_) _ (by omega)]
  · rw [bk, if_pos (by omega), Nat.add_sub_cancel_left]
    exact pm_ne i2 j2
  · rcases Nat.lt_or_ge k i with g | g
    · rw [i3 k g, pm_0']
    · unfold bk
      split
      · rw [j3 _ (by omega), pm_0]
      · exact pm_0 _
/-- sizes of parts -/
def bd (A : Int) (x : P) : Prop := (-A ≤ x.1 ∧ x.1 ≤ A) ∧ (-A ≤ x.2 ∧ x.2 ≤ A)
theorem mul_bd {A B x y : Int} (h1 : -A ≤ x) (h2 : x ≤ A) (h3 : -B ≤ y) (h4 : y ≤ B) : -(A * B) ≤ x * y ∧ x * y ≤ A * B := by
  have hA : 0 ≤ A := by omega
  have hB : 0 ≤ B := by omega
  rcases Int.le_total 0 x with hx | hx <;> rcases Int.le_total 0 y with hy | hy
  · have a1 := Int.mul_le_mul h2 h4 hy hA
    have a2 := Int.mul_nonneg hx hy
    have a3 := Int.mul_nonneg hA hB
    omega
  · have a1 := Int.mul_le_mul h2 (show -y ≤ B by omega) (by omega) hA
    have a2 := Int.mul_nonneg hx (show 0 ≤ -y by omega)
    have a3 := Int.mul_nonneg hA hB
    rw [Int.mul_neg] at a1 a2
    omega
  · have a1 := Int.mul_le_mul (show -x ≤ A by omega) h4 hy hA
    have a2 := Int.mul_nonneg (show 0 ≤ -x by omega) hy
    have a3 := Int.mul_nonneg hA hB
    rw [Int.neg_mul] at a1 a2
    omega
  · have a1 := Int.mul_le_mul (show -x ≤ A by omega) (show -y ≤ B by omega) (by omega) hA
    have a2 := Int.mul_nonneg (show 0 ≤ -x by omega) (show 0 ≤ -y by omega)
    have a3 := Int.mul_nonneg hA hB
    rw [Int.neg_mul_neg] at a1 a2
    omega
theorem bd_pm {A B : Int} {x y : P} (hx : bd A x) (hy : bd B y) : bd (2 * (A * B)) (pm x y) := by
  obtain ⟨⟨a1, a2⟩, a3, a4⟩ := hx
  obtain ⟨⟨b1, b2⟩, b3, b4⟩ := hy
  have c1 := mul_bd a1 a2 b1 b2
  have c2 := mul_bd a3 a4 b3 b4
  have c3 := mul_bd a1 a2 b3 b4
  have c4 := mul_bd a3 a4 b1 b2
  unfold bd pm
  simp only
  omega
theorem bd_dot {A B : Int} {f w : Nat → P} (hf : ∀ k, bd A (f k)) (hw : ∀ k, bd B (w k)) : ∀ n : Nat, bd (n * (2 * (A * B))) (dot f w n)
  | 0 => by simp [bd, dot, p0]
  | n + 1 => by
    have h1 := bd_dot hf hw n
    have h2 := bd_pm (hf n) (hw n)
    rw [dot]
    generalize dot f w n = u at h1
    generalize pm (f n) (w n) = v at h2
    obtain ⟨⟨a1, a2⟩, a3, a4⟩ := h1
    obtain ⟨⟨b1, b2⟩, b3, b4⟩ := h2
    have e : ((n + 1 : Nat) : Int) * (2 * (A * B)) = n * (2 * (A * B)) + 2 * (A * B) := by
      rw [Int.natCast_add, Int.add_mul]
      simp
    rw [e]
    unfold bd pa
    simp only
    omega
theorem bd_0 {A : Int} (h : 0 ≤ A) : bd A p0 := by
  unfold bd p0
  simp only
  omega
theorem bd_co {A : Int} (h : 0 ≤ A) {a : List P} (ha : ∀ x ∈ a, bd A x) (k : Nat) : bd A (co a k) := by
  rcases Nat.lt_or_ge k a.length with g | g
  · have := co_get g
    exact ha _ (List.mem_of_getElem? this)
  · rw [co_end g]
    exact bd_0 h
theorem bd_bk {A : Int} (h : 0 ≤ A) {g : Nat → P} (hg : ∀ k, bd A (g k)) (m k : Nat) : bd A (bk g m k) := by
  unfold bk
  split
  · exact hg _
  · exact bd_0 h
theorem cnv_add2 (m : Nat) (f g g' : Nat → P) : cnv f (fun n => pa (g n) (g' n)) m = pa (cnv f g m) (cnv f g' m) := by
  rw [cnv_c, cnv_add, cnv_c m g f, cnv_c m g' f]
/-- a quarter-turn -/
def rot (x : P) : P := (-x.2, x.1)
theorem rot_pm (x : P) : rot x = pm (0, 1) x := by unfold rot pm; ext <;> simp
theorem rot_0 : rot p0 = p0 := rfl
theorem cnv_rot (m : Nat) (f g : Nat → P) : cnv (fun n => rot (f n)) g m = rot (cnv f g m) := by
  rw [rot_pm, ← cnv_scal]
  congr 1
  funext n
  exact rot_pm _
theorem co_rot {a : List P} : co (a.map rot) = fun n => rot (co a n) := by
  funext n
  unfold co
  rw [List.getD_eq_getElem?_getD, List.getD_eq_getElem?_getD, List.getElem?_map]
  cases a[n]? <;> rfl
theorem cv_rot {a p : List P} : cv (a.map rot) p = (cv a p).map rot := by
  unfold cv
  rw [List.length_map, List.map_map, co_rot]
  apply List.map_congr_left
  intro m _
  exact cnv_rot m _ _
def rotN : Nat → P → P
  | 0, x => x
  | n + 1, x => rot (rotN n x)
theorem cv_rotN {a p : List P} : ∀ n, cv (a.map (rotN n)) p = (cv a p).map (rotN n)
  | 0 => by
    have e : (rotN 0 : P → P) = id := rfl
    rw [e, List.map_id, List.map_id]
  | n + 1 => by
    have e : (rotN (n + 1) : P → P) = rot ∘ rotN n := rfl
    rw [e, ← List.map_map, cv_rot, cv_rotN n, List.map_map]
/-- what comes out, nothing for nothing -/
def sv (a p : List P) : List P := if p = [] then [] else cv a p
theorem sv_len {a p : List P} (ha : 1 ≤ a.length) : (sv a p).length = if p = [] then 0 else a.length + p.length - 1 := by
  unfold sv
  split
  · rfl
  · exact cv_len
theorem cv_comm0 {a p : List P} : cv p a = cv a p := cv_c
theorem co_add {p q : List P} (h : p.length = q.length) : co ((List.range p.length).map fun k => pa (co p k) (co q k)) = fun n => pa (co p n) (co q n) := by
  funext n
  rcases Nat.lt_or_ge n p.length with g | g
  · conv => lhs; unfold co
    rw [List.getD_eq_getElem?_getD, List.getElem?_map, List.getElem?_range g]
    rfl
  · rw [co_end (by simpa using g), co_end g, co_end (by omega), pa_0]
theorem cv_add {a p q : List P} (h : p.length = q.length) : cv a ((List.range p.length).map fun k => pa (co p k) (co q k)) = (List.range (cv a p).length).map fun k => pa (co (cv a p) k) (co (cv a q) k) := by
  rw [cv_len, co_cv, co_cv]
  conv => lhs; unfold cv
  rw [co_add h, List.length_map, List.length_range]
  apply List.map_congr_left
  intro m _
  exact cnv_add2 m _ _ _
end PL.K47

namespace PL.K47
open PySem PySem.Spec PyProof.Rows L2 PL
def ms_plus : List MS := (.ret (.tup [(.bin .add (.bin .idx (.var 0) (.cst (.int 0))) (.bin .idx (.var 1) (.cst (.int 0)))), (.bin .add (.bin .idx (.var 0) (.cst (.int 1))) (.bin .idx (.var 1) (.cst (.int 1))))])) :: []
def N_plus : List Str := ["one", "other"]
def ps_plus : List Str := ["one", "other"]
def ms_times : List MS := (.ret (.tup [(.bin .sub (.bin .mul (.bin .idx (.var 0) (.cst (.int 0))) (.bin .idx (.var 1) (.cst (.int 0)))) (.bin .mul (.bin .idx (.var 0) (.cst (.int 1))) (.bin .idx (.var 1) (.cst (.int 1))))), (.bin .add (.bin .mul (.bin .idx (.var 0) (.cst (.int 0))) (.bin .idx (.var 1) (.cst (.int 1)))) (.bin .mul (.bin .idx (.var 0) (.cst (.int 1))) (.bin .idx (.var 1) (.cst (.int 0)))))])) :: []
def N_times : List Str := ["one", "other"]
def ps_times : List Str := ["one", "other"]
def ms_reach : List MS := (.ret (.bin .sub (.cal .len [(.bin .idx (.var 0) (.cst (.int 1)))]) (.cst (.int 1)))) :: []
def N_reach : List Str := ["line"]
def ps_reach : List Str := ["line"]
def ms_sample_b1 : List MS := (.set 2 (.call "plus" [(.var 2), (.call "times" [(.var 4), (.bin .idx (.var 1) (.bin .sub (.bin .sub (.cal .len [(.var 1)]) (.cst (.int 1))) (.var 3)))])])) :: []
def ms_sample_2 : List MS := (.ret (.var 2)) :: []
def ms_sample_1 : List MS := (.for_ (.tp [3, 4]) .enum [(.bin .idx (.var 0) (.cst (.int 1)))] ms_sample_b1) :: ms_sample_2
def ms_sample : List MS := (.set 2 (.tup [(.cst (.int 0)), (.cst (.int 0))])) :: ms_sample_1
def N_sample : List Str := ["line", "points", "found", "k", "tap"]
def ps_sample : List Str := ["line", "points"]
def ms_sent_b1 : List MS := (.ret (.lst [])) :: []
def ms_sent_6 : List MS := (.ret (.lc (.call "sample" [(.var 0), (.slice (.var 3) [(.var 5)] [(.bin .add (.var 5) (.var 4))])]) (.nm 5) [("at", 5)] .range1 [(.bin .add (.cal .len [(.var 1)]) (.call "reach" [(.var 0)]))] [])) :: []
def ms_sent_5 : List MS := (.set 4 (.bin .add (.call "reach" [(.var 0)]) (.cst (.int 1)))) :: ms_sent_6
def ms_sent_4 : List MS := (.frz 3) :: ms_sent_5
def ms_sent_3 : List MS := (.set 3 (.bin .add (.bin .add (.var 2) (.cal .list [(.var 1)])) (.var 2))) :: ms_sent_4
def ms_sent_2 : List MS := (.frz 2) :: ms_sent_3
def ms_sent_1 : List MS := (.set 2 (.bin .mul (.lst [(.tup [(.cst (.int 0)), (.cst (.int 0))])]) (.call "reach" [(.var 0)]))) :: ms_sent_2
def ms_sent : List MS := (.if_ (.bin .eq (.cal .len [(.var 1)]) (.cst (.int 0))) ms_sent_b1 []) :: ms_sent_1
def N_sent : List Str := ["line", "points", "quiet", "row", "width", "at"]
def ps_sent : List Str := ["line", "points"]
def ms_turned_b1 : List MS := (.par2 3 4 (.neg (.var 4)) (.var 3)) :: []
def ms_turned_2 : List MS := (.ret (.tup [(.var 3), (.var 4)])) :: []
def ms_turned_1 : List MS := (.for_ (.nm 2) .range1 [(.var 1)] ms_turned_b1) :: ms_turned_2
def ms_turned : List MS := (.setT (.tp [3, 4]) (.var 0)) :: ms_turned_1
def N_turned : List Str := ["point", "turn", "_", "x", "y"]
def ps_turned : List Str := ["point", "turn"]
def ms_whole : List MS := (.ret (.lc (.call "turned" [(.var 3), (.var 2)]) (.nm 3) [("point", 3)] .seq [(.call "sent" [(.var 1), (.cal .list [(.var 0)])])] [])) :: []
def N_whole : List Str := ["opening", "line", "turn", "point"]
def ps_whole : List Str := ["opening", "line", "turn"]
def ms_shape : List MS := (.ret (.slice (.call "whole" [(.var 0), (.var 1), (.var 2)]) [] [(.cal .len [(.var 0)])])) :: []
def N_shape : List Str := ["opening", "line", "turn"]
def ps_shape : List Str := ["opening", "line", "turn"]
def ms_between_2 : List MS := (.ret (.bin .add (.bin .mul (.var 2) (.var 2)) (.bin .mul (.var 3) (.var 3)))) :: []
def ms_between_1 : List MS := (.set 3 (.bin .sub (.bin .idx (.var 0) (.cst (.int 1))) (.bin .idx (.var 1) (.cst (.int 1))))) :: ms_between_2
def ms_between : List MS := (.set 2 (.bin .sub (.bin .idx (.var 0) (.cst (.int 0))) (.bin .idx (.var 1) (.cst (.int 0))))) :: ms_between_1
def N_between : List Str := ["one", "other", "x", "y"]
def ps_between : List Str := ["one", "other"]
def ms_apart_b1 : List MS := (.aug 3 .add (.call "between" [(.var 5), (.bin .idx (.var 1) (.bin .add (.var 2) (.var 4)))])) :: []
def ms_apart_b2 : List MS := (.if_ (.bin .isnt (.bin .idx (.var 1) (.bin .add (.var 2) (.var 4))) (.cst .non)) ms_apart_b1 []) :: []
def ms_apart_2 : List MS := (.ret (.var 3)) :: []
def ms_apart_1 : List MS := (.for_ (.tp [4, 5]) .enum [(.var 0)] ms_apart_b2) :: ms_apart_2
def ms_apart : List MS := (.set 3 (.cst (.int 0))) :: ms_apart_1
def N_apart : List Str := ["row", "samples", "place", "total", "k", "point"]
def ps_apart : List Str := ["row", "samples", "place"]
def ms_guesses_b1 : List MS := (.extend 2 (.lc (.tup [(.var 3), (.var 4), (.var 5)]) (.nm 5) [("number", 5)] .range1 [(.cal .len [(.var 0)])] [])) :: []
def ms_guesses_b2 : List MS := (.for_ (.nm 4) .range1 [(.cst (.int 4))] ms_guesses_b1) :: []
def ms_guesses_2 : List MS := (.retv 2) :: []
def ms_guesses_1 : List MS := (.for_ (.nm 3) .range1 [(.bin .add (.var 1) (.cst (.int 1)))] ms_guesses_b2) :: ms_guesses_2
def ms_guesses : List MS := (.set 2 (.lst [])) :: ms_guesses_1
def N_guesses : List Str := ["lines", "slack", "found", "place", "turn", "number"]
def ps_guesses : List Str := ["lines", "slack"]
def ms_shapes_of_b1 : List MS := (.setd 2 (.tup [(.var 5), (.var 3)]) (.call "shape" [(.var 0), (.var 4), (.var 5)])) :: []
def ms_shapes_of_b2 : List MS := (.for_ (.nm 5) .range1 [(.cst (.int 4))] ms_shapes_of_b1) :: []
def ms_shapes_of_2 : List MS := (.retv 2) :: []
def ms_shapes_of_1 : List MS := (.for_ (.tp [3, 4]) .enum [(.var 1)] ms_shapes_of_b2) :: ms_shapes_of_2
def ms_shapes_of : List MS := (.set 2 (.dnew true)) :: ms_shapes_of_1
def N_shapes_of : List Str := ["opening", "lines", "found", "number", "line", "turn"]
def ps_shapes_of : List Str := ["opening", "lines"]
def ms_find_b1 : List MS := (.set 5 (.var 9)) :: []
def ms_find_b2_1 : List MS := (.if_ (.ort (.bin .is_ (.var 5) (.cst .non)) (.bin .lt (.var 9) (.var 5))) ms_find_b1 []) :: []
def ms_find_b2 : List MS := (.set 9 (.tup [(.call "apart" [(.bin .idx (.var 4) (.tup [(.var 7), (.var 8)])), (.var 3), (.var 6)]), (.tup [(.var 6), (.var 7), (.var 8)])])) :: ms_find_b2_1
def ms_find_4 : List MS := (.ret (.bin .idx (.var 5) (.cst (.int 1)))) :: []
def ms_find_3 : List MS := (.for_ (.tp [6, 7, 8]) .seq [(.call "guesses" [(.var 1), (.var 2)])] ms_find_b2) :: ms_find_4
def ms_find_2 : List MS := (.set 5 (.cst .non)) :: ms_find_3
def ms_find_1 : List MS := (.frz 4) :: ms_find_2
def ms_find : List MS := (.set 4 (.call "shapes_of" [(.var 0), (.var 1)])) :: ms_find_1
def N_find : List Str := ["opening", "lines", "slack", "samples", "shapes", "best", "place", "turn", "number", "found"]
def ps_find : List Str := ["opening", "lines", "slack", "samples"]
def ms_law_state_b1 : List MS := (.set 1 (.bin .mod (.cal .int [(.bin .add (.bin .mul (.var 1) (.cst (.int 31))) (.var 2))]) (.cst (.int 1000003)))) :: []
def ms_law_state_2 : List MS := (.ret (.lst [(.lc (.cal .abs [(.var 2)]) (.nm 2) [("cell", 2)] .seq [(.var 0)] []), (.bin .add (.var 1) (.cst (.int 1)))])) :: []
def ms_law_state_1 : List MS := (.for_ (.nm 2) .seq [(.var 0)] ms_law_state_b1) :: ms_law_state_2
def ms_law_state : List MS := (.set 1 (.cst (.int 7))) :: ms_law_state_1
def N_law_state : List Str := ["script", "seed", "cell"]
def ps_law_state : List Str := ["script"]
def ms_law_pick : List MS := (.ret (.bin .idx (.var 1) (.call "_law_draw" [(.var 0), (.cal .len [(.var 1)])]))) :: []
def N_law_pick : List Str := ["state", "row"]
def ps_law_pick : List Str := ["state", "row"]
def ms_law_point : List MS := (.ret (.tup [(.bin .sub (.call "_law_draw" [(.var 0), (.bin .add (.bin .mul (.cst (.int 2)) (.var 1)) (.cst (.int 1)))]) (.var 1)), (.bin .sub (.call "_law_draw" [(.var 0), (.bin .add (.bin .mul (.cst (.int 2)) (.var 1)) (.cst (.int 1)))]) (.var 1))])) :: []
def N_law_point : List Str := ["state", "wide"]
def ps_law_point : List Str := ["state", "wide"]
def ms_law_opening_b1 : List MS := (.setix 2 (.neg (.cst (.int 1))) (.tup [(.cst (.int 1)), (.cst (.int 2))])) :: []
def ms_law_opening_2 : List MS := (.ret (.cal .tuple [(.var 2)])) :: []
def ms_law_opening_1 : List MS := (.if_ (.bin .eq (.mth .count (.var 2) [(.tup [(.cst (.int 0)), (.cst (.int 0))])]) (.cal .len [(.var 2)])) ms_law_opening_b1 []) :: ms_law_opening_2
def ms_law_opening : List MS := (.set 2 (.lc (.call "_law_point" [(.var 0), (.cst (.int 3))]) (.nm 3) [("k", 3)] .range1 [(.bin .add (.cst (.int 1)) (.call "_law_draw" [(.var 0), (.var 1)]))] [])) :: ms_law_opening_1
def N_law_opening : List Str := ["state", "most", "row", "k"]
def ps_law_opening : List Str := ["state", "most"]
def ms_law_line_b1 : List MS := (.setix 1 (.cst (.int 0)) (.tup [(.cst (.int 0)), (.cst (.int 1))])) :: []
def ms_law_line_2 : List MS := (.ret (.tup [(.cst (.str "line")), (.cal .tuple [(.var 1)])])) :: []
def ms_law_line_1 : List MS := (.if_ (.bin .eq (.mth .count (.var 1) [(.tup [(.cst (.int 0)), (.cst (.int 0))])]) (.cal .len [(.var 1)])) ms_law_line_b1 []) :: ms_law_line_2
def ms_law_line : List MS := (.set 1 (.lc (.call "_law_point" [(.var 0), (.call "_law_pick" [(.var 0), (.lst [(.cst (.int 1)), (.cst (.int 1)), (.cst (.int 2))])])]) (.nm 2) [("k", 2)] .range1 [(.bin .add (.cst (.int 1)) (.call "_law_draw" [(.var 0), (.cst (.int 3))]))] [])) :: ms_law_line_1
def N_law_line : List Str := ["state", "taps", "k"]
def ps_law_line : List Str := ["state"]
def ms_law_turned_1 : List MS := (.ret (.bin .idx (.lst [(.tup [(.var 2), (.var 3)]), (.tup [(.bin .sub (.cst (.int 0)) (.var 3)), (.var 2)]), (.tup [(.bin .sub (.cst (.int 0)) (.var 2)), (.bin .sub (.cst (.int 0)) (.var 3))]), (.tup [(.var 3), (.bin .sub (.cst (.int 0)) (.var 2))])]) (.var 1))) :: []
def ms_law_turned : List MS := (.setT (.tp [2, 3]) (.var 0)) :: ms_law_turned_1
def N_law_turned : List Str := ["point", "turn", "x", "y"]
def ps_law_turned : List Str := ["point", "turn"]
def ms_law_whole_b1_2 : List MS := (.setix 3 (.bin .add (.var 4) (.var 5)) (.tup [(.bin .sub (.bin .add (.bin .idx (.bin .idx (.var 3) (.bin .add (.var 4) (.var 5))) (.cst (.int 0))) (.bin .mul (.var 7) (.var 9))) (.bin .mul (.var 8) (.var 10))), (.bin .add (.bin .add (.bin .idx (.bin .idx (.var 3) (.bin .add (.var 4) (.var 5))) (.cst (.int 1))) (.bin .mul (.var 7) (.var 10))) (.bin .mul (.var 8) (.var 9)))])) :: []
def ms_law_whole_b1_1 : List MS := (.setT (.tp [9, 10]) (.bin .idx (.bin .idx (.var 1) (.cst (.int 1))) (.var 5))) :: ms_law_whole_b1_2
def ms_law_whole_b1 : List MS := (.setT (.tp [7, 8]) (.bin .idx (.var 0) (.var 4))) :: ms_law_whole_b1_1
def ms_law_whole_b2 : List MS := (.for_ (.nm 5) .range1 [(.cal .len [(.bin .idx (.var 1) (.cst (.int 1)))])] ms_law_whole_b1) :: []
def ms_law_whole_2 : List MS := (.ret (.lc (.call "_law_turned" [(.var 6), (.var 2)]) (.nm 6) [("point", 6)] .seq [(.var 3)] [])) :: []
def ms_law_whole_1 : List MS := (.for_ (.nm 4) .range1 [(.cal .len [(.var 0)])] ms_law_whole_b2) :: ms_law_whole_2
def ms_law_whole : List MS := (.set 3 (.bin .mul (.lst [(.tup [(.cst (.int 0)), (.cst (.int 0))])]) (.bin .sub (.bin .add (.cal .len [(.var 0)]) (.cal .len [(.bin .idx (.var 1) (.cst (.int 1)))])) (.cst (.int 1))))) :: ms_law_whole_1
def N_law_whole : List Str := ["opening", "line", "turn", "found", "k", "j", "point", "a", "b", "c", "d"]
def ps_law_whole : List Str := ["opening", "line", "turn"]
def ms_law_arrival_b1 : List MS := (.setix 5 (.bin .add (.var 3) (.var 7)) (.bin .idx (.var 6) (.var 7))) :: []
def ms_law_arrival_b2 : List MS := (.if_ (.bin .lt (.bin .add (.var 3) (.var 7)) (.cal .len [(.var 5)])) ms_law_arrival_b1 []) :: []
def ms_law_arrival_4 : List MS := (.retv 5) :: []
def ms_law_arrival_3 : List MS := (.for_ (.nm 7) .range1 [(.cal .len [(.var 6)])] ms_law_arrival_b2) :: ms_law_arrival_4
def ms_law_arrival_2 : List MS := (.frz 6) :: ms_law_arrival_3
def ms_law_arrival_1 : List MS := (.set 6 (.call "_law_whole" [(.var 0), (.var 1), (.var 2)])) :: ms_law_arrival_2
def ms_law_arrival : List MS := (.set 5 (.bin .mul (.lst [(.tup [(.cst (.int 0)), (.cst (.int 0))])]) (.bin .add (.var 4) (.cal .len [(.var 0)])))) :: ms_law_arrival_1
def N_law_arrival : List Str := ["opening", "line", "turn", "place", "slack", "found", "whole_v", "k"]
def ps_law_arrival : List Str := ["opening", "line", "turn", "place", "slack"]
def ms_law_cost_b1_1 : List MS := (.set 3 (.bin .add (.bin .add (.var 3) (.bin .pow (.bin .sub (.var 5) (.bin .idx (.bin .idx (.var 0) (.var 4)) (.cst (.int 0)))) (.cst (.int 2)))) (.bin .pow (.bin .sub (.var 6) (.bin .idx (.bin .idx (.var 0) (.var 4)) (.cst (.int 1)))) (.cst (.int 2))))) :: []
def ms_law_cost_b1 : List MS := (.setT (.tp [5, 6]) (.bin .idx (.var 1) (.bin .add (.var 2) (.var 4)))) :: ms_law_cost_b1_1
def ms_law_cost_b2 : List MS := (.if_ (.bin .isnt (.bin .idx (.var 1) (.bin .add (.var 2) (.var 4))) (.cst .non)) ms_law_cost_b1 []) :: []
def ms_law_cost_2 : List MS := (.ret (.var 3)) :: []
def ms_law_cost_1 : List MS := (.for_ (.nm 4) .range1 [(.cal .len [(.var 0)])] ms_law_cost_b2) :: ms_law_cost_2
def ms_law_cost : List MS := (.set 3 (.cst (.int 0))) :: ms_law_cost_1
def N_law_cost : List Str := ["shape_v", "samples", "place", "total", "k", "x", "y"]
def ps_law_cost : List Str := ["shape_v", "samples", "place"]
def ms_law_shapes_b1 : List MS := (.setd 2 (.tup [(.var 3), (.var 4)]) (.slice (.call "_law_whole" [(.var 0), (.bin .idx (.var 1) (.var 4)), (.var 3)]) [] [(.cal .len [(.var 0)])])) :: []
def ms_law_shapes_b2 : List MS := (.for_ (.nm 4) .range1 [(.cal .len [(.var 1)])] ms_law_shapes_b1) :: []
def ms_law_shapes_2 : List MS := (.retv 2) :: []
def ms_law_shapes_1 : List MS := (.for_ (.nm 3) .range1 [(.cst (.int 4))] ms_law_shapes_b2) :: ms_law_shapes_2
def ms_law_shapes : List MS := (.set 2 (.dnew true)) :: ms_law_shapes_1
def N_law_shapes : List Str := ["opening", "lines", "shapes", "turn", "number"]
def ps_law_shapes : List Str := ["opening", "lines"]
def ms_law_guesses_b1_1 : List MS := (.frz 2) :: []
def ms_law_guesses_b1 : List MS := (.set 2 (.bin .add (.var 2) (.lc (.tup [(.var 3), (.var 4), (.var 5)]) (.nm 5) [("number", 5)] .range1 [(.cal .len [(.var 0)])] []))) :: ms_law_guesses_b1_1
def ms_law_guesses_b2 : List MS := (.for_ (.nm 4) .range1 [(.cst (.int 4))] ms_law_guesses_b1) :: []
def ms_law_guesses_3 : List MS := (.ret (.var 2)) :: []
def ms_law_guesses_2 : List MS := (.for_ (.nm 3) .range1 [(.bin .add (.var 1) (.cst (.int 1)))] ms_law_guesses_b2) :: ms_law_guesses_3
def ms_law_guesses_1 : List MS := (.frz 2) :: ms_law_guesses_2
def ms_law_guesses : List MS := (.set 2 (.lst [])) :: ms_law_guesses_1
def N_law_guesses : List Str := ["lines", "slack", "found", "place", "turn", "number"]
def ps_law_guesses : List Str := ["lines", "slack"]
def ms_law_b1 : List MS := (.append 4 (.callb "_law_pick" [(.var 1), (.var 4)])) :: []
def ms_law_b2 : List MS := (.setix 6 (.var 8) (.cst .non)) :: []
def ms_law_b3_2 : List MS := (.if_ (.bin .eq (.call "_law_draw" [(.var 1), (.cst (.int 9))]) (.cst (.int 0))) ms_law_b2 []) :: []
def ms_law_b3_1 : List MS := (.setix 6 (.var 8) (.tup [(.bin .add (.bin .idx (.bin .idx (.var 6) (.var 8)) (.cst (.int 0))) (.var 17)), (.bin .add (.bin .idx (.bin .idx (.var 6) (.var 8)) (.cst (.int 1))) (.var 18))])) :: ms_law_b3_2
def ms_law_b3 : List MS := (.setT (.tp [17, 18]) (.call "_law_point" [(.var 1), (.var 7)])) :: ms_law_b3_1
def ms_law_b4 : List MS := (.set 6 (.lc (.call "_law_point" [(.var 1), (.cst (.int 1))]) (.nm 19) [("one", 19)] .seq [(.var 6)] [])) :: []
def ms_law_b5 : List MS := (.set 10 (.tup [(.var 16), (.var 11)])) :: []
def ms_law_b6_2 : List MS := (.if_ (.ort (.bin .is_ (.var 10) (.cst .non)) (.bin .lt (.var 16) (.bin .idx (.var 10) (.cst (.int 0))))) ms_law_b5 []) :: []
def ms_law_b6_1 : List MS := (.set 16 (.call "_law_cost" [(.bin .idx (.var 9) (.slice (.var 11) [(.cst (.int 1))] [])), (.var 6), (.bin .idx (.var 11) (.cst (.int 0)))])) :: ms_law_b6_2
def ms_law_b6 : List MS := (.frz 6) :: ms_law_b6_1
def ms_law_b7 : List MS := (.ret (.cst (.bl false))) :: []
def ms_law_b8_21 : List MS := (.if_ (.ort (.bin .ne (.call "find" [(.var 3), (.var 4), (.var 5), (.var 6)]) (.bin .idx (.var 10) (.cst (.int 1)))) (.bin .ne (.cal .repr [(.lst [(.var 3), (.var 4), (.var 6)])]) (.var 12))) ms_law_b7 []) :: []
def ms_law_b8_20 : List MS := (.frz 6) :: ms_law_b8_21
def ms_law_b8_19 : List MS := (.frz 4) :: ms_law_b8_20
def ms_law_b8_18 : List MS := (.set 12 (.cal .repr [(.lst [(.var 3), (.var 4), (.var 6)])])) :: ms_law_b8_19
def ms_law_b8_17 : List MS := (.frz 6) :: ms_law_b8_18
def ms_law_b8_16 : List MS := (.frz 4) :: ms_law_b8_17
def ms_law_b8_15 : List MS := (.for_ (.nm 11) .seq [(.call "_law_guesses" [(.var 4), (.var 5)])] ms_law_b6) :: ms_law_b8_16
def ms_law_b8_14 : List MS := (.frz 4) :: ms_law_b8_15
def ms_law_b8_13 : List MS := (.set 10 (.cst .non)) :: ms_law_b8_14
def ms_law_b8_12 : List MS := (.frz 9) :: ms_law_b8_13
def ms_law_b8_11 : List MS := (.set 9 (.call "_law_shapes" [(.var 3), (.var 4)])) :: ms_law_b8_12
def ms_law_b8_10 : List MS := (.frz 4) :: ms_law_b8_11
def ms_law_b8_9 : List MS := (.if_ (.bin .eq (.call "_law_draw" [(.var 1), (.cst (.int 4))]) (.cst (.int 0))) ms_law_b4 []) :: ms_law_b8_10
def ms_law_b8_8 : List MS := (.for_ (.nm 8) .range1 [(.cal .len [(.var 6)])] ms_law_b3) :: ms_law_b8_9
def ms_law_b8_7 : List MS := (.set 7 (.call "_law_pick" [(.var 1), (.lst [(.cst (.int 0)), (.cst (.int 1)), (.cst (.int 2)), (.cst (.int 5))])])) :: ms_law_b8_8
def ms_law_b8_6 : List MS := (.set 6 (.call "_law_arrival" [(.var 3), (.bin .idx (.var 4) (.var 15)), (.var 14), (.var 13), (.var 5)])) :: ms_law_b8_7
def ms_law_b8_5 : List MS := (.setT (.tp [13, 14, 15]) (.call "_law_pick" [(.var 1), (.call "_law_guesses" [(.var 4), (.var 5)])])) :: ms_law_b8_6
def ms_law_b8_4 : List MS := (.frz 4) :: ms_law_b8_5
def ms_law_b8_3 : List MS := (.set 5 (.call "_law_draw" [(.var 1), (.cst (.int 6))])) :: ms_law_b8_4
def ms_law_b8_2 : List MS := (.if_ (.bin .eq (.call "_law_draw" [(.var 1), (.cst (.int 3))]) (.cst (.int 0))) ms_law_b1 []) :: ms_law_b8_3
def ms_law_b8_1 : List MS := (.set 4 (.lc (.call "_law_line" [(.var 1)]) (.nm 8) [("k", 8)] .range1 [(.bin .add (.cst (.int 1)) (.call "_law_draw" [(.var 1), (.cst (.int 2))]))] [])) :: ms_law_b8_2
def ms_law_b8 : List MS := (.set 3 (.call "_law_opening" [(.var 1), (.cst (.int 6))])) :: ms_law_b8_1
def ms_law_3 : List MS := (.ret (.cst (.bl true))) :: []
def ms_law_2 : List MS := (.for_ (.nm 2) .range1 [(.cal .max [(.cst (.int 1)), (.cal .min [(.cst (.int 4)), (.cal .len [(.var 0)])])])] ms_law_b8) :: ms_law_3
def ms_law_1 : List MS := (.frz 1) :: ms_law_2
def ms_law : List MS := (.set 1 (.call "_law_state" [(.var 0)])) :: ms_law_1
def N_law : List Str := ["script", "state", "cell", "opening", "lines", "slack", "samples", "wide", "k", "shapes", "best", "guess", "kept", "place", "turn", "number", "price", "x", "y", "one"]
def ps_law : List Str := ["script"]
-- _law_draw: stmt method pop

def ptD (p : P) : D := .tup [.int p.1, .int p.2]
def ptsD (a : List P) : List D := a.map ptD
def lineD (a : List P) : D := .tup [.str "line", .tup (ptsD a)]
theorem pts_len {a : List P} : (ptsD a).length = a.length := by simp [ptsD]
theorem pts_app {a b : List P} : ptsD (a ++ b) = ptsD a ++ ptsD b := List.map_append
theorem pts_get {a : List P} {k : Nat} (h : k < a.length) : (ptsD a)[k]? = some (ptD (co a k)) := by
  unfold ptsD
  rw [List.getElem?_map, co_get h]
  rfl
theorem px0 {x : P} {Q : QS} : idxW (ptD x) (.int 0) Q = Q (.val (.int x.1)) := rfl
theorem px1 {x : P} {Q : QS} : idxW (ptD x) (.int 1) Q = Q (.val (.int x.2)) := rfl
theorem lx1 {a : List P} {Q : QS} : idxW (lineD a) (.int 1) Q = Q (.val (.tup (ptsD a))) := rfl
theorem line_set {a : List P} {ρ : Env} {S : Env → Prop} {i j : Nat} : tgW (.tp [i, j]) (lineD a) ρ S = ((2 : Nat) = 2 ∧ S ((ρ.set i (some (.val (.str "line")))).set j (some (.val (.tup (ptsD a)))))) := rfl
theorem pt_set {x : P} {ρ : Env} {S : Env → Prop} {i j : Nat} : tgW (.tp [i, j]) (ptD x) ρ S = ((2 : Nat) = 2 ∧ S ((ρ.set i (some (.val (.int x.1)))).set j (some (.val (.int x.2))))) := rfl
def BIG : Int := 1606938044258990275541962092341162602522202993782792835301376
theorem big_lt : (1606938044258990275541962092341162602522202993782792835301376 : Nat) < 2 ^ 1000 := by decide +kernel
theorem bsm {x : Int} (h1 : -BIG ≤ x) (h2 : x ≤ BIG) : Sm x := by
  unfold BIG at *
  exact ⟨Nat.lt_of_le_of_lt (by omega) big_lt⟩
theorem bd_up {A B : Int} {x : P} (h : bd A x) (hAB : A ≤ B) : bd B x := by
  obtain ⟨⟨a1, a2⟩, a3, a4⟩ := h
  unfold bd
  omega
theorem so_line : PyData.strOk ("line" : Str) = true := by decide +kernel
theorem plB_pt {n : Nat} {x : P} : plB (n + 1) (ptD x) = true := by
  unfold ptD plB
  rw [List.all_cons, List.all_cons, List.all_nil]
  cases n <;> rfl
theorem plB_pts {n : Nat} {a : List P} : (ptsD a).all (plB (n + 1)) = true := by
  unfold ptsD
  rw [List.all_map, List.all_eq_true]
  intro x _
  exact plB_pt
theorem plB_lpts {n : Nat} {a : List P} : plB (n + 2) (.lst (ptsD a)) = true := by
  rw [plB]
  exact plB_pts
theorem plB_tpts {n : Nat} {a : List P} : plB (n + 2) (.tup (ptsD a)) = true := by
  rw [plB]
  exact plB_pts
theorem plB_line {n : Nat} {a : List P} : plB (n + 3) (lineD a) = true := by
  unfold lineD
  rw [plB, List.all_cons, List.all_cons, plB_tpts]
  rw [plB, so_line]
  rfl
theorem eq_pt (x y : P) : eqD (ptD x) (ptD y) = decide (x = y) := by
  unfold ptD
  rw [eqD, eqDs, eqDs, eqDs, eqD, eqD]
  obtain ⟨a, b⟩ := x
  obtain ⟨c, d⟩ := y
  by_cases h : a = c <;> by_cases k : b = d <;> simp [h, k]
--FN plus
def sp_plus : FSp := fun ds Q _ => ∃ x y : P, ds = [ptD x, ptD y] ∧ Q (.val (ptD (pa x y)))
abbrev G_plus : Tab := tabOf [] [] [] [] []
theorem pure_plus : ∀ ds Q X, sp_plus ds Q X → ds.length = 2 ∧ WSs G_plus ms_plus (mkEnv 2 ds) (fnEnds Q X) := by
  rintro ds Q X ⟨x, y, rfl, hq⟩
  refine ⟨rfl, ?_⟩
  simp only [ms_plus, px0, px1, wipeE, WCs, mkEnv, fnEnds, WSs, WS, WE, WAs, WLs, WT, argK, argW, opW, opI, biW, Sl_v, Sl_o, csD, slW, ownW, if_true, if_false, addW_i, addW_l, addW_t, subW_i, mulW_i, mulW_l, mulW_t, fdivW_i, modW_i, powW_i, shlW_i, shrW_i, bitW_i, iaddW_i, imulW_i, ifdivW_i, ltW_i, leW_i, gtW_i, geW_i, eqW_i, neW_i, isW_n, isntW_n, isW_b, isntW_b, idxW_l, idxW_t, optW_s, optP_s, lenW_l, lenW_t, lenW_s, lenW_d, intW_i, intW_b, absW_i, maxW_i, minW_i, negW_i, listW_l, listW_t, tupleW_l, tupleW_t, sliceW_l, sliceW_t, isiW_1, optI_n, optI_s, truW_b, truW_i, truW_l, truW_t, truW_n, itW_l, itW_t, itW_r1, itW_r2, itW_r3, strW_i, itW_el, itW_et, itW_zl, itW_zt, itW_vl, itW_vt, tgW_n, tgW_t, setAll_c, setAll_n, List.map_cons, List.map_nil, List.cons_append, List.nil_append, List.append_nil, List.getElem?_cons_succ, List.getElem?_cons_zero, List.length_cons, List.length_nil, Nat.reduceAdd, Nat.reduceSub, List.replicate, List.set_cons_succ, List.set_cons_zero, mtW, mtTy, getW, bkW, dicW, revW, Sl_od, inW_d, notinW_d]
  exact ⟨by decide, hq⟩
--FN times
def sp_times : FSp := fun ds Q _ => ∃ x y : P, ds = [ptD x, ptD y] ∧ bd BIG x ∧ bd BIG y ∧ Q (.val (ptD (pm x y)))
abbrev G_times : Tab := tabOf [] [] [] [] []
theorem pure_times : ∀ ds Q X, sp_times ds Q X → ds.length = 2 ∧ WSs G_times ms_times (mkEnv 2 ds) (fnEnds Q X) := by
  rintro ds Q X ⟨x, y, rfl, ⟨⟨a1, a2⟩, a3, a4⟩, ⟨⟨b1, b2⟩, b3, b4⟩, hq⟩
  refine ⟨rfl, ?_⟩
  simp only [ms_times, px0, px1, wipeE, WCs, mkEnv, fnEnds, WSs, WS, WE, WAs, WLs, WT, argK, argW, opW, opI, biW, Sl_v, Sl_o, csD, slW, ownW, if_true, if_false, addW_i, addW_l, addW_t, subW_i, mulW_i, mulW_l, mulW_t, fdivW_i, modW_i, powW_i, shlW_i, shrW_i, bitW_i, iaddW_i, imulW_i, ifdivW_i, ltW_i, leW_i, gtW_i, geW_i, eqW_i, neW_i, isW_n, isntW_n, isW_b, isntW_b, idxW_l, idxW_t, optW_s, optP_s, lenW_l, lenW_t, lenW_s, lenW_d, intW_i, intW_b, absW_i, maxW_i, minW_i, negW_i, listW_l, listW_t, tupleW_l, tupleW_t, sliceW_l, sliceW_t, isiW_1, optI_n, optI_s, truW_b, truW_i, truW_l, truW_t, truW_n, itW_l, itW_t, itW_r1, itW_r2, itW_r3, strW_i, itW_el, itW_et, itW_zl, itW_zt, itW_vl, itW_vt, tgW_n, tgW_t, setAll_c, setAll_n, List.map_cons, List.map_nil, List.cons_append, List.nil_append, List.append_nil, List.getElem?_cons_succ, List.getElem?_cons_zero, List.length_cons, List.length_nil, Nat.reduceAdd, Nat.reduceSub, List.replicate, List.set_cons_succ, List.set_cons_zero, mtW, mtTy, getW, bkW, dicW, revW, Sl_od, inW_d, notinW_d]
  have s1 := bsm a1 a2
  have s2 := bsm a3 a4
  have s3 := bsm b1 b2
  have s4 := bsm b3 b4
  exact ⟨⟨s1, s3⟩, ⟨s2, s4⟩, ⟨s1, s4⟩, ⟨s2, s3⟩, by decide, hq⟩
--FN reach
def sp_reach : FSp := fun ds Q _ => ∃ a : List P, ds = [lineD a] ∧ Q (.val (.int ((a.length : Nat) - 1 : Int)))
abbrev G_reach : Tab := tabOf [] ["len"] [] [] []
theorem pure_reach : ∀ ds Q X, sp_reach ds Q X → ds.length = 1 ∧ WSs G_reach ms_reach (mkEnv 1 ds) (fnEnds Q X) := by
  rintro ds Q X ⟨a, rfl, hq⟩
  refine ⟨rfl, ?_⟩
  simp only [ms_reach, lx1, pts_len, wipeE, WCs, mkEnv, fnEnds, WSs, WS, WE, WAs, WLs, WT, argK, argW, opW, opI, biW, Sl_v, Sl_o, csD, slW, ownW, if_true, if_false, addW_i, addW_l, addW_t, subW_i, mulW_i, mulW_l, mulW_t, fdivW_i, modW_i, powW_i, shlW_i, shrW_i, bitW_i, iaddW_i, imulW_i, ifdivW_i, ltW_i, leW_i, gtW_i, geW_i, eqW_i, neW_i, isW_n, isntW_n, isW_b, isntW_b, idxW_l, idxW_t, optW_s, optP_s, lenW_l, lenW_t, lenW_s, lenW_d, intW_i, intW_b, absW_i, maxW_i, minW_i, negW_i, listW_l, listW_t, tupleW_l, tupleW_t, sliceW_l, sliceW_t, isiW_1, optI_n, optI_s, truW_b, truW_i, truW_l, truW_t, truW_n, itW_l, itW_t, itW_r1, itW_r2, itW_r3, strW_i, itW_el, itW_et, itW_zl, itW_zt, itW_vl, itW_vt, tgW_n, tgW_t, setAll_c, setAll_n, List.map_cons, List.map_nil, List.cons_append, List.nil_append, List.append_nil, List.getElem?_cons_succ, List.getElem?_cons_zero, List.length_cons, List.length_nil, Nat.reduceAdd, Nat.reduceSub, List.replicate, List.set_cons_succ, List.set_cons_zero, mtW, mtTy, getW, bkW, dicW, revW, Sl_od, inW_d, notinW_d]
  exact hq
--FN sample
def sp_sample : FSp := fun ds Q _ => ∃ (a w : List P) (B : Int), ds = [lineD a, .lst (ptsD w)] ∧ w.length = a.length ∧ (∀ x ∈ a, bd 50 x) ∧ (∀ x ∈ w, bd B x) ∧ B ≤ BIG ∧ Q (.val (ptD (dot (co a) (fun k => co w (w.length - 1 - k)) a.length)))
abbrev G_sample : Tab := tabOf [("plus", sp_plus), ("times", sp_times)] ["enumerate", "len"] [] [] []
theorem co_mem {a : List P} {i : Nat} (h : i < a.length) : co a i ∈ a := List.mem_of_getElem? (co_get h)
theorem pure_sample : ∀ ds Q X, sp_sample ds Q X → ds.length = 2 ∧ WSs G_sample ms_sample (mkEnv 5 ds) (fnEnds Q X) := by
  rintro ds Q X ⟨a, w, B, rfl, hl, ha, hw, hB, hq⟩
  refine ⟨rfl, ?_⟩
  simp only [ms_sample, mkEnv, fnEnds, List.map_cons, List.map_nil, List.length_cons, List.length_nil, Nat.reduceAdd, Nat.reduceSub, List.replicate, List.cons_append, List.nil_append]
  ((first | (with_reducible refine Box.mk ?_) | skip); show WSs _ (_ :: _) _ _; rw [WSs_cB]; simp only [wipeE, WCs, mkEnv, fnEnds, WS_raise, WS_try, WS_frz, WS_set, WS_setT, WS_par2, WS_par3, WS_aug, WS_expr, WS_ret, WS_retv, WS_retN, WS_if, WS_for, WS_while, WS_brk, WS_cont, WS_pass, WS_doc, WS_append, WS_extend, WS_popx, WS_setix, WS_augix, WS_setd, WS_rvs, WS_popset, WS_insert, extW_l, extW_t, insW_2, WE, WAs, WLs, WT, argK, argW, opW, opI, biW, Sl_v, Sl_o, csD, slW, ownW, if_true, if_false, addW_i, addW_l, addW_t, subW_i, mulW_i, mulW_l, mulW_t, fdivW_i, modW_i, powW_i, shlW_i, shrW_i, bitW_i, iaddW_i, imulW_i, ifdivW_i, ltW_i, leW_i, gtW_i, geW_i, eqW_i, neW_i, isW_n, isntW_n, isW_b, isntW_b, idxW_l, idxW_t, optW_s, optP_s, lenW_l, lenW_t, lenW_s, lenW_d, intW_i, intW_b, absW_i, maxW_i, minW_i, negW_i, listW_l, listW_t, tupleW_l, tupleW_t, sliceW_l, sliceW_t, isiW_1, optI_n, optI_s, truW_b, truW_i, truW_l, truW_t, truW_n, itW_l, itW_t, itW_r1, itW_r2, itW_r3, strW_i, itW_el, itW_et, itW_zl, itW_zt, itW_vl, itW_vt, tgW_n, tgW_t, setAll_c, setAll_n, List.map_cons, List.map_nil, List.cons_append, List.nil_append, List.append_nil, List.getElem?_cons_succ, List.getElem?_cons_zero, List.length_cons, List.length_nil, Nat.reduceAdd, Nat.reduceSub, List.replicate, List.set_cons_succ, List.set_cons_zero, mtW, mtTy, getW, bkW, dicW, revW, Sl_od, inW_d, notinW_d])
  refine ⟨by decide, ?_⟩
  ((first | (with_reducible refine Box.mk ?_) | skip); show WSs _ (_ :: _) _ _; rw [WSs_cB]; simp only [wipeE, WCs, mkEnv, fnEnds, WS_raise, WS_try, WS_frz, WS_set, WS_setT, WS_par2, WS_par3, WS_aug, WS_expr, WS_ret, WS_retv, WS_retN, WS_if, WS_for, WS_while, WS_brk, WS_cont, WS_pass, WS_doc, WS_append, WS_extend, WS_popx, WS_setix, WS_augix, WS_setd, WS_rvs, WS_popset, WS_insert, extW_l, extW_t, insW_2, WE, WAs, WLs, WT, argK, argW, opW, opI, biW, Sl_v, Sl_o, csD, slW, ownW, if_true, if_false, addW_i, addW_l, addW_t, subW_i, mulW_i, mulW_l, mulW_t, fdivW_i, modW_i, powW_i, shlW_i, shrW_i, bitW_i, iaddW_i, imulW_i, ifdivW_i, ltW_i, leW_i, gtW_i, geW_i, eqW_i, neW_i, isW_n, isntW_n, isW_b, isntW_b, idxW_l, idxW_t, optW_s, optP_s, lenW_l, lenW_t, lenW_s, lenW_d, intW_i, intW_b, absW_i, maxW_i, minW_i, negW_i, listW_l, listW_t, tupleW_l, tupleW_t, sliceW_l, sliceW_t, isiW_1, optI_n, optI_s, truW_b, truW_i, truW_l, truW_t, truW_n, itW_l, itW_t, itW_r1, itW_r2, itW_r3, strW_i, itW_el, itW_et, itW_zl, itW_zt, itW_vl, itW_vt, tgW_n, tgW_t, setAll_c, setAll_n, List.map_cons, List.map_nil, List.cons_append, List.nil_append, List.append_nil, List.getElem?_cons_succ, List.getElem?_cons_zero, List.length_cons, List.length_nil, Nat.reduceAdd, Nat.reduceSub, List.replicate, List.set_cons_succ, List.set_cons_zero, mtW, mtTy, getW, bkW, dicW, revW, Sl_od, inW_d, notinW_d])
  simp only [lx1, wipeE, WCs, mkEnv, fnEnds, WS_raise, WS_try, WS_frz, WS_set, WS_setT, WS_par2, WS_par3, WS_aug, WS_expr, WS_ret, WS_retv, WS_retN, WS_if, WS_for, WS_while, WS_brk, WS_cont, WS_pass, WS_doc, WS_append, WS_extend, WS_popx, WS_setix, WS_augix, WS_setd, WS_rvs, WS_popset, WS_insert, extW_l, extW_t, insW_2, WE, WAs, WLs, WT, argK, argW, opW, opI, biW, Sl_v, Sl_o, csD, slW, ownW, if_true, if_false, addW_i, addW_l, addW_t, subW_i, mulW_i, mulW_l, mulW_t, fdivW_i, modW_i, powW_i, shlW_i, shrW_i, bitW_i, iaddW_i, imulW_i, ifdivW_i, ltW_i, leW_i, gtW_i, geW_i, eqW_i, neW_i, isW_n, isntW_n, isW_b, isntW_b, idxW_l, idxW_t, optW_s, optP_s, lenW_l, lenW_t, lenW_s, lenW_d, intW_i, intW_b, absW_i, maxW_i, minW_i, negW_i, listW_l, listW_t, tupleW_l, tupleW_t, sliceW_l, sliceW_t, isiW_1, optI_n, optI_s, truW_b, truW_i, truW_l, truW_t, truW_n, itW_l, itW_t, itW_r1, itW_r2, itW_r3, strW_i, itW_el, itW_et, itW_zl, itW_zt, itW_vl, itW_vt, tgW_n, tgW_t, setAll_c, setAll_n, List.map_cons, List.map_nil, List.cons_append, List.nil_append, List.append_nil, List.getElem?_cons_succ, List.getElem?_cons_zero, List.length_cons, List.length_nil, Nat.reduceAdd, Nat.reduceSub, List.replicate, List.set_cons_succ, List.set_cons_zero, mtW, mtTy, getW, bkW, dicW, revW, Sl_od, inW_d, notinW_d]
  unfold ptsD
  rw [enum_of a p0]
  refine forW_rg (fun i ρ => ∃ y3 y4 : Option Sl, ρ = [some (.val (lineD a)), some (.val (.lst (ptsD w))), some (.val (ptD (dot (co a) (fun k => co w (w.length - 1 - k)) i))), y3, y4]) 0 a.length ⟨_, _, rfl⟩ ?_ ?_
  · rintro i ρ _ hi ⟨y3, y4, rfl⟩ kk hkk
    have hi : i < a.length := by omega
    simp only [wipeE, WCs, mkEnv, fnEnds, WS_raise, WS_try, WS_frz, WS_set, WS_setT, WS_par2, WS_par3, WS_aug, WS_expr, WS_ret, WS_retv, WS_retN, WS_if, WS_for, WS_while, WS_brk, WS_cont, WS_pass, WS_doc, WS_append, WS_extend, WS_popx, WS_setix, WS_augix, WS_setd, WS_rvs, WS_popset, WS_insert, extW_l, extW_t, insW_2, WE, WAs, WLs, WT, argK, argW, opW, opI, biW, Sl_v, Sl_o, csD, slW, ownW, if_true, if_false, addW_i, addW_l, addW_t, subW_i, mulW_i, mulW_l, mulW_t, fdivW_i, modW_i, powW_i, shlW_i, shrW_i, bitW_i, iaddW_i, imulW_i, ifdivW_i, ltW_i, leW_i, gtW_i, geW_i, eqW_i, neW_i, isW_n, isntW_n, isW_b, isntW_b, idxW_l, idxW_t, optW_s, optP_s, lenW_l, lenW_t, lenW_s, lenW_d, intW_i, intW_b, absW_i, maxW_i, minW_i, negW_i, listW_l, listW_t, tupleW_l, tupleW_t, sliceW_l, sliceW_t, isiW_1, optI_n, optI_s, truW_b, truW_i, truW_l, truW_t, truW_n, itW_l, itW_t, itW_r1, itW_r2, itW_r3, strW_i, itW_el, itW_et, itW_zl, itW_zt, itW_vl, itW_vt, tgW_n, tgW_t, setAll_c, setAll_n, List.map_cons, List.map_nil, List.cons_append, List.nil_append, List.append_nil, List.getElem?_cons_succ, List.getElem?_cons_zero, List.length_cons, List.length_nil, Nat.reduceAdd, Nat.reduceSub, List.replicate, List.set_cons_succ, List.set_cons_zero, mtW, mtTy, getW, bkW, dicW, revW, Sl_od, inW_d, notinW_d]
    refine ⟨trivial, ?_⟩
    ((first | (with_reducible refine Box.mk ?_) | skip); show WSs _ (_ :: _) _ _; rw [WSs_cB]; simp only [wipeE, WCs, mkEnv, fnEnds, WS_raise, WS_try, WS_frz, WS_set, WS_setT, WS_par2, WS_par3, WS_aug, WS_expr, WS_ret, WS_retv, WS_retN, WS_if, WS_for, WS_while, WS_brk, WS_cont, WS_pass, WS_doc, WS_append, WS_extend, WS_popx, WS_setix, WS_augix, WS_setd, WS_rvs, WS_popset, WS_insert, extW_l, extW_t, insW_2, WE, WAs, WLs, WT, argK, argW, opW, opI, biW, Sl_v, Sl_o, csD, slW, ownW, if_true, if_false, addW_i, addW_l, addW_t, subW_i, mulW_i, mulW_l, mulW_t, fdivW_i, modW_i, powW_i, shlW_i, shrW_i, bitW_i, iaddW_i, imulW_i, ifdivW_i, ltW_i, leW_i, gtW_i, geW_i, eqW_i, neW_i, isW_n, isntW_n, isW_b, isntW_b, idxW_l, idxW_t, optW_s, optP_s, lenW_l, lenW_t, lenW_s, lenW_d, intW_i, intW_b, absW_i, maxW_i, minW_i, negW_i, listW_l, listW_t, tupleW_l, tupleW_t, sliceW_l, sliceW_t, isiW_1, optI_n, optI_s, truW_b, truW_i, truW_l, truW_t, truW_n, itW_l, itW_t, itW_r1, itW_r2, itW_r3, strW_i, itW_el, itW_et, itW_zl, itW_zt, itW_vl, itW_vt, tgW_n, tgW_t, setAll_c, setAll_n, List.map_cons, List.map_nil, List.cons_append, List.nil_append, List.append_nil, List.getElem?_cons_succ, List.getElem?_cons_zero, List.length_cons, List.length_nil, Nat.reduceAdd, Nat.reduceSub, List.replicate, List.set_cons_succ, List.set_cons_zero, mtW, mtTy, getW, bkW, dicW, revW, Sl_od, inW_d, notinW_d])
    simp only [pts_len]
    have e : (w.length : Int) - 1 - (i : Int) = ((w.length - 1 - i : Nat) : Int) := by omega
    rw [e]
    refine optA (pts_get (show w.length - 1 - i < w.length by omega)) ?_
    refine fnW_mk rfl ⟨a.getD i p0, co w (w.length - 1 - i), rfl, bd_up (ha _ (co_mem hi)) (by unfold BIG; decide), bd_up (hw _ (co_mem (by omega))) hB, ?_⟩
    refine fnW_mk rfl ⟨_, _, rfl, ?_⟩
    ((first | (with_reducible refine Box.mk ?_) | skip); show WSs _ _ _ _; rw [WSs_n])
    exact hkk _ ⟨_, _, rfl⟩
  · rintro ρ ⟨y3, y4, rfl⟩
    rw [Nat.zero_add]
    ((first | (with_reducible refine Box.mk ?_) | skip); show WSs _ (_ :: _) _ _; rw [WSs_cB]; simp only [wipeE, WCs, mkEnv, fnEnds, WS_raise, WS_try, WS_frz, WS_set, WS_setT, WS_par2, WS_par3, WS_aug, WS_expr, WS_ret, WS_retv, WS_retN, WS_if, WS_for, WS_while, WS_brk, WS_cont, WS_pass, WS_doc, WS_append, WS_extend, WS_popx, WS_setix, WS_augix, WS_setd, WS_rvs, WS_popset, WS_insert, extW_l, extW_t, insW_2, WE, WAs, WLs, WT, argK, argW, opW, opI, biW, Sl_v, Sl_o, csD, slW, ownW, if_true, if_false, addW_i, addW_l, addW_t, subW_i, mulW_i, mulW_l, mulW_t, fdivW_i, modW_i, powW_i, shlW_i, shrW_i, bitW_i, iaddW_i, imulW_i, ifdivW_i, ltW_i, leW_i, gtW_i, geW_i, eqW_i, neW_i, isW_n, isntW_n, isW_b, isntW_b, idxW_l, idxW_t, optW_s, optP_s, lenW_l, lenW_t, lenW_s, lenW_d, intW_i, intW_b, absW_i, maxW_i, minW_i, negW_i, listW_l, listW_t, tupleW_l, tupleW_t, sliceW_l, sliceW_t, isiW_1, optI_n, optI_s, truW_b, truW_i, truW_l, truW_t, truW_n, itW_l, itW_t, itW_r1, itW_r2, itW_r3, strW_i, itW_el, itW_et, itW_zl, itW_zt, itW_vl, itW_vt, tgW_n, tgW_t, setAll_c, setAll_n, List.map_cons, List.map_nil, List.cons_append, List.nil_append, List.append_nil, List.getElem?_cons_succ, List.getElem?_cons_zero, List.length_cons, List.length_nil, Nat.reduceAdd, Nat.reduceSub, List.replicate, List.set_cons_succ, List.set_cons_zero, mtW, mtTy, getW, bkW, dicW, revW, Sl_od, inW_d, notinW_d])
    exact hq
--FN sent
def sp_sent : FSp := fun ds Q _ => ∃ (a p : List P) (B : Int), ds = [lineD a, .lst (ptsD p)] ∧ (1 ≤ a.length ∧ a.length ≤ 1000) ∧ p.length ≤ 100000 ∧ (∀ x ∈ a, bd 50 x) ∧ (∀ x ∈ p, bd B x) ∧ 0 ≤ B ∧ B ≤ BIG ∧ Q (.own (ptsD (sv a p)))
abbrev G_sent : Tab := tabOf [("reach", sp_reach), ("sample", sp_sample)] ["len", "list", "range"] [] [] []
theorem rep_p0 {n : Nat} : (List.replicate n [D.tup [.int 0, .int 0]]).flatten = ptsD (List.replicate n p0) := by
  rw [rep_one]
  unfold ptsD
  rw [List.map_replicate]
  rfl
theorem dot_cong {f w w' : Nat → P} : ∀ n, (∀ k, k < n → w k = w' k) → dot f w n = dot f w' n
  | 0, _ => rfl
  | n + 1, h => by
    rw [dot, dot, h n (Nat.lt_succ_self _), dot_cong n fun k hk => h k (by omega)]
/-- what stands at a place of the row with silence round it -/
theorem row_at {p : List P} {r at_ k : Nat} (hk : k ≤ r) : co (((List.replicate r p0 ++ p ++ List.replicate r p0).drop at_).take (r + 1)) (r - k) = bk (co p) at_ k := by
  have e1 : co (((List.replicate r p0 ++ p ++ List.replicate r p0).drop at_).take (r + 1)) (r - k) = co (List.replicate r p0 ++ p ++ List.replicate r p0) (at_ + (r - k)) := by
    unfold co
    rw [List.getD_eq_getElem?_getD, List.getD_eq_getElem?_getD, List.getElem?_take, if_pos (by omega), List.getElem?_drop]
  rw [e1]
  unfold bk co
  rw [List.getD_eq_getElem?_getD, List.getD_eq_getElem?_getD]
  by_cases h : k ≤ at_
  · rw [if_pos h]
    rcases Nat.lt_or_ge (at_ - k) p.length with g | g
    · rw [List.getElem?_append_left (by simp; omega), List.getElem?_append_right (by simp; omega)]
      congr 2
      simp
      omega
    · rw [List.getElem?_append_right (by simp; omega), List.getElem?_eq_none g]
      rw [List.getElem?_replicate]
      split <;> rfl
  · rw [if_neg h, List.getElem?_append_left (by simp; omega), List.getElem?_append_left (by simp; omega), List.getElem?_replicate, if_pos (by omega)]
    rfl
theorem pure_sent : ∀ ds Q X, sp_sent ds Q X → ds.length = 2 ∧ WSs G_sent ms_sent (mkEnv 6 ds) (fnEnds Q X) := by
  rintro ds Q X ⟨a, p, B, rfl, ⟨a1, a2⟩, p2, ha, hp, hB0, hB, hq⟩
  refine ⟨rfl, ?_⟩
  simp only [ms_sent, mkEnv, fnEnds, List.map_cons, List.map_nil, List.length_cons, List.length_nil, Nat.reduceAdd, Nat.reduceSub, List.replicate, List.cons_append, List.nil_append]
  obtain ⟨r, hr⟩ : ∃ r, a.length = r + 1 := ⟨a.length - 1, by omega⟩
  have er : ((a.length : Nat) - 1 : Int) = (r : Nat) := by omega
  ((first | (with_reducible refine Box.mk ?_) | skip); show WSs _ (_ :: _) _ _; rw [WSs_cB]; simp only [wipeE, WCs, mkEnv, fnEnds, WS_raise, WS_try, WS_frz, WS_set, WS_setT, WS_par2, WS_par3, WS_aug, WS_expr, WS_ret, WS_retv, WS_retN, WS_if, WS_for, WS_while, WS_brk, WS_cont, WS_pass, WS_doc, WS_append, WS_extend, WS_popx, WS_setix, WS_augix, WS_setd, WS_rvs, WS_popset, WS_insert, extW_l, extW_t, insW_2, WE, WAs, WLs, WT, argK, argW, opW, opI, biW, Sl_v, Sl_o, csD, slW, ownW, if_true, if_false, addW_i, addW_l, addW_t, subW_i, mulW_i, mulW_l, mulW_t, fdivW_i, modW_i, powW_i, shlW_i, shrW_i, bitW_i, iaddW_i, imulW_i, ifdivW_i, ltW_i, leW_i, gtW_i, geW_i, eqW_i, neW_i, isW_n, isntW_n, isW_b, isntW_b, idxW_l, idxW_t, optW_s, optP_s, lenW_l, lenW_t, lenW_s, lenW_d, intW_i, intW_b, absW_i, maxW_i, minW_i, negW_i, listW_l, listW_t, tupleW_l, tupleW_t, sliceW_l, sliceW_t, isiW_1, optI_n, optI_s, truW_b, truW_i, truW_l, truW_t, truW_n, itW_l, itW_t, itW_r1, itW_r2, itW_r3, strW_i, itW_el, itW_et, itW_zl, itW_zt, itW_vl, itW_vt, tgW_n, tgW_t, setAll_c, setAll_n, List.map_cons, List.map_nil, List.cons_append, List.nil_append, List.append_nil, List.getElem?_cons_succ, List.getElem?_cons_zero, List.length_cons, List.length_nil, Nat.reduceAdd, Nat.reduceSub, List.replicate, List.set_cons_succ, List.set_cons_zero, mtW, mtTy, getW, bkW, dicW, revW, Sl_od, inW_d, notinW_d])
  simp only [pts_len]
  by_cases hpe : p = []
  · have e : sv a p = [] := by unfold sv; rw [if_pos hpe]
    rw [e] at hq
    refine ite_t (by rw [hpe]; rfl) ?_
    ((first | (with_reducible refine Box.mk ?_) | skip); show WSs _ (_ :: _) _ _; rw [WSs_cB]; simp only [wipeE, WCs, mkEnv, fnEnds, WS_raise, WS_try, WS_frz, WS_set, WS_setT, WS_par2, WS_par3, WS_aug, WS_expr, WS_ret, WS_retv, WS_retN, WS_if, WS_for, WS_while, WS_brk, WS_cont, WS_pass, WS_doc, WS_append, WS_extend, WS_popx, WS_setix, WS_augix, WS_setd, WS_rvs, WS_popset, WS_insert, extW_l, extW_t, insW_2, WE, WAs, WLs, WT, argK, argW, opW, opI, biW, Sl_v, Sl_o, csD, slW, ownW, if_true, if_false, addW_i, addW_l, addW_t, subW_i, mulW_i, mulW_l, mulW_t, fdivW_i, modW_i, powW_i, shlW_i, shrW_i, bitW_i, iaddW_i, imulW_i, ifdivW_i, ltW_i, leW_i, gtW_i, geW_i, eqW_i, neW_i, isW_n, isntW_n, isW_b, isntW_b, idxW_l, idxW_t, optW_s, optP_s, lenW_l, lenW_t, lenW_s, lenW_d, intW_i, intW_b, absW_i, maxW_i, minW_i, negW_i, listW_l, listW_t, tupleW_l, tupleW_t, sliceW_l, sliceW_t, isiW_1, optI_n, optI_s, truW_b, truW_i, truW_l, truW_t, truW_n, itW_l, itW_t, itW_r1, itW_r2, itW_r3, strW_i, itW_el, itW_et, itW_zl, itW_zt, itW_vl, itW_vt, tgW_n, tgW_t, setAll_c, setAll_n, List.map_cons, List.map_nil, List.cons_append, List.nil_append, List.append_nil, List.getElem?_cons_succ, List.getElem?_cons_zero, List.length_cons, List.length_nil, Nat.reduceAdd, Nat.reduceSub, List.replicate, List.set_cons_succ, List.set_cons_zero, mtW, mtTy, getW, bkW, dicW, revW, Sl_od, inW_d, notinW_d])
    exact ⟨by decide, hq⟩
  have p1 : 1 ≤ p.length := List.length_pos_iff.mpr hpe
  have esv : sv a p = cv a p := by unfold sv; rw [if_neg hpe]
  rw [esv] at hq
  refine ite_f (beq_false_of_ne (by omega)) ?_
  ((first | (with_reducible refine Box.mk ?_) | skip); show WSs _ _ _ _; rw [WSs_n])
  ((first | (with_reducible refine Box.mk ?_) | skip); show WSs _ (_ :: _) _ _; rw [WSs_cB]; simp only [wipeE, WCs, mkEnv, fnEnds, WS_raise, WS_try, WS_frz, WS_set, WS_setT, WS_par2, WS_par3, WS_aug, WS_expr, WS_ret, WS_retv, WS_retN, WS_if, WS_for, WS_while, WS_brk, WS_cont, WS_pass, WS_doc, WS_append, WS_extend, WS_popx, WS_setix, WS_augix, WS_setd, WS_rvs, WS_popset, WS_insert, extW_l, extW_t, insW_2, WE, WAs, WLs, WT, argK, argW, opW, opI, biW, Sl_v, Sl_o, csD, slW, ownW, if_true, if_false, addW_i, addW_l, addW_t, subW_i, mulW_i, mulW_l, mulW_t, fdivW_i, modW_i, powW_i, shlW_i, shrW_i, bitW_i, iaddW_i, imulW_i, ifdivW_i, ltW_i, leW_i, gtW_i, geW_i, eqW_i, neW_i, isW_n, isntW_n, isW_b, isntW_b, idxW_l, idxW_t, optW_s, optP_s, lenW_l, lenW_t, lenW_s, lenW_d, intW_i, intW_b, absW_i, maxW_i, minW_i, negW_i, listW_l, listW_t, tupleW_l, tupleW_t, sliceW_l, sliceW_t, isiW_1, optI_n, optI_s, truW_b, truW_i, truW_l, truW_t, truW_n, itW_l, itW_t, itW_r1, itW_r2, itW_r3, strW_i, itW_el, itW_et, itW_zl, itW_zt, itW_vl, itW_vt, tgW_n, tgW_t, setAll_c, setAll_n, List.map_cons, List.map_nil, List.cons_append, List.nil_append, List.append_nil, List.getElem?_cons_succ, List.getElem?_cons_zero, List.length_cons, List.length_nil, Nat.reduceAdd, Nat.reduceSub, List.replicate, List.set_cons_succ, List.set_cons_zero, mtW, mtTy, getW, bkW, dicW, revW, Sl_od, inW_d, notinW_d])
  refine ⟨by decide, by decide, ?_⟩
  refine fnW_mk rfl ⟨a, rfl, ?_⟩
  rw [er]
  simp only [wipeE, WCs, mkEnv, fnEnds, WS_raise, WS_try, WS_frz, WS_set, WS_setT, WS_par2, WS_par3, WS_aug, WS_expr, WS_ret, WS_retv, WS_retN, WS_if, WS_for, WS_while, WS_brk, WS_cont, WS_pass, WS_doc, WS_append, WS_extend, WS_popx, WS_setix, WS_augix, WS_setd, WS_rvs, WS_popset, WS_insert, extW_l, extW_t, insW_2, WE, WAs, WLs, WT, argK, argW, opW, opI, biW, Sl_v, Sl_o, csD, slW, ownW, if_true, if_false, addW_i, addW_l, addW_t, subW_i, mulW_i, mulW_l, mulW_t, fdivW_i, modW_i, powW_i, shlW_i, shrW_i, bitW_i, iaddW_i, imulW_i, ifdivW_i, ltW_i, leW_i, gtW_i, geW_i, eqW_i, neW_i, isW_n, isntW_n, isW_b, isntW_b, idxW_l, idxW_t, optW_s, optP_s, lenW_l, lenW_t, lenW_s, lenW_d, intW_i, intW_b, absW_i, maxW_i, minW_i, negW_i, listW_l, listW_t, tupleW_l, tupleW_t, sliceW_l, sliceW_t, isiW_1, optI_n, optI_s, truW_b, truW_i, truW_l, truW_t, truW_n, itW_l, itW_t, itW_r1, itW_r2, itW_r3, strW_i, itW_el, itW_et, itW_zl, itW_zt, itW_vl, itW_vt, tgW_n, tgW_t, setAll_c, setAll_n, List.map_cons, List.map_nil, List.cons_append, List.nil_append, List.append_nil, List.getElem?_cons_succ, List.getElem?_cons_zero, List.length_cons, List.length_nil, Nat.reduceAdd, Nat.reduceSub, List.replicate, List.set_cons_succ, List.set_cons_zero, mtW, mtTy, getW, bkW, dicW, revW, Sl_od, inW_d, notinW_d]
  refine ⟨⟨by omega, by omega, by unfold LIM; simp; omega⟩, ?_⟩
  rw [Int.toNat_natCast, rep_p0]
  ((first | (with_reducible refine Box.mk ?_) | skip); show WSs _ (_ :: _) _ _; rw [WSs_cB]; simp only [wipeE, WCs, mkEnv, fnEnds, WS_raise, WS_try, WS_frz, WS_set, WS_setT, WS_par2, WS_par3, WS_aug, WS_expr, WS_ret, WS_retv, WS_retN, WS_if, WS_for, WS_while, WS_brk, WS_cont, WS_pass, WS_doc, WS_append, WS_extend, WS_popx, WS_setix, WS_augix, WS_setd, WS_rvs, WS_popset, WS_insert, extW_l, extW_t, insW_2, WE, WAs, WLs, WT, argK, argW, opW, opI, biW, Sl_v, Sl_o, csD, slW, ownW, if_true, if_false, addW_i, addW_l, addW_t, subW_i, mulW_i, mulW_l, mulW_t, fdivW_i, modW_i, powW_i, shlW_i, shrW_i, bitW_i, iaddW_i, imulW_i, ifdivW_i, ltW_i, leW_i, gtW_i, geW_i, eqW_i, neW_i, isW_n, isntW_n, isW_b, isntW_b, idxW_l, idxW_t, optW_s, optP_s, lenW_l, lenW_t, lenW_s, lenW_d, intW_i, intW_b, absW_i, maxW_i, minW_i, negW_i, listW_l, listW_t, tupleW_l, tupleW_t, sliceW_l, sliceW_t, isiW_1, optI_n, optI_s, truW_b, truW_i, truW_l, truW_t, truW_n, itW_l, itW_t, itW_r1, itW_r2, itW_r3, strW_i, itW_el, itW_et, itW_zl, itW_zt, itW_vl, itW_vt, tgW_n, tgW_t, setAll_c, setAll_n, List.map_cons, List.map_nil, List.cons_append, List.nil_append, List.append_nil, List.getElem?_cons_succ, List.getElem?_cons_zero, List.length_cons, List.length_nil, Nat.reduceAdd, Nat.reduceSub, List.replicate, List.set_cons_succ, List.set_cons_zero, mtW, mtTy, getW, bkW, dicW, revW, Sl_od, inW_d, notinW_d])
  ((first | (with_reducible refine Box.mk ?_) | skip); show WSs _ (_ :: _) _ _; rw [WSs_cB]; simp only [wipeE, WCs, mkEnv, fnEnds, WS_raise, WS_try, WS_frz, WS_set, WS_setT, WS_par2, WS_par3, WS_aug, WS_expr, WS_ret, WS_retv, WS_retN, WS_if, WS_for, WS_while, WS_brk, WS_cont, WS_pass, WS_doc, WS_append, WS_extend, WS_popx, WS_setix, WS_augix, WS_setd, WS_rvs, WS_popset, WS_insert, extW_l, extW_t, insW_2, WE, WAs, WLs, WT, argK, argW, opW, opI, biW, Sl_v, Sl_o, csD, slW, ownW, if_true, if_false, addW_i, addW_l, addW_t, subW_i, mulW_i, mulW_l, mulW_t, fdivW_i, modW_i, powW_i, shlW_i, shrW_i, bitW_i, iaddW_i, imulW_i, ifdivW_i, ltW_i, leW_i, gtW_i, geW_i, eqW_i, neW_i, isW_n, isntW_n, isW_b, isntW_b, idxW_l, idxW_t, optW_s, optP_s, lenW_l, lenW_t, lenW_s, lenW_d, intW_i, intW_b, absW_i, maxW_i, minW_i, negW_i, listW_l, listW_t, tupleW_l, tupleW_t, sliceW_l, sliceW_t, isiW_1, optI_n, optI_s, truW_b, truW_i, truW_l, truW_t, truW_n, itW_l, itW_t, itW_r1, itW_r2, itW_r3, strW_i, itW_el, itW_et, itW_zl, itW_zt, itW_vl, itW_vt, tgW_n, tgW_t, setAll_c, setAll_n, List.map_cons, List.map_nil, List.cons_append, List.nil_append, List.append_nil, List.getElem?_cons_succ, List.getElem?_cons_zero, List.length_cons, List.length_nil, Nat.reduceAdd, Nat.reduceSub, List.replicate, List.set_cons_succ, List.set_cons_zero, mtW, mtTy, getW, bkW, dicW, revW, Sl_od, inW_d, notinW_d])
  simp only [pts_len, List.length_append, List.length_replicate, ← pts_app]
  refine ⟨by unfold LIM; omega, by unfold LIM; omega, ?_⟩
  ((first | (with_reducible refine Box.mk ?_) | skip); show WSs _ (_ :: _) _ _; rw [WSs_cB]; simp only [wipeE, WCs, mkEnv, fnEnds, WS_raise, WS_try, WS_frz, WS_set, WS_setT, WS_par2, WS_par3, WS_aug, WS_expr, WS_ret, WS_retv, WS_retN, WS_if, WS_for, WS_while, WS_brk, WS_cont, WS_pass, WS_doc, WS_append, WS_extend, WS_popx, WS_setix, WS_augix, WS_setd, WS_rvs, WS_popset, WS_insert, extW_l, extW_t, insW_2, WE, WAs, WLs, WT, argK, argW, opW, opI, biW, Sl_v, Sl_o, csD, slW, ownW, if_true, if_false, addW_i, addW_l, addW_t, subW_i, mulW_i, mulW_l, mulW_t, fdivW_i, modW_i, powW_i, shlW_i, shrW_i, bitW_i, iaddW_i, imulW_i, ifdivW_i, ltW_i, leW_i, gtW_i, geW_i, eqW_i, neW_i, isW_n, isntW_n, isW_b, isntW_b, idxW_l, idxW_t, optW_s, optP_s, lenW_l, lenW_t, lenW_s, lenW_d, intW_i, intW_b, absW_i, maxW_i, minW_i, negW_i, listW_l, listW_t, tupleW_l, tupleW_t, sliceW_l, sliceW_t, isiW_1, optI_n, optI_s, truW_b, truW_i, truW_l, truW_t, truW_n, itW_l, itW_t, itW_r1, itW_r2, itW_r3, strW_i, itW_el, itW_et, itW_zl, itW_zt, itW_vl, itW_vt, tgW_n, tgW_t, setAll_c, setAll_n, List.map_cons, List.map_nil, List.cons_append, List.nil_append, List.append_nil, List.getElem?_cons_succ, List.getElem?_cons_zero, List.length_cons, List.length_nil, Nat.reduceAdd, Nat.reduceSub, List.replicate, List.set_cons_succ, List.set_cons_zero, mtW, mtTy, getW, bkW, dicW, revW, Sl_od, inW_d, notinW_d])
  ((first | (with_reducible refine Box.mk ?_) | skip); show WSs _ (_ :: _) _ _; rw [WSs_cB]; simp only [wipeE, WCs, mkEnv, fnEnds, WS_raise, WS_try, WS_frz, WS_set, WS_setT, WS_par2, WS_par3, WS_aug, WS_expr, WS_ret, WS_retv, WS_retN, WS_if, WS_for, WS_while, WS_brk, WS_cont, WS_pass, WS_doc, WS_append, WS_extend, WS_popx, WS_setix, WS_augix, WS_setd, WS_rvs, WS_popset, WS_insert, extW_l, extW_t, insW_2, WE, WAs, WLs, WT, argK, argW, opW, opI, biW, Sl_v, Sl_o, csD, slW, ownW, if_true, if_false, addW_i, addW_l, addW_t, subW_i, mulW_i, mulW_l, mulW_t, fdivW_i, modW_i, powW_i, shlW_i, shrW_i, bitW_i, iaddW_i, imulW_i, ifdivW_i, ltW_i, leW_i, gtW_i, geW_i, eqW_i, neW_i, isW_n, isntW_n, isW_b, isntW_b, idxW_l, idxW_t, optW_s, optP_s, lenW_l, lenW_t, lenW_s, lenW_d, intW_i, intW_b, absW_i, maxW_i, minW_i, negW_i, listW_l, listW_t, tupleW_l, tupleW_t, sliceW_l, sliceW_t, isiW_1, optI_n, optI_s, truW_b, truW_i, truW_l, truW_t, truW_n, itW_l, itW_t, itW_r1, itW_r2, itW_r3, strW_i, itW_el, itW_et, itW_zl, itW_zt, itW_vl, itW_vt, tgW_n, tgW_t, setAll_c, setAll_n, List.map_cons, List.map_nil, List.cons_append, List.nil_append, List.append_nil, List.getElem?_cons_succ, List.getElem?_cons_zero, List.length_cons, List.length_nil, Nat.reduceAdd, Nat.reduceSub, List.replicate, List.set_cons_succ, List.set_cons_zero, mtW, mtTy, getW, bkW, dicW, revW, Sl_od, inW_d, notinW_d])
  refine fnW_mk rfl ⟨a, rfl, ?_⟩
  rw [er]
  simp only [wipeE, WCs, mkEnv, fnEnds, WS_raise, WS_try, WS_frz, WS_set, WS_setT, WS_par2, WS_par3, WS_aug, WS_expr, WS_ret, WS_retv, WS_retN, WS_if, WS_for, WS_while, WS_brk, WS_cont, WS_pass, WS_doc, WS_append, WS_extend, WS_popx, WS_setix, WS_augix, WS_setd, WS_rvs, WS_popset, WS_insert, extW_l, extW_t, insW_2, WE, WAs, WLs, WT, argK, argW, opW, opI, biW, Sl_v, Sl_o, csD, slW, ownW, if_true, if_false, addW_i, addW_l, addW_t, subW_i, mulW_i, mulW_l, mulW_t, fdivW_i, modW_i, powW_i, shlW_i, shrW_i, bitW_i, iaddW_i, imulW_i, ifdivW_i, ltW_i, leW_i, gtW_i, geW_i, eqW_i, neW_i, isW_n, isntW_n, isW_b, isntW_b, idxW_l, idxW_t, optW_s, optP_s, lenW_l, lenW_t, lenW_s, lenW_d, intW_i, intW_b, absW_i, maxW_i, minW_i, negW_i, listW_l, listW_t, tupleW_l, tupleW_t, sliceW_l, sliceW_t, isiW_1, optI_n, optI_s, truW_b, truW_i, truW_l, truW_t, truW_n, itW_l, itW_t, itW_r1, itW_r2, itW_r3, strW_i, itW_el, itW_et, itW_zl, itW_zt, itW_vl, itW_vt, tgW_n, tgW_t, setAll_c, setAll_n, List.map_cons, List.map_nil, List.cons_append, List.nil_append, List.append_nil, List.getElem?_cons_succ, List.getElem?_cons_zero, List.length_cons, List.length_nil, Nat.reduceAdd, Nat.reduceSub, List.replicate, List.set_cons_succ, List.set_cons_zero, mtW, mtTy, getW, bkW, dicW, revW, Sl_od, inW_d, notinW_d]
  ((first | (with_reducible refine Box.mk ?_) | skip); show WSs _ (_ :: _) _ _; rw [WSs_cB]; simp only [wipeE, WCs, mkEnv, fnEnds, WS_raise, WS_try, WS_frz, WS_set, WS_setT, WS_par2, WS_par3, WS_aug, WS_expr, WS_ret, WS_retv, WS_retN, WS_if, WS_for, WS_while, WS_brk, WS_cont, WS_pass, WS_doc, WS_append, WS_extend, WS_popx, WS_setix, WS_augix, WS_setd, WS_rvs, WS_popset, WS_insert, extW_l, extW_t, insW_2, WE, WAs, WLs, WT, argK, argW, opW, opI, biW, Sl_v, Sl_o, csD, slW, ownW, if_true, if_false, addW_i, addW_l, addW_t, subW_i, mulW_i, mulW_l, mulW_t, fdivW_i, modW_i, powW_i, shlW_i, shrW_i, bitW_i, iaddW_i, imulW_i, ifdivW_i, ltW_i, leW_i, gtW_i, geW_i, eqW_i, neW_i, isW_n, isntW_n, isW_b, isntW_b, idxW_l, idxW_t, optW_s, optP_s, lenW_l, lenW_t, lenW_s, lenW_d, intW_i, intW_b, absW_i, maxW_i, minW_i, negW_i, listW_l, listW_t, tupleW_l, tupleW_t, sliceW_l, sliceW_t, isiW_1, optI_n, optI_s, truW_b, truW_i, truW_l, truW_t, truW_n, itW_l, itW_t, itW_r1, itW_r2, itW_r3, strW_i, itW_el, itW_et, itW_zl, itW_zt, itW_vl, itW_vt, tgW_n, tgW_t, setAll_c, setAll_n, List.map_cons, List.map_nil, List.cons_append, List.nil_append, List.append_nil, List.getElem?_cons_succ, List.getElem?_cons_zero, List.length_cons, List.length_nil, Nat.reduceAdd, Nat.reduceSub, List.replicate, List.set_cons_succ, List.set_cons_zero, mtW, mtTy, getW, bkW, dicW, revW, Sl_od, inW_d, notinW_d])
  refine fnW_mk rfl ⟨a, rfl, ?_⟩
  rw [er]
  simp only [wipeE, WCs, mkEnv, fnEnds, WS_raise, WS_try, WS_frz, WS_set, WS_setT, WS_par2, WS_par3, WS_aug, WS_expr, WS_ret, WS_retv, WS_retN, WS_if, WS_for, WS_while, WS_brk, WS_cont, WS_pass, WS_doc, WS_append, WS_extend, WS_popx, WS_setix, WS_augix, WS_setd, WS_rvs, WS_popset, WS_insert, extW_l, extW_t, insW_2, WE, WAs, WLs, WT, argK, argW, opW, opI, biW, Sl_v, Sl_o, csD, slW, ownW, if_true, if_false, addW_i, addW_l, addW_t, subW_i, mulW_i, mulW_l, mulW_t, fdivW_i, modW_i, powW_i, shlW_i, shrW_i, bitW_i, iaddW_i, imulW_i, ifdivW_i, ltW_i, leW_i, gtW_i, geW_i, eqW_i, neW_i, isW_n, isntW_n, isW_b, isntW_b, idxW_l, idxW_t, optW_s, optP_s, lenW_l, lenW_t, lenW_s, lenW_d, intW_i, intW_b, absW_i, maxW_i, minW_i, negW_i, listW_l, listW_t, tupleW_l, tupleW_t, sliceW_l, sliceW_t, isiW_1, optI_n, optI_s, truW_b, truW_i, truW_l, truW_t, truW_n, itW_l, itW_t, itW_r1, itW_r2, itW_r3, strW_i, itW_el, itW_et, itW_zl, itW_zt, itW_vl, itW_vt, tgW_n, tgW_t, setAll_c, setAll_n, List.map_cons, List.map_nil, List.cons_append, List.nil_append, List.append_nil, List.getElem?_cons_succ, List.getElem?_cons_zero, List.length_cons, List.length_nil, Nat.reduceAdd, Nat.reduceSub, List.replicate, List.set_cons_succ, List.set_cons_zero, mtW, mtTy, getW, bkW, dicW, revW, Sl_od, inW_d, notinW_d, pts_len]
  refine ⟨by unfold B62; omega, ?_⟩
  rw [show ((p.length : Int) + (r : Int)).toNat = p.length + r by omega]
  refine lcW_range (f := fun i => ptD (cnv (co a) (co p) i)) (by unfold LIM; omega) (fun i hi kz hkz => ?_) ?_
  · simp only [wipeE, WCs, mkEnv, fnEnds, WS_raise, WS_try, WS_frz, WS_set, WS_setT, WS_par2, WS_par3, WS_aug, WS_expr, WS_ret, WS_retv, WS_retN, WS_if, WS_for, WS_while, WS_brk, WS_cont, WS_pass, WS_doc, WS_append, WS_extend, WS_popx, WS_setix, WS_augix, WS_setd, WS_rvs, WS_popset, WS_insert, extW_l, extW_t, insW_2, WE, WAs, WLs, WT, argK, argW, opW, opI, biW, Sl_v, Sl_o, csD, slW, ownW, if_true, if_false, addW_i, addW_l, addW_t, subW_i, mulW_i, mulW_l, mulW_t, fdivW_i, modW_i, powW_i, shlW_i, shrW_i, bitW_i, iaddW_i, imulW_i, ifdivW_i, ltW_i, leW_i, gtW_i, geW_i, eqW_i, neW_i, isW_n, isntW_n, isW_b, isntW_b, idxW_l, idxW_t, optW_s, optP_s, lenW_l, lenW_t, lenW_s, lenW_d, intW_i, intW_b, absW_i, maxW_i, minW_i, negW_i, listW_l, listW_t, tupleW_l, tupleW_t, sliceW_l, sliceW_t, isiW_1, optI_n, optI_s, truW_b, truW_i, truW_l, truW_t, truW_n, itW_l, itW_t, itW_r1, itW_r2, itW_r3, strW_i, itW_el, itW_et, itW_zl, itW_zt, itW_vl, itW_vt, tgW_n, tgW_t, setAll_c, setAll_n, List.map_cons, List.map_nil, List.cons_append, List.nil_append, List.append_nil, List.getElem?_cons_succ, List.getElem?_cons_zero, List.length_cons, List.length_nil, Nat.reduceAdd, Nat.reduceSub, List.replicate, List.set_cons_succ, List.set_cons_zero, mtW, mtTy, getW, bkW, dicW, revW, Sl_od, inW_d, notinW_d]
    have e1 : (i : Int) + ((r : Int) + 1) = ((i + (r + 1) : Nat) : Int) := by omega
    rw [e1]
    rw [cut_ab (by rw [pts_len]; simp; omega), Nat.add_sub_cancel_left]
    have e2 : ((ptsD (List.replicate r p0 ++ p ++ List.replicate r p0)).drop i).take (r + 1) = ptsD (((List.replicate r p0 ++ p ++ List.replicate r p0).drop i).take (r + 1)) := by
      unfold ptsD
      rw [List.map_take, List.map_drop]
    rw [e2]
    have lw : (((List.replicate r p0 ++ p ++ List.replicate r p0).drop i).take (r + 1)).length = r + 1 := by simp; omega
    refine fnW_mk rfl ⟨a, _, B, rfl, by rw [lw, hr], ha, fun x hx => ?_, hB, ?_⟩
    · have := List.mem_of_mem_drop (List.mem_of_mem_take hx)
      rcases List.mem_append.mp this with h | h
      · rcases List.mem_append.mp h with h | h
        · rw [(List.mem_replicate.mp h).2]; exact bd_0 hB0
        · exact hp x h
      · rw [(List.mem_replicate.mp h).2]; exact bd_0 hB0
    · rw [lw, Nat.add_sub_cancel, hr, dot_cong (w' := bk (co p) i) (r + 1) fun k hk => row_at (by omega), dot_end fun k hk => co_end (by omega)]
      exact hkz
  · have e : (List.range (p.length + r)).map (fun i => ptD (cnv (co a) (co p) i)) = ptsD (cv a p) := by
      unfold ptsD cv
      rw [List.map_map, show a.length + p.length - 1 = p.length + r by omega]
      rfl
    rw [e]
    exact hq
end PL.K47

namespace PL.K47
open PySem PySem.Spec PyProof.Rows L2 PL
/-- an opening and a line -/
structure OL (o a : List P) (B : Int) : Prop where
  o1 : 1 ≤ o.length
  o2 : o.length ≤ 1000
  a1 : 1 ≤ a.length
  a2 : a.length ≤ 1000
  ba : ∀ x ∈ a, bd 50 x
  bo : ∀ x ∈ o, bd B x
  b0 : 0 ≤ B
  b1 : B ≤ BIG
def wh (o a : List P) (t : Nat) : List P := (cv a o).map (rotN t)
def shp (o a : List P) (t : Nat) : List P := (wh o a t).take o.length
def arr (w : List P) (p n : Nat) : List P := (List.replicate p p0 ++ w ++ List.replicate n p0).take n
theorem wh_len {o a : List P} {t : Nat} : (wh o a t).length = a.length + o.length - 1 := by
  unfold wh
  rw [List.length_map, cv_len]
theorem shp_len {o a : List P} {t : Nat} (h : 1 ≤ a.length) : (shp o a t).length = o.length := by
  unfold shp
  rw [List.length_take, wh_len]
  omega
theorem arr_len {w : List P} {p n : Nat} : (arr w p n).length = n := by
  unfold arr
  simp
  omega
theorem arr_get {w : List P} {p n k : Nat} (h : k < n) : co (arr w p n) k = if p ≤ k then co w (k - p) else p0 := by
  unfold arr co
  rw [List.getD_eq_getElem?_getD, List.getElem?_take, if_pos h]
  by_cases hp : p ≤ k
  · rw [if_pos hp, List.getD_eq_getElem?_getD]
    by_cases hw : k - p < w.length
    · rw [List.getElem?_append_left (by simp; omega), List.getElem?_append_right (by simp; omega)]
      simp
    · rw [List.getElem?_append_right (by simp; omega), List.getElem?_eq_none (l := w) (by omega), List.getElem?_replicate]
      split <;> rfl
  · rw [if_neg hp, List.getElem?_append_left (by simp; omega), List.getElem?_append_left (by simp; omega), List.getElem?_replicate, if_pos (by omega)]
    rfl
theorem ptsD_take {a : List P} {n : Nat} : (ptsD a).take n = ptsD (a.take n) := by
  unfold ptsD
  rw [List.map_take]
theorem bd_rot {A : Int} {x : P} (h : bd A x) : bd A (rot x) := by
  obtain ⟨⟨a1, a2⟩, a3, a4⟩ := h
  unfold bd rot
  simp only
  omega
theorem bd_rotN {A : Int} {x : P} (h : bd A x) : ∀ n, bd A (rotN n x)
  | 0 => h
  | n + 1 => bd_rot (bd_rotN h n)
theorem wh_bd {o a : List P} {B : Int} {t : Nat} (h : OL o a B) : ∀ x ∈ wh o a t, bd (a.length * (100 * B)) x := by
  intro x hx
  unfold wh at hx
  obtain ⟨y, hy, rfl⟩ := List.mem_map.mp hx
  unfold cv at hy
  obtain ⟨m, _, rfl⟩ := List.mem_map.mp hy
  refine bd_rotN ?_ t
  rw [← dot_end (n := a.length) fun k hk => co_end hk]
  have := bd_dot (A := 50) (B := B) (f := co a) (w := bk (co o) m) (fun k => bd_co (by decide) h.ba k) (fun k => bd_bk h.b0 (fun k => bd_co h.b0 h.bo k) m k) a.length
  rw [show (100 : Int) * B = 2 * (50 * B) by omega]
  exact this
theorem cut_to {xs : List D} {k : Nat} : cutD xs none (some (k : Int)) = xs.take k := by
  unfold cutD
  rw [HT.sIx_none, HT.sIx_nat, List.drop_zero, Nat.sub_zero]
  rcases Nat.le_total k xs.length with h | h
  · rw [Nat.min_eq_left h]
  · rw [Nat.min_eq_right h, List.take_of_length_le (Nat.le_refl _), List.take_of_length_le h]
--FN turned
def sp_turned : FSp := fun ds Q _ => ∃ (x : P) (t : Nat), ds = [ptD x, .int (t : Nat)] ∧ t ≤ 1000 ∧ Q (.val (ptD (rotN t x)))
abbrev G_turned : Tab := tabOf [] ["range"] [] [] []
theorem pure_turned : ∀ ds Q X, sp_turned ds Q X → ds.length = 2 ∧ WSs G_turned ms_turned (mkEnv 5 ds) (fnEnds Q X) := by
  rintro ds Q X ⟨x, t, rfl, ht, hq⟩
  refine ⟨rfl, ?_⟩
  simp only [ms_turned, mkEnv, fnEnds, List.map_cons, List.map_nil, List.length_cons, List.length_nil, Nat.reduceAdd, Nat.reduceSub, List.replicate, List.cons_append, List.nil_append]
  ((first | (with_reducible refine Box.mk ?_) | skip); show WSs _ (_ :: _) _ _; rw [WSs_cB]; simp only [wipeE, WCs, mkEnv, fnEnds, WS_raise, WS_try, WS_frz, WS_set, WS_setT, WS_par2, WS_par3, WS_aug, WS_expr, WS_ret, WS_retv, WS_retN, WS_if, WS_for, WS_while, WS_brk, WS_cont, WS_pass, WS_doc, WS_append, WS_extend, WS_popx, WS_setix, WS_augix, WS_setd, WS_rvs, WS_popset, WS_insert, extW_l, extW_t, insW_2, WE, WAs, WLs, WT, argK, argW, opW, opI, biW, Sl_v, Sl_o, csD, slW, ownW, if_true, if_false, addW_i, addW_l, addW_t, subW_i, mulW_i, mulW_l, mulW_t, fdivW_i, modW_i, powW_i, shlW_i, shrW_i, bitW_i, iaddW_i, imulW_i, ifdivW_i, ltW_i, leW_i, gtW_i, geW_i, eqW_i, neW_i, isW_n, isntW_n, isW_b, isntW_b, idxW_l, idxW_t, optW_s, optP_s, lenW_l, lenW_t, lenW_s, lenW_d, intW_i, intW_b, absW_i, maxW_i, minW_i, negW_i, listW_l, listW_t, tupleW_l, tupleW_t, sliceW_l, sliceW_t, isiW_1, optI_n, optI_s, truW_b, truW_i, truW_l, truW_t, truW_n, itW_l, itW_t, itW_r1, itW_r2, itW_r3, strW_i, itW_el, itW_et, itW_zl, itW_zt, itW_vl, itW_vt, tgW_n, tgW_t, setAll_c, setAll_n, List.map_cons, List.map_nil, List.cons_append, List.nil_append, List.append_nil, List.getElem?_cons_succ, List.getElem?_cons_zero, List.length_cons, List.length_nil, Nat.reduceAdd, Nat.reduceSub, List.replicate, List.set_cons_succ, List.set_cons_zero, mtW, mtTy, getW, bkW, dicW, revW, Sl_od, inW_d, notinW_d])
  rw [pt_set]
  simp only [wipeE, WCs, mkEnv, fnEnds, WS_raise, WS_try, WS_frz, WS_set, WS_setT, WS_par2, WS_par3, WS_aug, WS_expr, WS_ret, WS_retv, WS_retN, WS_if, WS_for, WS_while, WS_brk, WS_cont, WS_pass, WS_doc, WS_append, WS_extend, WS_popx, WS_setix, WS_augix, WS_setd, WS_rvs, WS_popset, WS_insert, extW_l, extW_t, insW_2, WE, WAs, WLs, WT, argK, argW, opW, opI, biW, Sl_v, Sl_o, csD, slW, ownW, if_true, if_false, addW_i, addW_l, addW_t, subW_i, mulW_i, mulW_l, mulW_t, fdivW_i, modW_i, powW_i, shlW_i, shrW_i, bitW_i, iaddW_i, imulW_i, ifdivW_i, ltW_i, leW_i, gtW_i, geW_i, eqW_i, neW_i, isW_n, isntW_n, isW_b, isntW_b, idxW_l, idxW_t, optW_s, optP_s, lenW_l, lenW_t, lenW_s, lenW_d, intW_i, intW_b, absW_i, maxW_i, minW_i, negW_i, listW_l, listW_t, tupleW_l, tupleW_t, sliceW_l, sliceW_t, isiW_1, optI_n, optI_s, truW_b, truW_i, truW_l, truW_t, truW_n, itW_l, itW_t, itW_r1, itW_r2, itW_r3, strW_i, itW_el, itW_et, itW_zl, itW_zt, itW_vl, itW_vt, tgW_n, tgW_t, setAll_c, setAll_n, List.map_cons, List.map_nil, List.cons_append, List.nil_append, List.append_nil, List.getElem?_cons_succ, List.getElem?_cons_zero, List.length_cons, List.length_nil, Nat.reduceAdd, Nat.reduceSub, List.replicate, List.set_cons_succ, List.set_cons_zero, mtW, mtTy, getW, bkW, dicW, revW, Sl_od, inW_d, notinW_d]
  refine ⟨trivial, ?_⟩
  ((first | (with_reducible refine Box.mk ?_) | skip); show WSs _ (_ :: _) _ _; rw [WSs_cB]; simp only [wipeE, WCs, mkEnv, fnEnds, WS_raise, WS_try, WS_frz, WS_set, WS_setT, WS_par2, WS_par3, WS_aug, WS_expr, WS_ret, WS_retv, WS_retN, WS_if, WS_for, WS_while, WS_brk, WS_cont, WS_pass, WS_doc, WS_append, WS_extend, WS_popx, WS_setix, WS_augix, WS_setd, WS_rvs, WS_popset, WS_insert, extW_l, extW_t, insW_2, WE, WAs, WLs, WT, argK, argW, opW, opI, biW, Sl_v, Sl_o, csD, slW, ownW, if_true, if_false, addW_i, addW_l, addW_t, subW_i, mulW_i, mulW_l, mulW_t, fdivW_i, modW_i, powW_i, shlW_i, shrW_i, bitW_i, iaddW_i, imulW_i, ifdivW_i, ltW_i, leW_i, gtW_i, geW_i, eqW_i, neW_i, isW_n, isntW_n, isW_b, isntW_b, idxW_l, idxW_t, optW_s, optP_s, lenW_l, lenW_t, lenW_s, lenW_d, intW_i, intW_b, absW_i, maxW_i, minW_i, negW_i, listW_l, listW_t, tupleW_l, tupleW_t, sliceW_l, sliceW_t, isiW_1, optI_n, optI_s, truW_b, truW_i, truW_l, truW_t, truW_n, itW_l, itW_t, itW_r1, itW_r2, itW_r3, strW_i, itW_el, itW_et, itW_zl, itW_zt, itW_vl, itW_vt, tgW_n, tgW_t, setAll_c, setAll_n, List.map_cons, List.map_nil, List.cons_append, List.nil_append, List.append_nil, List.getElem?_cons_succ, List.getElem?_cons_zero, List.length_cons, List.length_nil, Nat.reduceAdd, Nat.reduceSub, List.replicate, List.set_cons_succ, List.set_cons_zero, mtW, mtTy, getW, bkW, dicW, revW, Sl_od, inW_d, notinW_d])
  refine ⟨by unfold B62; omega, ?_⟩
  rw [Int.toNat_natCast, rgD_0]
  refine forW_rg (fun n ρ => ∃ y2 : Option Sl, ρ = [some (.val (ptD x)), some (.val (.int (t : Nat))), y2, some (.val (.int (rotN n x).1)), some (.val (.int (rotN n x).2))]) 0 t ⟨_, rfl⟩ ?_ ?_
  · rintro n ρ _ hn ⟨y2, rfl⟩ kk hkk
    simp only [wipeE, WCs, mkEnv, fnEnds, WS_raise, WS_try, WS_frz, WS_set, WS_setT, WS_par2, WS_par3, WS_aug, WS_expr, WS_ret, WS_retv, WS_retN, WS_if, WS_for, WS_while, WS_brk, WS_cont, WS_pass, WS_doc, WS_append, WS_extend, WS_popx, WS_setix, WS_augix, WS_setd, WS_rvs, WS_popset, WS_insert, extW_l, extW_t, insW_2, WE, WAs, WLs, WT, argK, argW, opW, opI, biW, Sl_v, Sl_o, csD, slW, ownW, if_true, if_false, addW_i, addW_l, addW_t, subW_i, mulW_i, mulW_l, mulW_t, fdivW_i, modW_i, powW_i, shlW_i, shrW_i, bitW_i, iaddW_i, imulW_i, ifdivW_i, ltW_i, leW_i, gtW_i, geW_i, eqW_i, neW_i, isW_n, isntW_n, isW_b, isntW_b, idxW_l, idxW_t, optW_s, optP_s, lenW_l, lenW_t, lenW_s, lenW_d, intW_i, intW_b, absW_i, maxW_i, minW_i, negW_i, listW_l, listW_t, tupleW_l, tupleW_t, sliceW_l, sliceW_t, isiW_1, optI_n, optI_s, truW_b, truW_i, truW_l, truW_t, truW_n, itW_l, itW_t, itW_r1, itW_r2, itW_r3, strW_i, itW_el, itW_et, itW_zl, itW_zt, itW_vl, itW_vt, tgW_n, tgW_t, setAll_c, setAll_n, List.map_cons, List.map_nil, List.cons_append, List.nil_append, List.append_nil, List.getElem?_cons_succ, List.getElem?_cons_zero, List.length_cons, List.length_nil, Nat.reduceAdd, Nat.reduceSub, List.replicate, List.set_cons_succ, List.set_cons_zero, mtW, mtTy, getW, bkW, dicW, revW, Sl_od, inW_d, notinW_d]
    ((first | (with_reducible refine Box.mk ?_) | skip); show WSs _ (_ :: _) _ _; rw [WSs_cB]; simp only [wipeE, WCs, mkEnv, fnEnds, WS_raise, WS_try, WS_frz, WS_set, WS_setT, WS_par2, WS_par3, WS_aug, WS_expr, WS_ret, WS_retv, WS_retN, WS_if, WS_for, WS_while, WS_brk, WS_cont, WS_pass, WS_doc, WS_append, WS_extend, WS_popx, WS_setix, WS_augix, WS_setd, WS_rvs, WS_popset, WS_insert, extW_l, extW_t, insW_2, WE, WAs, WLs, WT, argK, argW, opW, opI, biW, Sl_v, Sl_o, csD, slW, ownW, if_true, if_false, addW_i, addW_l, addW_t, subW_i, mulW_i, mulW_l, mulW_t, fdivW_i, modW_i, powW_i, shlW_i, shrW_i, bitW_i, iaddW_i, imulW_i, ifdivW_i, ltW_i, leW_i, gtW_i, geW_i, eqW_i, neW_i, isW_n, isntW_n, isW_b, isntW_b, idxW_l, idxW_t, optW_s, optP_s, lenW_l, lenW_t, lenW_s, lenW_d, intW_i, intW_b, absW_i, maxW_i, minW_i, negW_i, listW_l, listW_t, tupleW_l, tupleW_t, sliceW_l, sliceW_t, isiW_1, optI_n, optI_s, truW_b, truW_i, truW_l, truW_t, truW_n, itW_l, itW_t, itW_r1, itW_r2, itW_r3, strW_i, itW_el, itW_et, itW_zl, itW_zt, itW_vl, itW_vt, tgW_n, tgW_t, setAll_c, setAll_n, List.map_cons, List.map_nil, List.cons_append, List.nil_append, List.append_nil, List.getElem?_cons_succ, List.getElem?_cons_zero, List.length_cons, List.length_nil, Nat.reduceAdd, Nat.reduceSub, List.replicate, List.set_cons_succ, List.set_cons_zero, mtW, mtTy, getW, bkW, dicW, revW, Sl_od, inW_d, notinW_d])
    ((first | (with_reducible refine Box.mk ?_) | skip); show WSs _ _ _ _; rw [WSs_n])
    exact hkk _ ⟨_, rfl⟩
  · rintro ρ ⟨y2, rfl⟩
    rw [Nat.zero_add]
    ((first | (with_reducible refine Box.mk ?_) | skip); show WSs _ (_ :: _) _ _; rw [WSs_cB]; simp only [wipeE, WCs, mkEnv, fnEnds, WS_raise, WS_try, WS_frz, WS_set, WS_setT, WS_par2, WS_par3, WS_aug, WS_expr, WS_ret, WS_retv, WS_retN, WS_if, WS_for, WS_while, WS_brk, WS_cont, WS_pass, WS_doc, WS_append, WS_extend, WS_popx, WS_setix, WS_augix, WS_setd, WS_rvs, WS_popset, WS_insert, extW_l, extW_t, insW_2, WE, WAs, WLs, WT, argK, argW, opW, opI, biW, Sl_v, Sl_o, csD, slW, ownW, if_true, if_false, addW_i, addW_l, addW_t, subW_i, mulW_i, mulW_l, mulW_t, fdivW_i, modW_i, powW_i, shlW_i, shrW_i, bitW_i, iaddW_i, imulW_i, ifdivW_i, ltW_i, leW_i, gtW_i, geW_i, eqW_i, neW_i, isW_n, isntW_n, isW_b, isntW_b, idxW_l, idxW_t, optW_s, optP_s, lenW_l, lenW_t, lenW_s, lenW_d, intW_i, intW_b, absW_i, maxW_i, minW_i, negW_i, listW_l, listW_t, tupleW_l, tupleW_t, sliceW_l, sliceW_t, isiW_1, optI_n, optI_s, truW_b, truW_i, truW_l, truW_t, truW_n, itW_l, itW_t, itW_r1, itW_r2, itW_r3, strW_i, itW_el, itW_et, itW_zl, itW_zt, itW_vl, itW_vt, tgW_n, tgW_t, setAll_c, setAll_n, List.map_cons, List.map_nil, List.cons_append, List.nil_append, List.append_nil, List.getElem?_cons_succ, List.getElem?_cons_zero, List.length_cons, List.length_nil, Nat.reduceAdd, Nat.reduceSub, List.replicate, List.set_cons_succ, List.set_cons_zero, mtW, mtTy, getW, bkW, dicW, revW, Sl_od, inW_d, notinW_d])
    exact ⟨by decide, hq⟩
--FN whole
def sp_whole : FSp := fun ds Q _ => ∃ (o a : List P) (B : Int) (t : Nat), ds = [.tup (ptsD o), lineD a, .int (t : Nat)] ∧ t ≤ 1000 ∧ OL o a B ∧ Q (.own (ptsD (wh o a t)))
abbrev G_whole : Tab := tabOf [("sent", sp_sent), ("turned", sp_turned)] ["list"] [] [] []
theorem pure_whole : ∀ ds Q X, sp_whole ds Q X → ds.length = 3 ∧ WSs G_whole ms_whole (mkEnv 4 ds) (fnEnds Q X) := by
  rintro ds Q X ⟨o, a, B, t, rfl, ht, h, hq⟩
  refine ⟨rfl, ?_⟩
  have h1 := h.o1
  have h2 := h.o2
  have h3 := h.a1
  have h4 := h.a2
  simp only [ms_whole, mkEnv, fnEnds, List.map_cons, List.map_nil, List.length_cons, List.length_nil, Nat.reduceAdd, Nat.reduceSub, List.replicate, List.cons_append, List.nil_append]
  ((first | (with_reducible refine Box.mk ?_) | skip); show WSs _ (_ :: _) _ _; rw [WSs_cB]; simp only [wipeE, WCs, mkEnv, fnEnds, WS_raise, WS_try, WS_frz, WS_set, WS_setT, WS_par2, WS_par3, WS_aug, WS_expr, WS_ret, WS_retv, WS_retN, WS_if, WS_for, WS_while, WS_brk, WS_cont, WS_pass, WS_doc, WS_append, WS_extend, WS_popx, WS_setix, WS_augix, WS_setd, WS_rvs, WS_popset, WS_insert, extW_l, extW_t, insW_2, WE, WAs, WLs, WT, argK, argW, opW, opI, biW, Sl_v, Sl_o, csD, slW, ownW, if_true, if_false, addW_i, addW_l, addW_t, subW_i, mulW_i, mulW_l, mulW_t, fdivW_i, modW_i, powW_i, shlW_i, shrW_i, bitW_i, iaddW_i, imulW_i, ifdivW_i, ltW_i, leW_i, gtW_i, geW_i, eqW_i, neW_i, isW_n, isntW_n, isW_b, isntW_b, idxW_l, idxW_t, optW_s, optP_s, lenW_l, lenW_t, lenW_s, lenW_d, intW_i, intW_b, absW_i, maxW_i, minW_i, negW_i, listW_l, listW_t, tupleW_l, tupleW_t, sliceW_l, sliceW_t, isiW_1, optI_n, optI_s, truW_b, truW_i, truW_l, truW_t, truW_n, itW_l, itW_t, itW_r1, itW_r2, itW_r3, strW_i, itW_el, itW_et, itW_zl, itW_zt, itW_vl, itW_vt, tgW_n, tgW_t, setAll_c, setAll_n, List.map_cons, List.map_nil, List.cons_append, List.nil_append, List.append_nil, List.getElem?_cons_succ, List.getElem?_cons_zero, List.length_cons, List.length_nil, Nat.reduceAdd, Nat.reduceSub, List.replicate, List.set_cons_succ, List.set_cons_zero, mtW, mtTy, getW, bkW, dicW, revW, Sl_od, inW_d, notinW_d])
  refine fnW_mk rfl ⟨a, o, B, rfl, ⟨h3, h4⟩, by omega, h.ba, h.bo, h.b0, h.b1, ?_⟩
  have e : sv a o = cv a o := by
    unfold sv
    rw [if_neg fun z => by rw [z] at h1; simp at h1]
  rw [e]
  simp only [wipeE, WCs, mkEnv, fnEnds, WS_raise, WS_try, WS_frz, WS_set, WS_setT, WS_par2, WS_par3, WS_aug, WS_expr, WS_ret, WS_retv, WS_retN, WS_if, WS_for, WS_while, WS_brk, WS_cont, WS_pass, WS_doc, WS_append, WS_extend, WS_popx, WS_setix, WS_augix, WS_setd, WS_rvs, WS_popset, WS_insert, extW_l, extW_t, insW_2, WE, WAs, WLs, WT, argK, argW, opW, opI, biW, Sl_v, Sl_o, csD, slW, ownW, if_true, if_false, addW_i, addW_l, addW_t, subW_i, mulW_i, mulW_l, mulW_t, fdivW_i, modW_i, powW_i, shlW_i, shrW_i, bitW_i, iaddW_i, imulW_i, ifdivW_i, ltW_i, leW_i, gtW_i, geW_i, eqW_i, neW_i, isW_n, isntW_n, isW_b, isntW_b, idxW_l, idxW_t, optW_s, optP_s, lenW_l, lenW_t, lenW_s, lenW_d, intW_i, intW_b, absW_i, maxW_i, minW_i, negW_i, listW_l, listW_t, tupleW_l, tupleW_t, sliceW_l, sliceW_t, isiW_1, optI_n, optI_s, truW_b, truW_i, truW_l, truW_t, truW_n, itW_l, itW_t, itW_r1, itW_r2, itW_r3, strW_i, itW_el, itW_et, itW_zl, itW_zt, itW_vl, itW_vt, tgW_n, tgW_t, setAll_c, setAll_n, List.map_cons, List.map_nil, List.cons_append, List.nil_append, List.append_nil, List.getElem?_cons_succ, List.getElem?_cons_zero, List.length_cons, List.length_nil, Nat.reduceAdd, Nat.reduceSub, List.replicate, List.set_cons_succ, List.set_cons_zero, mtW, mtTy, getW, bkW, dicW, revW, Sl_od, inW_d, notinW_d]
  refine lcW_of ptD (fun x => ptD (rotN t x)) (cv a o) [] (by rw [cv_len]; simp; unfold LIM; omega) (fun x hx kz hkz => fnW_mk rfl ⟨x, t, rfl, ht, hkz⟩) ?_
  rw [List.nil_append]
  have e2 : (cv a o).map (fun x => ptD (rotN t x)) = ptsD (wh o a t) := by
    unfold ptsD wh
    rw [List.map_map]
    rfl
  rw [e2]
  exact hq
--FN shape
def sp_shape : FSp := fun ds Q _ => ∃ (o a : List P) (B : Int) (t : Nat), ds = [.tup (ptsD o), lineD a, .int (t : Nat)] ∧ t ≤ 1000 ∧ OL o a B ∧ Q (.own (ptsD (shp o a t)))
abbrev G_shape : Tab := tabOf [("whole", sp_whole)] ["len"] [] [] []
theorem pure_shape : ∀ ds Q X, sp_shape ds Q X → ds.length = 3 ∧ WSs G_shape ms_shape (mkEnv 3 ds) (fnEnds Q X) := by
  rintro ds Q X ⟨o, a, B, t, rfl, ht, h, hq⟩
  refine ⟨rfl, ?_⟩
  simp only [ms_shape, mkEnv, fnEnds, List.map_cons, List.map_nil, List.length_cons, List.length_nil, Nat.reduceAdd, Nat.reduceSub, List.replicate, List.cons_append, List.nil_append]
  ((first | (with_reducible refine Box.mk ?_) | skip); show WSs _ (_ :: _) _ _; rw [WSs_cB]; simp only [wipeE, WCs, mkEnv, fnEnds, WS_raise, WS_try, WS_frz, WS_set, WS_setT, WS_par2, WS_par3, WS_aug, WS_expr, WS_ret, WS_retv, WS_retN, WS_if, WS_for, WS_while, WS_brk, WS_cont, WS_pass, WS_doc, WS_append, WS_extend, WS_popx, WS_setix, WS_augix, WS_setd, WS_rvs, WS_popset, WS_insert, extW_l, extW_t, insW_2, WE, WAs, WLs, WT, argK, argW, opW, opI, biW, Sl_v, Sl_o, csD, slW, ownW, if_true, if_false, addW_i, addW_l, addW_t, subW_i, mulW_i, mulW_l, mulW_t, fdivW_i, modW_i, powW_i, shlW_i, shrW_i, bitW_i, iaddW_i, imulW_i, ifdivW_i, ltW_i, leW_i, gtW_i, geW_i, eqW_i, neW_i, isW_n, isntW_n, isW_b, isntW_b, idxW_l, idxW_t, optW_s, optP_s, lenW_l, lenW_t, lenW_s, lenW_d, intW_i, intW_b, absW_i, maxW_i, minW_i, negW_i, listW_l, listW_t, tupleW_l, tupleW_t, sliceW_l, sliceW_t, isiW_1, optI_n, optI_s, truW_b, truW_i, truW_l, truW_t, truW_n, itW_l, itW_t, itW_r1, itW_r2, itW_r3, strW_i, itW_el, itW_et, itW_zl, itW_zt, itW_vl, itW_vt, tgW_n, tgW_t, setAll_c, setAll_n, List.map_cons, List.map_nil, List.cons_append, List.nil_append, List.append_nil, List.getElem?_cons_succ, List.getElem?_cons_zero, List.length_cons, List.length_nil, Nat.reduceAdd, Nat.reduceSub, List.replicate, List.set_cons_succ, List.set_cons_zero, mtW, mtTy, getW, bkW, dicW, revW, Sl_od, inW_d, notinW_d])
  refine fnW_mk rfl ⟨o, a, B, t, rfl, ht, h, ?_⟩
  simp only [wipeE, WCs, mkEnv, fnEnds, WS_raise, WS_try, WS_frz, WS_set, WS_setT, WS_par2, WS_par3, WS_aug, WS_expr, WS_ret, WS_retv, WS_retN, WS_if, WS_for, WS_while, WS_brk, WS_cont, WS_pass, WS_doc, WS_append, WS_extend, WS_popx, WS_setix, WS_augix, WS_setd, WS_rvs, WS_popset, WS_insert, extW_l, extW_t, insW_2, WE, WAs, WLs, WT, argK, argW, opW, opI, biW, Sl_v, Sl_o, csD, slW, ownW, if_true, if_false, addW_i, addW_l, addW_t, subW_i, mulW_i, mulW_l, mulW_t, fdivW_i, modW_i, powW_i, shlW_i, shrW_i, bitW_i, iaddW_i, imulW_i, ifdivW_i, ltW_i, leW_i, gtW_i, geW_i, eqW_i, neW_i, isW_n, isntW_n, isW_b, isntW_b, idxW_l, idxW_t, optW_s, optP_s, lenW_l, lenW_t, lenW_s, lenW_d, intW_i, intW_b, absW_i, maxW_i, minW_i, negW_i, listW_l, listW_t, tupleW_l, tupleW_t, sliceW_l, sliceW_t, isiW_1, optI_n, optI_s, truW_b, truW_i, truW_l, truW_t, truW_n, itW_l, itW_t, itW_r1, itW_r2, itW_r3, strW_i, itW_el, itW_et, itW_zl, itW_zt, itW_vl, itW_vt, tgW_n, tgW_t, setAll_c, setAll_n, List.map_cons, List.map_nil, List.cons_append, List.nil_append, List.append_nil, List.getElem?_cons_succ, List.getElem?_cons_zero, List.length_cons, List.length_nil, Nat.reduceAdd, Nat.reduceSub, List.replicate, List.set_cons_succ, List.set_cons_zero, mtW, mtTy, getW, bkW, dicW, revW, Sl_od, inW_d, notinW_d, pts_len]
  rw [cut_to, ptsD_take]
  exact hq
/-- lines, as a list or a tuple -/
def LnsD (L : D) (ls : List (List P)) : Prop := L = .lst (ls.map lineD) ∨ L = .tup (ls.map lineD)
theorem lns_idx {L : D} {ls : List (List P)} (h : LnsD L ls) {n : Nat} (hn : n < ls.length) {Q : QS} (k : Q (.val (lineD (ls.getD n [])))) : idxW L (.int (n : Nat)) Q := by
  have e : (ls.map lineD)[n]? = some (lineD (ls.getD n [])) := by
    rw [List.getElem?_map, List.getElem?_eq_getElem hn, List.getD_eq_getElem?_getD, List.getElem?_eq_getElem hn]
    rfl
  rcases h with rfl | rfl
  · exact idxW_ln e k
  · exact idxW_tn e k
theorem lns_len {L : D} {ls : List (List P)} (h : LnsD L ls) {Q : QS} (k : Q (.val (.int (ls.length : Nat)))) : lenW [L] Q := by
  rcases h with rfl | rfl
  · rw [lenW_l, List.length_map]; exact k
  · rw [lenW_t, List.length_map]; exact k
--FN arrival
def sp_arrival : FSp := fun ds Q _ => ∃ (o : List P) (L : D) (ls : List (List P)) (s p t n : Nat) (B : Int), ds = [.tup (ptsD o), L, .int (s : Nat), .tup [.int (p : Nat), .int (t : Nat), .int (n : Nat)]] ∧ LnsD L ls ∧ (s ≤ 1000 ∧ p ≤ s ∧ t ≤ 1000 ∧ n < ls.length) ∧ OL o (ls.getD n []) B ∧
  Q (.own (ptsD (arr (wh o (ls.getD n []) t) p (s + o.length))))
theorem tp3_set {a b c : D} {ρ : Env} {S : Env → Prop} {i j k : Nat} : tgW (.tp [i, j, k]) (.tup [a, b, c]) ρ S = ((3 : Nat) = 3 ∧ S (((ρ.set i (some (.val a))).set j (some (.val b))).set k (some (.val c)))) := rfl
--FN between
def ps (x y : P) : P := (x.1 - y.1, x.2 - y.2)
def sq (x : P) : Int := x.1 * x.1 + x.2 * x.2
def sp_between : FSp := fun ds Q _ => ∃ x y : P, ds = [ptD x, ptD y] ∧ bd BIG (ps x y) ∧ Q (.val (.int (sq (ps x y))))
abbrev G_between : Tab := tabOf [] [] [] [] []
theorem pure_between : ∀ ds Q X, sp_between ds Q X → ds.length = 2 ∧ WSs G_between ms_between (mkEnv 4 ds) (fnEnds Q X) := by
  rintro ds Q X ⟨x, y, rfl, ⟨⟨a1, a2⟩, a3, a4⟩, hq⟩
  refine ⟨rfl, ?_⟩
  simp only [ms_between, mkEnv, fnEnds, List.map_cons, List.map_nil, List.length_cons, List.length_nil, Nat.reduceAdd, Nat.reduceSub, List.replicate, List.cons_append, List.nil_append]
  ((first | (with_reducible refine Box.mk ?_) | skip); show WSs _ (_ :: _) _ _; rw [WSs_cB]; simp only [wipeE, WCs, mkEnv, fnEnds, WS_raise, WS_try, WS_frz, WS_set, WS_setT, WS_par2, WS_par3, WS_aug, WS_expr, WS_ret, WS_retv, WS_retN, WS_if, WS_for, WS_while, WS_brk, WS_cont, WS_pass, WS_doc, WS_append, WS_extend, WS_popx, WS_setix, WS_augix, WS_setd, WS_rvs, WS_popset, WS_insert, extW_l, extW_t, insW_2, WE, WAs, WLs, WT, argK, argW, opW, opI, biW, Sl_v, Sl_o, csD, slW, ownW, if_true, if_false, addW_i, addW_l, addW_t, subW_i, mulW_i, mulW_l, mulW_t, fdivW_i, modW_i, powW_i, shlW_i, shrW_i, bitW_i, iaddW_i, imulW_i, ifdivW_i, ltW_i, leW_i, gtW_i, geW_i, eqW_i, neW_i, isW_n, isntW_n, isW_b, isntW_b, idxW_l, idxW_t, optW_s, optP_s, lenW_l, lenW_t, lenW_s, lenW_d, intW_i, intW_b, absW_i, maxW_i, minW_i, negW_i, listW_l, listW_t, tupleW_l, tupleW_t, sliceW_l, sliceW_t, isiW_1, optI_n, optI_s, truW_b, truW_i, truW_l, truW_t, truW_n, itW_l, itW_t, itW_r1, itW_r2, itW_r3, strW_i, itW_el, itW_et, itW_zl, itW_zt, itW_vl, itW_vt, tgW_n, tgW_t, setAll_c, setAll_n, List.map_cons, List.map_nil, List.cons_append, List.nil_append, List.append_nil, List.getElem?_cons_succ, List.getElem?_cons_zero, List.length_cons, List.length_nil, Nat.reduceAdd, Nat.reduceSub, List.replicate, List.set_cons_succ, List.set_cons_zero, mtW, mtTy, getW, bkW, dicW, revW, Sl_od, inW_d, notinW_d])
  simp only [px0, px1, wipeE, WCs, mkEnv, fnEnds, WS_raise, WS_try, WS_frz, WS_set, WS_setT, WS_par2, WS_par3, WS_aug, WS_expr, WS_ret, WS_retv, WS_retN, WS_if, WS_for, WS_while, WS_brk, WS_cont, WS_pass, WS_doc, WS_append, WS_extend, WS_popx, WS_setix, WS_augix, WS_setd, WS_rvs, WS_popset, WS_insert, extW_l, extW_t, insW_2, WE, WAs, WLs, WT, argK, argW, opW, opI, biW, Sl_v, Sl_o, csD, slW, ownW, if_true, if_false, addW_i, addW_l, addW_t, subW_i, mulW_i, mulW_l, mulW_t, fdivW_i, modW_i, powW_i, shlW_i, shrW_i, bitW_i, iaddW_i, imulW_i, ifdivW_i, ltW_i, leW_i, gtW_i, geW_i, eqW_i, neW_i, isW_n, isntW_n, isW_b, isntW_b, idxW_l, idxW_t, optW_s, optP_s, lenW_l, lenW_t, lenW_s, lenW_d, intW_i, intW_b, absW_i, maxW_i, minW_i, negW_i, listW_l, listW_t, tupleW_l, tupleW_t, sliceW_l, sliceW_t, isiW_1, optI_n, optI_s, truW_b, truW_i, truW_l, truW_t, truW_n, itW_l, itW_t, itW_r1, itW_r2, itW_r3, strW_i, itW_el, itW_et, itW_zl, itW_zt, itW_vl, itW_vt, tgW_n, tgW_t, setAll_c, setAll_n, List.map_cons, List.map_nil, List.cons_append, List.nil_append, List.append_nil, List.getElem?_cons_succ, List.getElem?_cons_zero, List.length_cons, List.length_nil, Nat.reduceAdd, Nat.reduceSub, List.replicate, List.set_cons_succ, List.set_cons_zero, mtW, mtTy, getW, bkW, dicW, revW, Sl_od, inW_d, notinW_d]
  ((first | (with_reducible refine Box.mk ?_) | skip); show WSs _ (_ :: _) _ _; rw [WSs_cB]; simp only [wipeE, WCs, mkEnv, fnEnds, WS_raise, WS_try, WS_frz, WS_set, WS_setT, WS_par2, WS_par3, WS_aug, WS_expr, WS_ret, WS_retv, WS_retN, WS_if, WS_for, WS_while, WS_brk, WS_cont, WS_pass, WS_doc, WS_append, WS_extend, WS_popx, WS_setix, WS_augix, WS_setd, WS_rvs, WS_popset, WS_insert, extW_l, extW_t, insW_2, WE, WAs, WLs, WT, argK, argW, opW, opI, biW, Sl_v, Sl_o, csD, slW, ownW, if_true, if_false, addW_i, addW_l, addW_t, subW_i, mulW_i, mulW_l, mulW_t, fdivW_i, modW_i, powW_i, shlW_i, shrW_i, bitW_i, iaddW_i, imulW_i, ifdivW_i, ltW_i, leW_i, gtW_i, geW_i, eqW_i, neW_i, isW_n, isntW_n, isW_b, isntW_b, idxW_l, idxW_t, optW_s, optP_s, lenW_l, lenW_t, lenW_s, lenW_d, intW_i, intW_b, absW_i, maxW_i, minW_i, negW_i, listW_l, listW_t, tupleW_l, tupleW_t, sliceW_l, sliceW_t, isiW_1, optI_n, optI_s, truW_b, truW_i, truW_l, truW_t, truW_n, itW_l, itW_t, itW_r1, itW_r2, itW_r3, strW_i, itW_el, itW_et, itW_zl, itW_zt, itW_vl, itW_vt, tgW_n, tgW_t, setAll_c, setAll_n, List.map_cons, List.map_nil, List.cons_append, List.nil_append, List.append_nil, List.getElem?_cons_succ, List.getElem?_cons_zero, List.length_cons, List.length_nil, Nat.reduceAdd, Nat.reduceSub, List.replicate, List.set_cons_succ, List.set_cons_zero, mtW, mtTy, getW, bkW, dicW, revW, Sl_od, inW_d, notinW_d])
  simp only [px0, px1, wipeE, WCs, mkEnv, fnEnds, WS_raise, WS_try, WS_frz, WS_set, WS_setT, WS_par2, WS_par3, WS_aug, WS_expr, WS_ret, WS_retv, WS_retN, WS_if, WS_for, WS_while, WS_brk, WS_cont, WS_pass, WS_doc, WS_append, WS_extend, WS_popx, WS_setix, WS_augix, WS_setd, WS_rvs, WS_popset, WS_insert, extW_l, extW_t, insW_2, WE, WAs, WLs, WT, argK, argW, opW, opI, biW, Sl_v, Sl_o, csD, slW, ownW, if_true, if_false, addW_i, addW_l, addW_t, subW_i, mulW_i, mulW_l, mulW_t, fdivW_i, modW_i, powW_i, shlW_i, shrW_i, bitW_i, iaddW_i, imulW_i, ifdivW_i, ltW_i, leW_i, gtW_i, geW_i, eqW_i, neW_i, isW_n, isntW_n, isW_b, isntW_b, idxW_l, idxW_t, optW_s, optP_s, lenW_l, lenW_t, lenW_s, lenW_d, intW_i, intW_b, absW_i, maxW_i, minW_i, negW_i, listW_l, listW_t, tupleW_l, tupleW_t, sliceW_l, sliceW_t, isiW_1, optI_n, optI_s, truW_b, truW_i, truW_l, truW_t, truW_n, itW_l, itW_t, itW_r1, itW_r2, itW_r3, strW_i, itW_el, itW_et, itW_zl, itW_zt, itW_vl, itW_vt, tgW_n, tgW_t, setAll_c, setAll_n, List.map_cons, List.map_nil, List.cons_append, List.nil_append, List.append_nil, List.getElem?_cons_succ, List.getElem?_cons_zero, List.length_cons, List.length_nil, Nat.reduceAdd, Nat.reduceSub, List.replicate, List.set_cons_succ, List.set_cons_zero, mtW, mtTy, getW, bkW, dicW, revW, Sl_od, inW_d, notinW_d]
  ((first | (with_reducible refine Box.mk ?_) | skip); show WSs _ (_ :: _) _ _; rw [WSs_cB]; simp only [wipeE, WCs, mkEnv, fnEnds, WS_raise, WS_try, WS_frz, WS_set, WS_setT, WS_par2, WS_par3, WS_aug, WS_expr, WS_ret, WS_retv, WS_retN, WS_if, WS_for, WS_while, WS_brk, WS_cont, WS_pass, WS_doc, WS_append, WS_extend, WS_popx, WS_setix, WS_augix, WS_setd, WS_rvs, WS_popset, WS_insert, extW_l, extW_t, insW_2, WE, WAs, WLs, WT, argK, argW, opW, opI, biW, Sl_v, Sl_o, csD, slW, ownW, if_true, if_false, addW_i, addW_l, addW_t, subW_i, mulW_i, mulW_l, mulW_t, fdivW_i, modW_i, powW_i, shlW_i, shrW_i, bitW_i, iaddW_i, imulW_i, ifdivW_i, ltW_i, leW_i, gtW_i, geW_i, eqW_i, neW_i, isW_n, isntW_n, isW_b, isntW_b, idxW_l, idxW_t, optW_s, optP_s, lenW_l, lenW_t, lenW_s, lenW_d, intW_i, intW_b, absW_i, maxW_i, minW_i, negW_i, listW_l, listW_t, tupleW_l, tupleW_t, sliceW_l, sliceW_t, isiW_1, optI_n, optI_s, truW_b, truW_i, truW_l, truW_t, truW_n, itW_l, itW_t, itW_r1, itW_r2, itW_r3, strW_i, itW_el, itW_et, itW_zl, itW_zt, itW_vl, itW_vt, tgW_n, tgW_t, setAll_c, setAll_n, List.map_cons, List.map_nil, List.cons_append, List.nil_append, List.append_nil, List.getElem?_cons_succ, List.getElem?_cons_zero, List.length_cons, List.length_nil, Nat.reduceAdd, Nat.reduceSub, List.replicate, List.set_cons_succ, List.set_cons_zero, mtW, mtTy, getW, bkW, dicW, revW, Sl_od, inW_d, notinW_d])
  exact ⟨⟨bsm a1 a2, bsm a1 a2⟩, ⟨bsm a3 a4, bsm a3 a4⟩, hq⟩
/-! samples, some of them lost -/
def smD : Option P → D
  | none => .non
  | some x => ptD x
def smsD (s : List (Option P)) : D := .lst (s.map smD)
def sg (s : List (Option P)) (n : Nat) : Option P := s.getD n none
theorem sms_get {s : List (Option P)} {n : Nat} (h : n < s.length) : (s.map smD)[n]? = some (smD (sg s n)) := by
  unfold sg
  rw [List.getElem?_map, List.getElem?_eq_getElem h, List.getD_eq_getElem?_getD, List.getElem?_eq_getElem h]
  rfl
def term (s : Option P) (x : P) : Int := match s with
  | none => 0
  | some y => sq (ps x y)
def csum (r : List P) (s : List (Option P)) (p : Nat) : Nat → Int
  | 0 => 0
  | n + 1 => csum r s p n + term (sg s (p + n)) (co r n)
/-- samples within a bound -/
def SB (s : List (Option P)) (B : Int) : Prop := ∀ x, some x ∈ s → bd B x
theorem sg_mem {s : List (Option P)} {n : Nat} {x : P} (h : sg s n = some x) : some x ∈ s := by
  unfold sg at h
  rw [List.getD_eq_getElem?_getD] at h
  cases e : s[n]? with
  | none => rw [e] at h; cases h
  | some y => rw [e] at h; rw [← show y = some x from h]; exact List.mem_of_getElem? e
--FN apart
def CS (r : List P) (s : List (Option P)) (p : Nat) (B : Int) : Prop := (p + r.length ≤ s.length ∧ s.length ≤ 100000) ∧ (∀ x ∈ r, bd B x) ∧ SB s B ∧ 2 * B ≤ BIG
theorem ps_bd {B : Int} {x y : P} (hx : bd B x) (hy : bd B y) : bd (2 * B) (ps x y) := by
  obtain ⟨⟨a1, a2⟩, a3, a4⟩ := hx
  obtain ⟨⟨b1, b2⟩, b3, b4⟩ := hy
  unfold bd ps
  simp only
  omega
def sp_apart : FSp := fun ds Q _ => ∃ (r : List P) (s : List (Option P)) (p : Nat) (B : Int), ds = [.lst (ptsD r), smsD s, .int (p : Nat)] ∧ CS r s p B ∧ Q (.val (.int (csum r s p r.length)))
abbrev G_apart : Tab := tabOf [("between", sp_between)] ["enumerate"] [] [] []
theorem isnt_sm {s : Option P} {Q : QS} (h : Q (.val (.bl s.isSome))) : isntW (smD s) .non Q := by
  cases s <;> exact h
theorem pure_apart : ∀ ds Q X, sp_apart ds Q X → ds.length = 3 ∧ WSs G_apart ms_apart (mkEnv 6 ds) (fnEnds Q X) := by
  rintro ds Q X ⟨r, s, p, B, rfl, ⟨⟨hl, hl2⟩, hr, hs, hB⟩, hq⟩
  refine ⟨rfl, ?_⟩
  simp only [ms_apart, mkEnv, fnEnds, List.map_cons, List.map_nil, List.length_cons, List.length_nil, Nat.reduceAdd, Nat.reduceSub, List.replicate, List.cons_append, List.nil_append]
  ((first | (with_reducible refine Box.mk ?_) | skip); show WSs _ (_ :: _) _ _; rw [WSs_cB]; simp only [wipeE, WCs, mkEnv, fnEnds, WS_raise, WS_try, WS_frz, WS_set, WS_setT, WS_par2, WS_par3, WS_aug, WS_expr, WS_ret, WS_retv, WS_retN, WS_if, WS_for, WS_while, WS_brk, WS_cont, WS_pass, WS_doc, WS_append, WS_extend, WS_popx, WS_setix, WS_augix, WS_setd, WS_rvs, WS_popset, WS_insert, extW_l, extW_t, insW_2, WE, WAs, WLs, WT, argK, argW, opW, opI, biW, Sl_v, Sl_o, csD, slW, ownW, if_true, if_false, addW_i, addW_l, addW_t, subW_i, mulW_i, mulW_l, mulW_t, fdivW_i, modW_i, powW_i, shlW_i, shrW_i, bitW_i, iaddW_i, imulW_i, ifdivW_i, ltW_i, leW_i, gtW_i, geW_i, eqW_i, neW_i, isW_n, isntW_n, isW_b, isntW_b, idxW_l, idxW_t, optW_s, optP_s, lenW_l, lenW_t, lenW_s, lenW_d, intW_i, intW_b, absW_i, maxW_i, minW_i, negW_i, listW_l, listW_t, tupleW_l, tupleW_t, sliceW_l, sliceW_t, isiW_1, optI_n, optI_s, truW_b, truW_i, truW_l, truW_t, truW_n, itW_l, itW_t, itW_r1, itW_r2, itW_r3, strW_i, itW_el, itW_et, itW_zl, itW_zt, itW_vl, itW_vt, tgW_n, tgW_t, setAll_c, setAll_n, List.map_cons, List.map_nil, List.cons_append, List.nil_append, List.append_nil, List.getElem?_cons_succ, List.getElem?_cons_zero, List.length_cons, List.length_nil, Nat.reduceAdd, Nat.reduceSub, List.replicate, List.set_cons_succ, List.set_cons_zero, mtW, mtTy, getW, bkW, dicW, revW, Sl_od, inW_d, notinW_d])
  ((first | (with_reducible refine Box.mk ?_) | skip); show WSs _ (_ :: _) _ _; rw [WSs_cB]; simp only [wipeE, WCs, mkEnv, fnEnds, WS_raise, WS_try, WS_frz, WS_set, WS_setT, WS_par2, WS_par3, WS_aug, WS_expr, WS_ret, WS_retv, WS_retN, WS_if, WS_for, WS_while, WS_brk, WS_cont, WS_pass, WS_doc, WS_append, WS_extend, WS_popx, WS_setix, WS_augix, WS_setd, WS_rvs, WS_popset, WS_insert, extW_l, extW_t, insW_2, WE, WAs, WLs, WT, argK, argW, opW, opI, biW, Sl_v, Sl_o, csD, slW, ownW, if_true, if_false, addW_i, addW_l, addW_t, subW_i, mulW_i, mulW_l, mulW_t, fdivW_i, modW_i, powW_i, shlW_i, shrW_i, bitW_i, iaddW_i, imulW_i, ifdivW_i, ltW_i, leW_i, gtW_i, geW_i, eqW_i, neW_i, isW_n, isntW_n, isW_b, isntW_b, idxW_l, idxW_t, optW_s, optP_s, lenW_l, lenW_t, lenW_s, lenW_d, intW_i, intW_b, absW_i, maxW_i, minW_i, negW_i, listW_l, listW_t, tupleW_l, tupleW_t, sliceW_l, sliceW_t, isiW_1, optI_n, optI_s, truW_b, truW_i, truW_l, truW_t, truW_n, itW_l, itW_t, itW_r1, itW_r2, itW_r3, strW_i, itW_el, itW_et, itW_zl, itW_zt, itW_vl, itW_vt, tgW_n, tgW_t, setAll_c, setAll_n, List.map_cons, List.map_nil, List.cons_append, List.nil_append, List.append_nil, List.getElem?_cons_succ, List.getElem?_cons_zero, List.length_cons, List.length_nil, Nat.reduceAdd, Nat.reduceSub, List.replicate, List.set_cons_succ, List.set_cons_zero, mtW, mtTy, getW, bkW, dicW, revW, Sl_od, inW_d, notinW_d])
  unfold ptsD
  rw [enum_of r p0]
  refine forW_rg (fun i ρ => ∃ y4 y5 : Option Sl, ρ = [some (.val (.lst (ptsD r))), some (.val (smsD s)), some (.val (.int (p : Nat))), some (.val (.int (csum r s p i))), y4, y5]) 0 r.length ⟨_, _, rfl⟩ ?_ ?_
  · rintro i ρ _ hi ⟨y4, y5, rfl⟩ kk hkk
    have hi : i < r.length := by omega
    simp only [wipeE, WCs, mkEnv, fnEnds, WS_raise, WS_try, WS_frz, WS_set, WS_setT, WS_par2, WS_par3, WS_aug, WS_expr, WS_ret, WS_retv, WS_retN, WS_if, WS_for, WS_while, WS_brk, WS_cont, WS_pass, WS_doc, WS_append, WS_extend, WS_popx, WS_setix, WS_augix, WS_setd, WS_rvs, WS_popset, WS_insert, extW_l, extW_t, insW_2, WE, WAs, WLs, WT, argK, argW, opW, opI, biW, Sl_v, Sl_o, csD, slW, ownW, if_true, if_false, addW_i, addW_l, addW_t, subW_i, mulW_i, mulW_l, mulW_t, fdivW_i, modW_i, powW_i, shlW_i, shrW_i, bitW_i, iaddW_i, imulW_i, ifdivW_i, ltW_i, leW_i, gtW_i, geW_i, eqW_i, neW_i, isW_n, isntW_n, isW_b, isntW_b, idxW_l, idxW_t, optW_s, optP_s, lenW_l, lenW_t, lenW_s, lenW_d, intW_i, intW_b, absW_i, maxW_i, minW_i, negW_i, listW_l, listW_t, tupleW_l, tupleW_t, sliceW_l, sliceW_t, isiW_1, optI_n, optI_s, truW_b, truW_i, truW_l, truW_t, truW_n, itW_l, itW_t, itW_r1, itW_r2, itW_r3, strW_i, itW_el, itW_et, itW_zl, itW_zt, itW_vl, itW_vt, tgW_n, tgW_t, setAll_c, setAll_n, List.map_cons, List.map_nil, List.cons_append, List.nil_append, List.append_nil, List.getElem?_cons_succ, List.getElem?_cons_zero, List.length_cons, List.length_nil, Nat.reduceAdd, Nat.reduceSub, List.replicate, List.set_cons_succ, List.set_cons_zero, mtW, mtTy, getW, bkW, dicW, revW, Sl_od, inW_d, notinW_d]
    refine ⟨trivial, ?_⟩
    have e : (p : Int) + (i : Int) = ((p + i : Nat) : Int) := by omega
    ((first | (with_reducible refine Box.mk ?_) | skip); show WSs _ (_ :: _) _ _; rw [WSs_cB]; simp only [wipeE, WCs, mkEnv, fnEnds, WS_raise, WS_try, WS_frz, WS_set, WS_setT, WS_par2, WS_par3, WS_aug, WS_expr, WS_ret, WS_retv, WS_retN, WS_if, WS_for, WS_while, WS_brk, WS_cont, WS_pass, WS_doc, WS_append, WS_extend, WS_popx, WS_setix, WS_augix, WS_setd, WS_rvs, WS_popset, WS_insert, extW_l, extW_t, insW_2, WE, WAs, WLs, WT, argK, argW, opW, opI, biW, Sl_v, Sl_o, csD, slW, ownW, if_true, if_false, addW_i, addW_l, addW_t, subW_i, mulW_i, mulW_l, mulW_t, fdivW_i, modW_i, powW_i, shlW_i, shrW_i, bitW_i, iaddW_i, imulW_i, ifdivW_i, ltW_i, leW_i, gtW_i, geW_i, eqW_i, neW_i, isW_n, isntW_n, isW_b, isntW_b, idxW_l, idxW_t, optW_s, optP_s, lenW_l, lenW_t, lenW_s, lenW_d, intW_i, intW_b, absW_i, maxW_i, minW_i, negW_i, listW_l, listW_t, tupleW_l, tupleW_t, sliceW_l, sliceW_t, isiW_1, optI_n, optI_s, truW_b, truW_i, truW_l, truW_t, truW_n, itW_l, itW_t, itW_r1, itW_r2, itW_r3, strW_i, itW_el, itW_et, itW_zl, itW_zt, itW_vl, itW_vt, tgW_n, tgW_t, setAll_c, setAll_n, List.map_cons, List.map_nil, List.cons_append, List.nil_append, List.append_nil, List.getElem?_cons_succ, List.getElem?_cons_zero, List.length_cons, List.length_nil, Nat.reduceAdd, Nat.reduceSub, List.replicate, List.set_cons_succ, List.set_cons_zero, mtW, mtTy, getW, bkW, dicW, revW, Sl_od, inW_d, notinW_d])
    rw [e]
    refine idxW_ln (sms_get (by omega)) ?_
    simp only [wipeE, WCs, mkEnv, fnEnds, WS_raise, WS_try, WS_frz, WS_set, WS_setT, WS_par2, WS_par3, WS_aug, WS_expr, WS_ret, WS_retv, WS_retN, WS_if, WS_for, WS_while, WS_brk, WS_cont, WS_pass, WS_doc, WS_append, WS_extend, WS_popx, WS_setix, WS_augix, WS_setd, WS_rvs, WS_popset, WS_insert, extW_l, extW_t, insW_2, WE, WAs, WLs, WT, argK, argW, opW, opI, biW, Sl_v, Sl_o, csD, slW, ownW, if_true, if_false, addW_i, addW_l, addW_t, subW_i, mulW_i, mulW_l, mulW_t, fdivW_i, modW_i, powW_i, shlW_i, shrW_i, bitW_i, iaddW_i, imulW_i, ifdivW_i, ltW_i, leW_i, gtW_i, geW_i, eqW_i, neW_i, isW_n, isntW_n, isW_b, isntW_b, idxW_l, idxW_t, optW_s, optP_s, lenW_l, lenW_t, lenW_s, lenW_d, intW_i, intW_b, absW_i, maxW_i, minW_i, negW_i, listW_l, listW_t, tupleW_l, tupleW_t, sliceW_l, sliceW_t, isiW_1, optI_n, optI_s, truW_b, truW_i, truW_l, truW_t, truW_n, itW_l, itW_t, itW_r1, itW_r2, itW_r3, strW_i, itW_el, itW_et, itW_zl, itW_zt, itW_vl, itW_vt, tgW_n, tgW_t, setAll_c, setAll_n, List.map_cons, List.map_nil, List.cons_append, List.nil_append, List.append_nil, List.getElem?_cons_succ, List.getElem?_cons_zero, List.length_cons, List.length_nil, Nat.reduceAdd, Nat.reduceSub, List.replicate, List.set_cons_succ, List.set_cons_zero, mtW, mtTy, getW, bkW, dicW, revW, Sl_od, inW_d, notinW_d]
    cases hg : sg s (p + i) with
    | none =>
      refine ite_f rfl ?_
      ((first | (with_reducible refine Box.mk ?_) | skip); show WSs _ _ _ _; rw [WSs_n])
      ((first | (with_reducible refine Box.mk ?_) | skip); show WSs _ _ _ _; rw [WSs_n])
      have ez : csum r s p (i + 1) = csum r s p i := by rw [csum, hg]; exact Int.add_zero _
      exact hkk _ ⟨_, _, by rw [ez]⟩
    | some x =>
      refine ite_t rfl ?_
      ((first | (with_reducible refine Box.mk ?_) | skip); show WSs _ (_ :: _) _ _; rw [WSs_cB]; simp only [wipeE, WCs, mkEnv, fnEnds, WS_raise, WS_try, WS_frz, WS_set, WS_setT, WS_par2, WS_par3, WS_aug, WS_expr, WS_ret, WS_retv, WS_retN, WS_if, WS_for, WS_while, WS_brk, WS_cont, WS_pass, WS_doc, WS_append, WS_extend, WS_popx, WS_setix, WS_augix, WS_setd, WS_rvs, WS_popset, WS_insert, extW_l, extW_t, insW_2, WE, WAs, WLs, WT, argK, argW, opW, opI, biW, Sl_v, Sl_o, csD, slW, ownW, if_true, if_false, addW_i, addW_l, addW_t, subW_i, mulW_i, mulW_l, mulW_t, fdivW_i, modW_i, powW_i, shlW_i, shrW_i, bitW_i, iaddW_i, imulW_i, ifdivW_i, ltW_i, leW_i, gtW_i, geW_i, eqW_i, neW_i, isW_n, isntW_n, isW_b, isntW_b, idxW_l, idxW_t, optW_s, optP_s, lenW_l, lenW_t, lenW_s, lenW_d, intW_i, intW_b, absW_i, maxW_i, minW_i, negW_i, listW_l, listW_t, tupleW_l, tupleW_t, sliceW_l, sliceW_t, isiW_1, optI_n, optI_s, truW_b, truW_i, truW_l, truW_t, truW_n, itW_l, itW_t, itW_r1, itW_r2, itW_r3, strW_i, itW_el, itW_et, itW_zl, itW_zt, itW_vl, itW_vt, tgW_n, tgW_t, setAll_c, setAll_n, List.map_cons, List.map_nil, List.cons_append, List.nil_append, List.append_nil, List.getElem?_cons_succ, List.getElem?_cons_zero, List.length_cons, List.length_nil, Nat.reduceAdd, Nat.reduceSub, List.replicate, List.set_cons_succ, List.set_cons_zero, mtW, mtTy, getW, bkW, dicW, revW, Sl_od, inW_d, notinW_d])
      rw [e]
      refine idxW_ln (sms_get (by omega)) ?_
      rw [hg]
      refine fnW_mk rfl ⟨r.getD i p0, x, rfl, ?_, ?_⟩
      · exact bd_up (ps_bd (hr _ (co_mem hi)) (hs _ (sg_mem hg))) hB
      simp only [wipeE, WCs, mkEnv, fnEnds, WS_raise, WS_try, WS_frz, WS_set, WS_setT, WS_par2, WS_par3, WS_aug, WS_expr, WS_ret, WS_retv, WS_retN, WS_if, WS_for, WS_while, WS_brk, WS_cont, WS_pass, WS_doc, WS_append, WS_extend, WS_popx, WS_setix, WS_augix, WS_setd, WS_rvs, WS_popset, WS_insert, extW_l, extW_t, insW_2, WE, WAs, WLs, WT, argK, argW, opW, opI, biW, Sl_v, Sl_o, csD, slW, ownW, if_true, if_false, addW_i, addW_l, addW_t, subW_i, mulW_i, mulW_l, mulW_t, fdivW_i, modW_i, powW_i, shlW_i, shrW_i, bitW_i, iaddW_i, imulW_i, ifdivW_i, ltW_i, leW_i, gtW_i, geW_i, eqW_i, neW_i, isW_n, isntW_n, isW_b, isntW_b, idxW_l, idxW_t, optW_s, optP_s, lenW_l, lenW_t, lenW_s, lenW_d, intW_i, intW_b, absW_i, maxW_i, minW_i, negW_i, listW_l, listW_t, tupleW_l, tupleW_t, sliceW_l, sliceW_t, isiW_1, optI_n, optI_s, truW_b, truW_i, truW_l, truW_t, truW_n, itW_l, itW_t, itW_r1, itW_r2, itW_r3, strW_i, itW_el, itW_et, itW_zl, itW_zt, itW_vl, itW_vt, tgW_n, tgW_t, setAll_c, setAll_n, List.map_cons, List.map_nil, List.cons_append, List.nil_append, List.append_nil, List.getElem?_cons_succ, List.getElem?_cons_zero, List.length_cons, List.length_nil, Nat.reduceAdd, Nat.reduceSub, List.replicate, List.set_cons_succ, List.set_cons_zero, mtW, mtTy, getW, bkW, dicW, revW, Sl_od, inW_d, notinW_d]
      ((first | (with_reducible refine Box.mk ?_) | skip); show WSs _ _ _ _; rw [WSs_n])
      ((first | (with_reducible refine Box.mk ?_) | skip); show WSs _ _ _ _; rw [WSs_n])
      have ez : csum r s p (i + 1) = csum r s p i + sq (ps (r.getD i p0) x) := by rw [csum, hg]; rfl
      exact hkk _ ⟨_, _, by rw [ez]⟩
  · rintro ρ ⟨y4, y5, rfl⟩
    rw [Nat.zero_add]
    ((first | (with_reducible refine Box.mk ?_) | skip); show WSs _ (_ :: _) _ _; rw [WSs_cB]; simp only [wipeE, WCs, mkEnv, fnEnds, WS_raise, WS_try, WS_frz, WS_set, WS_setT, WS_par2, WS_par3, WS_aug, WS_expr, WS_ret, WS_retv, WS_retN, WS_if, WS_for, WS_while, WS_brk, WS_cont, WS_pass, WS_doc, WS_append, WS_extend, WS_popx, WS_setix, WS_augix, WS_setd, WS_rvs, WS_popset, WS_insert, extW_l, extW_t, insW_2, WE, WAs, WLs, WT, argK, argW, opW, opI, biW, Sl_v, Sl_o, csD, slW, ownW, if_true, if_false, addW_i, addW_l, addW_t, subW_i, mulW_i, mulW_l, mulW_t, fdivW_i, modW_i, powW_i, shlW_i, shrW_i, bitW_i, iaddW_i, imulW_i, ifdivW_i, ltW_i, leW_i, gtW_i, geW_i, eqW_i, neW_i, isW_n, isntW_n, isW_b, isntW_b, idxW_l, idxW_t, optW_s, optP_s, lenW_l, lenW_t, lenW_s, lenW_d, intW_i, intW_b, absW_i, maxW_i, minW_i, negW_i, listW_l, listW_t, tupleW_l, tupleW_t, sliceW_l, sliceW_t, isiW_1, optI_n, optI_s, truW_b, truW_i, truW_l, truW_t, truW_n, itW_l, itW_t, itW_r1, itW_r2, itW_r3, strW_i, itW_el, itW_et, itW_zl, itW_zt, itW_vl, itW_vt, tgW_n, tgW_t, setAll_c, setAll_n, List.map_cons, List.map_nil, List.cons_append, List.nil_append, List.append_nil, List.getElem?_cons_succ, List.getElem?_cons_zero, List.length_cons, List.length_nil, Nat.reduceAdd, Nat.reduceSub, List.replicate, List.set_cons_succ, List.set_cons_zero, mtW, mtTy, getW, bkW, dicW, revW, Sl_od, inW_d, notinW_d])
    exact hq
end PL.K47

namespace PL.K47
open PySem PySem.Spec PyProof.Rows L2 PL
def SMALL : Int := 4611686018427387904
/-! the product, made in place -/
def pfl (L : Nat) (f : Nat → P) : List D := (List.range L).map fun j => ptD (f j)
theorem pfl_len {L : Nat} {f : Nat → P} : (pfl L f).length = L := by simp [pfl]
theorem pfl_get {L j : Nat} {f : Nat → P} (h : j < L) : (pfl L f)[j]? = some (ptD (f j)) := range_get h
theorem pfl_set {L m : Nat} {f : Nat → P} {v : P} : (pfl L f).set m (ptD v) = pfl L fun j => if j = m then v else f j := by
  unfold pfl
  rw [range_set]
  apply List.map_congr_left
  intro j _
  show (if j = m then ptD v else ptD (f j)) = ptD (if j = m then v else f j)
  split <;> rfl
theorem pfl_0 {L : Nat} : (List.replicate L [D.tup [.int 0, .int 0]]).flatten = pfl L fun _ => p0 := by
  rw [rep_p0]
  unfold ptsD pfl
  apply List.ext_getElem
  · simp
  · intro i h1 h2
    simp
theorem pfl_cv {a b : List P} : pfl (a.length + b.length - 1) (fun m => dot (co a) (bk (co b) m) a.length) = ptsD (cv a b) := by
  unfold pfl ptsD cv
  rw [List.map_map]
  apply List.map_congr_left
  intro m _
  show ptD (dot (co a) (bk (co b) m) a.length) = ptD (cnv (co a) (co b) m)
  rw [dot_end (f := co a) fun k hk => co_end hk]
theorem pfl_pts {L : Nat} {f : Nat → P} {a : List P} (hl : a.length = L) (h : ∀ k, k < L → f k = co a k) : pfl L f = ptsD a := by
  unfold pfl ptsD
  apply List.ext_getElem
  · simp [hl]
  · intro i h1 h2
    simp only [List.getElem_map, List.getElem_range]
    simp at h1
    rw [h i h1]
    unfold co
    rw [List.getD_eq_getElem?_getD, List.getElem?_eq_getElem (by omega)]
    rfl
/-- i rows and j of the next one -/
def part (f g : Nat → P) (i j m : Nat) : P := if i ≤ m ∧ m < i + j then pa (dot f (bk g m) i) (pm (f i) (g (m - i))) else dot f (bk g m) i
theorem part_0 {f g : Nat → P} {i : Nat} : part f g i 0 = fun m => dot f (bk g m) i := by
  funext m
  unfold part
  rw [if_neg (by omega)]
theorem part_s {f g : Nat → P} {i j : Nat} : (fun m => if m = i + j then pa (part f g i j (i + j)) (pm (f i) (g j)) else part f g i j m) = part f g i (j + 1) := by
  funext m
  unfold part
  by_cases h : m = i + j
  · subst h
    rw [if_pos rfl, if_neg (by omega), if_pos (by omega), Nat.add_sub_cancel_left]
  · rw [if_neg h]
    by_cases k : i ≤ m ∧ m < i + j
    · rw [if_pos k, if_pos (by omega)]
    · rw [if_neg k, if_neg (by omega)]
theorem part_e {f g : Nat → P} {i n : Nat} (hg : ∀ k, n ≤ k → g k = p0) : part f g i n = fun m => dot f (bk g m) (i + 1) := by
  funext m
  unfold part
  rw [dot, bk]
  by_cases h : i ≤ m
  · rw [if_pos h]
    by_cases k : m < i + n
    · rw [if_pos ⟨h, k⟩]
    · rw [if_neg (fun z => k z.2), hg _ (by omega), pm_0, pa_0]
  · rw [if_neg (fun z => h z.1), if_neg h, pm_0, pa_0]
--FN _law_turned
def sp_law_turned : FSp := fun ds Q _ => ∃ (x : P) (t : Nat), ds = [ptD x, .int (t : Nat)] ∧ t < 4 ∧ Q (.val (ptD (rotN t x)))
abbrev G_law_turned : Tab := tabOf [] [] [] [] []
theorem pure_law_turned : ∀ ds Q X, sp_law_turned ds Q X → ds.length = 2 ∧ WSs G_law_turned ms_law_turned (mkEnv 4 ds) (fnEnds Q X) := by
  rintro ds Q X ⟨⟨x, y⟩, t, rfl, ht, hq⟩
  refine ⟨rfl, ?_⟩
  simp only [ms_law_turned, mkEnv, fnEnds, List.map_cons, List.map_nil, List.length_cons, List.length_nil, Nat.reduceAdd, Nat.reduceSub, List.replicate, List.cons_append, List.nil_append]
  ((first | (with_reducible refine Box.mk ?_) | skip); show WSs _ (_ :: _) _ _; rw [WSs_cB]; simp only [wipeE, WCs, mkEnv, fnEnds, WS_raise, WS_try, WS_frz, WS_set, WS_setT, WS_par2, WS_par3, WS_aug, WS_expr, WS_ret, WS_retv, WS_retN, WS_if, WS_for, WS_while, WS_brk, WS_cont, WS_pass, WS_doc, WS_append, WS_extend, WS_popx, WS_setix, WS_augix, WS_setd, WS_rvs, WS_popset, WS_insert, extW_l, extW_t, insW_2, WE, WAs, WLs, WT, argK, argW, opW, opI, biW, Sl_v, Sl_o, csD, slW, ownW, if_true, if_false, addW_i, addW_l, addW_t, subW_i, mulW_i, mulW_l, mulW_t, fdivW_i, modW_i, powW_i, shlW_i, shrW_i, bitW_i, iaddW_i, imulW_i, ifdivW_i, ltW_i, leW_i, gtW_i, geW_i, eqW_i, neW_i, isW_n, isntW_n, isW_b, isntW_b, idxW_l, idxW_t, optW_s, optP_s, lenW_l, lenW_t, lenW_s, lenW_d, intW_i, intW_b, absW_i, maxW_i, minW_i, negW_i, listW_l, listW_t, tupleW_l, tupleW_t, sliceW_l, sliceW_t, isiW_1, optI_n, optI_s, truW_b, truW_i, truW_l, truW_t, truW_n, itW_l, itW_t, itW_r1, itW_r2, itW_r3, strW_i, itW_el, itW_et, itW_zl, itW_zt, itW_vl, itW_vt, tgW_n, tgW_t, setAll_c, setAll_n, List.map_cons, List.map_nil, List.cons_append, List.nil_append, List.append_nil, List.getElem?_cons_succ, List.getElem?_cons_zero, List.length_cons, List.length_nil, Nat.reduceAdd, Nat.reduceSub, List.replicate, List.set_cons_succ, List.set_cons_zero, mtW, mtTy, getW, bkW, dicW, revW, Sl_od, inW_d, notinW_d])
  rw [pt_set]
  simp only [wipeE, WCs, mkEnv, fnEnds, WS_raise, WS_try, WS_frz, WS_set, WS_setT, WS_par2, WS_par3, WS_aug, WS_expr, WS_ret, WS_retv, WS_retN, WS_if, WS_for, WS_while, WS_brk, WS_cont, WS_pass, WS_doc, WS_append, WS_extend, WS_popx, WS_setix, WS_augix, WS_setd, WS_rvs, WS_popset, WS_insert, extW_l, extW_t, insW_2, WE, WAs, WLs, WT, argK, argW, opW, opI, biW, Sl_v, Sl_o, csD, slW, ownW, if_true, if_false, addW_i, addW_l, addW_t, subW_i, mulW_i, mulW_l, mulW_t, fdivW_i, modW_i, powW_i, shlW_i, shrW_i, bitW_i, iaddW_i, imulW_i, ifdivW_i, ltW_i, leW_i, gtW_i, geW_i, eqW_i, neW_i, isW_n, isntW_n, isW_b, isntW_b, idxW_l, idxW_t, optW_s, optP_s, lenW_l, lenW_t, lenW_s, lenW_d, intW_i, intW_b, absW_i, maxW_i, minW_i, negW_i, listW_l, listW_t, tupleW_l, tupleW_t, sliceW_l, sliceW_t, isiW_1, optI_n, optI_s, truW_b, truW_i, truW_l, truW_t, truW_n, itW_l, itW_t, itW_r1, itW_r2, itW_r3, strW_i, itW_el, itW_et, itW_zl, itW_zt, itW_vl, itW_vt, tgW_n, tgW_t, setAll_c, setAll_n, List.map_cons, List.map_nil, List.cons_append, List.nil_append, List.append_nil, List.getElem?_cons_succ, List.getElem?_cons_zero, List.length_cons, List.length_nil, Nat.reduceAdd, Nat.reduceSub, List.replicate, List.set_cons_succ, List.set_cons_zero, mtW, mtTy, getW, bkW, dicW, revW, Sl_od, inW_d, notinW_d]
  refine ⟨trivial, ?_⟩
  ((first | (with_reducible refine Box.mk ?_) | skip); show WSs _ (_ :: _) _ _; rw [WSs_cB]; simp only [wipeE, WCs, mkEnv, fnEnds, WS_raise, WS_try, WS_frz, WS_set, WS_setT, WS_par2, WS_par3, WS_aug, WS_expr, WS_ret, WS_retv, WS_retN, WS_if, WS_for, WS_while, WS_brk, WS_cont, WS_pass, WS_doc, WS_append, WS_extend, WS_popx, WS_setix, WS_augix, WS_setd, WS_rvs, WS_popset, WS_insert, extW_l, extW_t, insW_2, WE, WAs, WLs, WT, argK, argW, opW, opI, biW, Sl_v, Sl_o, csD, slW, ownW, if_true, if_false, addW_i, addW_l, addW_t, subW_i, mulW_i, mulW_l, mulW_t, fdivW_i, modW_i, powW_i, shlW_i, shrW_i, bitW_i, iaddW_i, imulW_i, ifdivW_i, ltW_i, leW_i, gtW_i, geW_i, eqW_i, neW_i, isW_n, isntW_n, isW_b, isntW_b, idxW_l, idxW_t, optW_s, optP_s, lenW_l, lenW_t, lenW_s, lenW_d, intW_i, intW_b, absW_i, maxW_i, minW_i, negW_i, listW_l, listW_t, tupleW_l, tupleW_t, sliceW_l, sliceW_t, isiW_1, optI_n, optI_s, truW_b, truW_i, truW_l, truW_t, truW_n, itW_l, itW_t, itW_r1, itW_r2, itW_r3, strW_i, itW_el, itW_et, itW_zl, itW_zt, itW_vl, itW_vt, tgW_n, tgW_t, setAll_c, setAll_n, List.map_cons, List.map_nil, List.cons_append, List.nil_append, List.append_nil, List.getElem?_cons_succ, List.getElem?_cons_zero, List.length_cons, List.length_nil, Nat.reduceAdd, Nat.reduceSub, List.replicate, List.set_cons_succ, List.set_cons_zero, mtW, mtTy, getW, bkW, dicW, revW, Sl_od, inW_d, notinW_d])
  refine ⟨by decide, by decide, by decide, by decide, by decide, ?_⟩
  have key : ∀ n : Nat, n < 4 → ([ptD (x, y), ptD (0 - y, x), ptD (0 - x, 0 - y), ptD (y, 0 - x)] : List D)[n]? = some (ptD (rotN n (x, y))) := by
    intro n hn
    have : n = 0 ∨ n = 1 ∨ n = 2 ∨ n = 3 := by omega
    rcases this with rfl | rfl | rfl | rfl
    · rfl
    · show some (ptD (0 - y, x)) = some (ptD (-y, x))
      rw [Int.zero_sub]
    · show some (ptD (0 - x, 0 - y)) = some (ptD (-x, -y))
      rw [Int.zero_sub, Int.zero_sub]
    · show some (ptD (y, 0 - x)) = some (ptD (- -y, -x))
      rw [Int.zero_sub, Int.neg_neg]
  exact optA (key t ht) hq
--FN _law_whole
def sp_law_whole : FSp := fun ds Q _ => ∃ (o a : List P) (B : Int) (t : Nat), ds = [.tup (ptsD o), lineD a, .int (t : Nat)] ∧ t < 4 ∧ OL o a B ∧ Q (.own (ptsD (wh o a t)))
abbrev G_law_whole : Tab := tabOf [("_law_turned", sp_law_turned)] ["len", "range"] [] [] []
theorem pure_law_whole : ∀ ds Q X, sp_law_whole ds Q X → ds.length = 3 ∧ WSs G_law_whole ms_law_whole (mkEnv 11 ds) (fnEnds Q X) := by
  rintro ds Q X ⟨o, b, B, t, rfl, ht, h, hq⟩
  refine ⟨rfl, ?_⟩
  have h1 := h.o1
  have h2 := h.o2
  have h3 := h.a1
  have h4 := h.a2
  simp only [ms_law_whole, mkEnv, fnEnds, List.map_cons, List.map_nil, List.length_cons, List.length_nil, Nat.reduceAdd, Nat.reduceSub, List.replicate, List.cons_append, List.nil_append]
  obtain ⟨M, hM⟩ : ∃ M, M = o.length + b.length - 1 := ⟨_, rfl⟩
  have eM : ((o.length : Nat) : Int) + ((b.length : Nat) : Int) - 1 = (M : Nat) := by omega
  ((first | (with_reducible refine Box.mk ?_) | skip); show WSs _ (_ :: _) _ _; rw [WSs_cB]; simp only [wipeE, WCs, mkEnv, fnEnds, WS_raise, WS_try, WS_frz, WS_set, WS_setT, WS_par2, WS_par3, WS_aug, WS_expr, WS_ret, WS_retv, WS_retN, WS_if, WS_for, WS_while, WS_brk, WS_cont, WS_pass, WS_doc, WS_append, WS_extend, WS_popx, WS_setix, WS_augix, WS_setd, WS_rvs, WS_popset, WS_insert, extW_l, extW_t, insW_2, WE, WAs, WLs, WT, argK, argW, opW, opI, biW, Sl_v, Sl_o, csD, slW, ownW, if_true, if_false, addW_i, addW_l, addW_t, subW_i, mulW_i, mulW_l, mulW_t, fdivW_i, modW_i, powW_i, shlW_i, shrW_i, bitW_i, iaddW_i, imulW_i, ifdivW_i, ltW_i, leW_i, gtW_i, geW_i, eqW_i, neW_i, isW_n, isntW_n, isW_b, isntW_b, idxW_l, idxW_t, optW_s, optP_s, lenW_l, lenW_t, lenW_s, lenW_d, intW_i, intW_b, absW_i, maxW_i, minW_i, negW_i, listW_l, listW_t, tupleW_l, tupleW_t, sliceW_l, sliceW_t, isiW_1, optI_n, optI_s, truW_b, truW_i, truW_l, truW_t, truW_n, itW_l, itW_t, itW_r1, itW_r2, itW_r3, strW_i, itW_el, itW_et, itW_zl, itW_zt, itW_vl, itW_vt, tgW_n, tgW_t, setAll_c, setAll_n, List.map_cons, List.map_nil, List.cons_append, List.nil_append, List.append_nil, List.getElem?_cons_succ, List.getElem?_cons_zero, List.length_cons, List.length_nil, Nat.reduceAdd, Nat.reduceSub, List.replicate, List.set_cons_succ, List.set_cons_zero, mtW, mtTy, getW, bkW, dicW, revW, Sl_od, inW_d, notinW_d])
  simp only [lx1, pts_len, eM, wipeE, WCs, mkEnv, fnEnds, WS_raise, WS_try, WS_frz, WS_set, WS_setT, WS_par2, WS_par3, WS_aug, WS_expr, WS_ret, WS_retv, WS_retN, WS_if, WS_for, WS_while, WS_brk, WS_cont, WS_pass, WS_doc, WS_append, WS_extend, WS_popx, WS_setix, WS_augix, WS_setd, WS_rvs, WS_popset, WS_insert, extW_l, extW_t, insW_2, WE, WAs, WLs, WT, argK, argW, opW, opI, biW, Sl_v, Sl_o, csD, slW, ownW, if_true, if_false, addW_i, addW_l, addW_t, subW_i, mulW_i, mulW_l, mulW_t, fdivW_i, modW_i, powW_i, shlW_i, shrW_i, bitW_i, iaddW_i, imulW_i, ifdivW_i, ltW_i, leW_i, gtW_i, geW_i, eqW_i, neW_i, isW_n, isntW_n, isW_b, isntW_b, idxW_l, idxW_t, optW_s, optP_s, lenW_l, lenW_t, lenW_s, lenW_d, intW_i, intW_b, absW_i, maxW_i, minW_i, negW_i, listW_l, listW_t, tupleW_l, tupleW_t, sliceW_l, sliceW_t, isiW_1, optI_n, optI_s, truW_b, truW_i, truW_l, truW_t, truW_n, itW_l, itW_t, itW_r1, itW_r2, itW_r3, strW_i, itW_el, itW_et, itW_zl, itW_zt, itW_vl, itW_vt, tgW_n, tgW_t, setAll_c, setAll_n, List.map_cons, List.map_nil, List.cons_append, List.nil_append, List.append_nil, List.getElem?_cons_succ, List.getElem?_cons_zero, List.length_cons, List.length_nil, Nat.reduceAdd, Nat.reduceSub, List.replicate, List.set_cons_succ, List.set_cons_zero, mtW, mtTy, getW, bkW, dicW, revW, Sl_od, inW_d, notinW_d]
  refine ⟨by decide, by decide, ⟨by omega, by omega, by unfold LIM; simp; omega⟩, ?_⟩
  rw [Int.toNat_natCast, pfl_0]
  ((first | (with_reducible refine Box.mk ?_) | skip); show WSs _ (_ :: _) _ _; rw [WSs_cB]; simp only [wipeE, WCs, mkEnv, fnEnds, WS_raise, WS_try, WS_frz, WS_set, WS_setT, WS_par2, WS_par3, WS_aug, WS_expr, WS_ret, WS_retv, WS_retN, WS_if, WS_for, WS_while, WS_brk, WS_cont, WS_pass, WS_doc, WS_append, WS_extend, WS_popx, WS_setix, WS_augix, WS_setd, WS_rvs, WS_popset, WS_insert, extW_l, extW_t, insW_2, WE, WAs, WLs, WT, argK, argW, opW, opI, biW, Sl_v, Sl_o, csD, slW, ownW, if_true, if_false, addW_i, addW_l, addW_t, subW_i, mulW_i, mulW_l, mulW_t, fdivW_i, modW_i, powW_i, shlW_i, shrW_i, bitW_i, iaddW_i, imulW_i, ifdivW_i, ltW_i, leW_i, gtW_i, geW_i, eqW_i, neW_i, isW_n, isntW_n, isW_b, isntW_b, idxW_l, idxW_t, optW_s, optP_s, lenW_l, lenW_t, lenW_s, lenW_d, intW_i, intW_b, absW_i, maxW_i, minW_i, negW_i, listW_l, listW_t, tupleW_l, tupleW_t, sliceW_l, sliceW_t, isiW_1, optI_n, optI_s, truW_b, truW_i, truW_l, truW_t, truW_n, itW_l, itW_t, itW_r1, itW_r2, itW_r3, strW_i, itW_el, itW_et, itW_zl, itW_zt, itW_vl, itW_vt, tgW_n, tgW_t, setAll_c, setAll_n, List.map_cons, List.map_nil, List.cons_append, List.nil_append, List.append_nil, List.getElem?_cons_succ, List.getElem?_cons_zero, List.length_cons, List.length_nil, Nat.reduceAdd, Nat.reduceSub, List.replicate, List.set_cons_succ, List.set_cons_zero, mtW, mtTy, getW, bkW, dicW, revW, Sl_od, inW_d, notinW_d])
  simp only [pts_len]
  refine ⟨by unfold B62; omega, ?_⟩
  rw [Int.toNat_natCast, rgD_0]
  refine forW_rg (fun i ρ => ∃ y4 y5 y7 y8 y9 y10 : Option Sl, ρ = [some (.val (.tup (ptsD o))), some (.val (lineD b)), some (.val (.int (t : Nat))), some (.own (pfl M fun m => dot (co o) (bk (co b) m) i)), y4, y5, none, y7, y8, y9, y10]) 0 o.length ⟨_, _, _, _, _, _, rfl⟩ ?_ ?_
  · rintro i ρ _ hi ⟨y4, y5, y7, y8, y9, y10, rfl⟩ kk hkk
    have hi : i < o.length := by omega
    simp only [wipeE, WCs, mkEnv, fnEnds, WS_raise, WS_try, WS_frz, WS_set, WS_setT, WS_par2, WS_par3, WS_aug, WS_expr, WS_ret, WS_retv, WS_retN, WS_if, WS_for, WS_while, WS_brk, WS_cont, WS_pass, WS_doc, WS_append, WS_extend, WS_popx, WS_setix, WS_augix, WS_setd, WS_rvs, WS_popset, WS_insert, extW_l, extW_t, insW_2, WE, WAs, WLs, WT, argK, argW, opW, opI, biW, Sl_v, Sl_o, csD, slW, ownW, if_true, if_false, addW_i, addW_l, addW_t, subW_i, mulW_i, mulW_l, mulW_t, fdivW_i, modW_i, powW_i, shlW_i, shrW_i, bitW_i, iaddW_i, imulW_i, ifdivW_i, ltW_i, leW_i, gtW_i, geW_i, eqW_i, neW_i, isW_n, isntW_n, isW_b, isntW_b, idxW_l, idxW_t, optW_s, optP_s, lenW_l, lenW_t, lenW_s, lenW_d, intW_i, intW_b, absW_i, maxW_i, minW_i, negW_i, listW_l, listW_t, tupleW_l, tupleW_t, sliceW_l, sliceW_t, isiW_1, optI_n, optI_s, truW_b, truW_i, truW_l, truW_t, truW_n, itW_l, itW_t, itW_r1, itW_r2, itW_r3, strW_i, itW_el, itW_et, itW_zl, itW_zt, itW_vl, itW_vt, tgW_n, tgW_t, setAll_c, setAll_n, List.map_cons, List.map_nil, List.cons_append, List.nil_append, List.append_nil, List.getElem?_cons_succ, List.getElem?_cons_zero, List.length_cons, List.length_nil, Nat.reduceAdd, Nat.reduceSub, List.replicate, List.set_cons_succ, List.set_cons_zero, mtW, mtTy, getW, bkW, dicW, revW, Sl_od, inW_d, notinW_d]
    ((first | (with_reducible refine Box.mk ?_) | skip); show WSs _ (_ :: _) _ _; rw [WSs_cB]; simp only [wipeE, WCs, mkEnv, fnEnds, WS_raise, WS_try, WS_frz, WS_set, WS_setT, WS_par2, WS_par3, WS_aug, WS_expr, WS_ret, WS_retv, WS_retN, WS_if, WS_for, WS_while, WS_brk, WS_cont, WS_pass, WS_doc, WS_append, WS_extend, WS_popx, WS_setix, WS_augix, WS_setd, WS_rvs, WS_popset, WS_insert, extW_l, extW_t, insW_2, WE, WAs, WLs, WT, argK, argW, opW, opI, biW, Sl_v, Sl_o, csD, slW, ownW, if_true, if_false, addW_i, addW_l, addW_t, subW_i, mulW_i, mulW_l, mulW_t, fdivW_i, modW_i, powW_i, shlW_i, shrW_i, bitW_i, iaddW_i, imulW_i, ifdivW_i, ltW_i, leW_i, gtW_i, geW_i, eqW_i, neW_i, isW_n, isntW_n, isW_b, isntW_b, idxW_l, idxW_t, optW_s, optP_s, lenW_l, lenW_t, lenW_s, lenW_d, intW_i, intW_b, absW_i, maxW_i, minW_i, negW_i, listW_l, listW_t, tupleW_l, tupleW_t, sliceW_l, sliceW_t, isiW_1, optI_n, optI_s, truW_b, truW_i, truW_l, truW_t, truW_n, itW_l, itW_t, itW_r1, itW_r2, itW_r3, strW_i, itW_el, itW_et, itW_zl, itW_zt, itW_vl, itW_vt, tgW_n, tgW_t, setAll_c, setAll_n, List.map_cons, List.map_nil, List.cons_append, List.nil_append, List.append_nil, List.getElem?_cons_succ, List.getElem?_cons_zero, List.length_cons, List.length_nil, Nat.reduceAdd, Nat.reduceSub, List.replicate, List.set_cons_succ, List.set_cons_zero, mtW, mtTy, getW, bkW, dicW, revW, Sl_od, inW_d, notinW_d])
    simp only [lx1, pts_len, wipeE, WCs, mkEnv, fnEnds, WS_raise, WS_try, WS_frz, WS_set, WS_setT, WS_par2, WS_par3, WS_aug, WS_expr, WS_ret, WS_retv, WS_retN, WS_if, WS_for, WS_while, WS_brk, WS_cont, WS_pass, WS_doc, WS_append, WS_extend, WS_popx, WS_setix, WS_augix, WS_setd, WS_rvs, WS_popset, WS_insert, extW_l, extW_t, insW_2, WE, WAs, WLs, WT, argK, argW, opW, opI, biW, Sl_v, Sl_o, csD, slW, ownW, if_true, if_false, addW_i, addW_l, addW_t, subW_i, mulW_i, mulW_l, mulW_t, fdivW_i, modW_i, powW_i, shlW_i, shrW_i, bitW_i, iaddW_i, imulW_i, ifdivW_i, ltW_i, leW_i, gtW_i, geW_i, eqW_i, neW_i, isW_n, isntW_n, isW_b, isntW_b, idxW_l, idxW_t, optW_s, optP_s, lenW_l, lenW_t, lenW_s, lenW_d, intW_i, intW_b, absW_i, maxW_i, minW_i, negW_i, listW_l, listW_t, tupleW_l, tupleW_t, sliceW_l, sliceW_t, isiW_1, optI_n, optI_s, truW_b, truW_i, truW_l, truW_t, truW_n, itW_l, itW_t, itW_r1, itW_r2, itW_r3, strW_i, itW_el, itW_et, itW_zl, itW_zt, itW_vl, itW_vt, tgW_n, tgW_t, setAll_c, setAll_n, List.map_cons, List.map_nil, List.cons_append, List.nil_append, List.append_nil, List.getElem?_cons_succ, List.getElem?_cons_zero, List.length_cons, List.length_nil, Nat.reduceAdd, Nat.reduceSub, List.replicate, List.set_cons_succ, List.set_cons_zero, mtW, mtTy, getW, bkW, dicW, revW, Sl_od, inW_d, notinW_d]
    refine ⟨by unfold B62; omega, ?_⟩
    rw [Int.toNat_natCast, rgD_0]
    refine forW_rg (fun j ρ => ∃ y5 y7 y8 y9 y10 : Option Sl, ρ = [some (.val (.tup (ptsD o))), some (.val (lineD b)), some (.val (.int (t : Nat))), some (.own (pfl M (part (co o) (co b) i j))), some (.val (.int (i : Nat))), y5, none, y7, y8, y9, y10]) 0 b.length ⟨_, _, _, _, _, by rw [part_0]⟩ ?_ ?_
    · rintro j ρ _ hj ⟨y5, y7, y8, y9, y10, rfl⟩ k2 hk2
      have hj : j < b.length := by omega
      have eij : (i : Int) + (j : Int) = ((i + j : Nat) : Int) := by omega
      have hij : i + j < M := by omega
      simp only [wipeE, WCs, mkEnv, fnEnds, WS_raise, WS_try, WS_frz, WS_set, WS_setT, WS_par2, WS_par3, WS_aug, WS_expr, WS_ret, WS_retv, WS_retN, WS_if, WS_for, WS_while, WS_brk, WS_cont, WS_pass, WS_doc, WS_append, WS_extend, WS_popx, WS_setix, WS_augix, WS_setd, WS_rvs, WS_popset, WS_insert, extW_l, extW_t, insW_2, WE, WAs, WLs, WT, argK, argW, opW, opI, biW, Sl_v, Sl_o, csD, slW, ownW, if_true, if_false, addW_i, addW_l, addW_t, subW_i, mulW_i, mulW_l, mulW_t, fdivW_i, modW_i, powW_i, shlW_i, shrW_i, bitW_i, iaddW_i, imulW_i, ifdivW_i, ltW_i, leW_i, gtW_i, geW_i, eqW_i, neW_i, isW_n, isntW_n, isW_b, isntW_b, idxW_l, idxW_t, optW_s, optP_s, lenW_l, lenW_t, lenW_s, lenW_d, intW_i, intW_b, absW_i, maxW_i, minW_i, negW_i, listW_l, listW_t, tupleW_l, tupleW_t, sliceW_l, sliceW_t, isiW_1, optI_n, optI_s, truW_b, truW_i, truW_l, truW_t, truW_n, itW_l, itW_t, itW_r1, itW_r2, itW_r3, strW_i, itW_el, itW_et, itW_zl, itW_zt, itW_vl, itW_vt, tgW_n, tgW_t, setAll_c, setAll_n, List.map_cons, List.map_nil, List.cons_append, List.nil_append, List.append_nil, List.getElem?_cons_succ, List.getElem?_cons_zero, List.length_cons, List.length_nil, Nat.reduceAdd, Nat.reduceSub, List.replicate, List.set_cons_succ, List.set_cons_zero, mtW, mtTy, getW, bkW, dicW, revW, Sl_od, inW_d, notinW_d]
      ((first | (with_reducible refine Box.mk ?_) | skip); show WSs _ (_ :: _) _ _; rw [WSs_cB]; simp only [wipeE, WCs, mkEnv, fnEnds, WS_raise, WS_try, WS_frz, WS_set, WS_setT, WS_par2, WS_par3, WS_aug, WS_expr, WS_ret, WS_retv, WS_retN, WS_if, WS_for, WS_while, WS_brk, WS_cont, WS_pass, WS_doc, WS_append, WS_extend, WS_popx, WS_setix, WS_augix, WS_setd, WS_rvs, WS_popset, WS_insert, extW_l, extW_t, insW_2, WE, WAs, WLs, WT, argK, argW, opW, opI, biW, Sl_v, Sl_o, csD, slW, ownW, if_true, if_false, addW_i, addW_l, addW_t, subW_i, mulW_i, mulW_l, mulW_t, fdivW_i, modW_i, powW_i, shlW_i, shrW_i, bitW_i, iaddW_i, imulW_i, ifdivW_i, ltW_i, leW_i, gtW_i, geW_i, eqW_i, neW_i, isW_n, isntW_n, isW_b, isntW_b, idxW_l, idxW_t, optW_s, optP_s, lenW_l, lenW_t, lenW_s, lenW_d, intW_i, intW_b, absW_i, maxW_i, minW_i, negW_i, listW_l, listW_t, tupleW_l, tupleW_t, sliceW_l, sliceW_t, isiW_1, optI_n, optI_s, truW_b, truW_i, truW_l, truW_t, truW_n, itW_l, itW_t, itW_r1, itW_r2, itW_r3, strW_i, itW_el, itW_et, itW_zl, itW_zt, itW_vl, itW_vt, tgW_n, tgW_t, setAll_c, setAll_n, List.map_cons, List.map_nil, List.cons_append, List.nil_append, List.append_nil, List.getElem?_cons_succ, List.getElem?_cons_zero, List.length_cons, List.length_nil, Nat.reduceAdd, Nat.reduceSub, List.replicate, List.set_cons_succ, List.set_cons_zero, mtW, mtTy, getW, bkW, dicW, revW, Sl_od, inW_d, notinW_d])
      refine optA (pts_get hi) ?_
      rw [Sl_v, pt_set]
      simp only [wipeE, WCs, mkEnv, fnEnds, WS_raise, WS_try, WS_frz, WS_set, WS_setT, WS_par2, WS_par3, WS_aug, WS_expr, WS_ret, WS_retv, WS_retN, WS_if, WS_for, WS_while, WS_brk, WS_cont, WS_pass, WS_doc, WS_append, WS_extend, WS_popx, WS_setix, WS_augix, WS_setd, WS_rvs, WS_popset, WS_insert, extW_l, extW_t, insW_2, WE, WAs, WLs, WT, argK, argW, opW, opI, biW, Sl_v, Sl_o, csD, slW, ownW, if_true, if_false, addW_i, addW_l, addW_t, subW_i, mulW_i, mulW_l, mulW_t, fdivW_i, modW_i, powW_i, shlW_i, shrW_i, bitW_i, iaddW_i, imulW_i, ifdivW_i, ltW_i, leW_i, gtW_i, geW_i, eqW_i, neW_i, isW_n, isntW_n, isW_b, isntW_b, idxW_l, idxW_t, optW_s, optP_s, lenW_l, lenW_t, lenW_s, lenW_d, intW_i, intW_b, absW_i, maxW_i, minW_i, negW_i, listW_l, listW_t, tupleW_l, tupleW_t, sliceW_l, sliceW_t, isiW_1, optI_n, optI_s, truW_b, truW_i, truW_l, truW_t, truW_n, itW_l, itW_t, itW_r1, itW_r2, itW_r3, strW_i, itW_el, itW_et, itW_zl, itW_zt, itW_vl, itW_vt, tgW_n, tgW_t, setAll_c, setAll_n, List.map_cons, List.map_nil, List.cons_append, List.nil_append, List.append_nil, List.getElem?_cons_succ, List.getElem?_cons_zero, List.length_cons, List.length_nil, Nat.reduceAdd, Nat.reduceSub, List.replicate, List.set_cons_succ, List.set_cons_zero, mtW, mtTy, getW, bkW, dicW, revW, Sl_od, inW_d, notinW_d]
      refine ⟨trivial, ?_⟩
      ((first | (with_reducible refine Box.mk ?_) | skip); show WSs _ (_ :: _) _ _; rw [WSs_cB]; simp only [wipeE, WCs, mkEnv, fnEnds, WS_raise, WS_try, WS_frz, WS_set, WS_setT, WS_par2, WS_par3, WS_aug, WS_expr, WS_ret, WS_retv, WS_retN, WS_if, WS_for, WS_while, WS_brk, WS_cont, WS_pass, WS_doc, WS_append, WS_extend, WS_popx, WS_setix, WS_augix, WS_setd, WS_rvs, WS_popset, WS_insert, extW_l, extW_t, insW_2, WE, WAs, WLs, WT, argK, argW, opW, opI, biW, Sl_v, Sl_o, csD, slW, ownW, if_true, if_false, addW_i, addW_l, addW_t, subW_i, mulW_i, mulW_l, mulW_t, fdivW_i, modW_i, powW_i, shlW_i, shrW_i, bitW_i, iaddW_i, imulW_i, ifdivW_i, ltW_i, leW_i, gtW_i, geW_i, eqW_i, neW_i, isW_n, isntW_n, isW_b, isntW_b, idxW_l, idxW_t, optW_s, optP_s, lenW_l, lenW_t, lenW_s, lenW_d, intW_i, intW_b, absW_i, maxW_i, minW_i, negW_i, listW_l, listW_t, tupleW_l, tupleW_t, sliceW_l, sliceW_t, isiW_1, optI_n, optI_s, truW_b, truW_i, truW_l, truW_t, truW_n, itW_l, itW_t, itW_r1, itW_r2, itW_r3, strW_i, itW_el, itW_et, itW_zl, itW_zt, itW_vl, itW_vt, tgW_n, tgW_t, setAll_c, setAll_n, List.map_cons, List.map_nil, List.cons_append, List.nil_append, List.append_nil, List.getElem?_cons_succ, List.getElem?_cons_zero, List.length_cons, List.length_nil, Nat.reduceAdd, Nat.reduceSub, List.replicate, List.set_cons_succ, List.set_cons_zero, mtW, mtTy, getW, bkW, dicW, revW, Sl_od, inW_d, notinW_d])
      simp only [lx1, wipeE, WCs, mkEnv, fnEnds, WS_raise, WS_try, WS_frz, WS_set, WS_setT, WS_par2, WS_par3, WS_aug, WS_expr, WS_ret, WS_retv, WS_retN, WS_if, WS_for, WS_while, WS_brk, WS_cont, WS_pass, WS_doc, WS_append, WS_extend, WS_popx, WS_setix, WS_augix, WS_setd, WS_rvs, WS_popset, WS_insert, extW_l, extW_t, insW_2, WE, WAs, WLs, WT, argK, argW, opW, opI, biW, Sl_v, Sl_o, csD, slW, ownW, if_true, if_false, addW_i, addW_l, addW_t, subW_i, mulW_i, mulW_l, mulW_t, fdivW_i, modW_i, powW_i, shlW_i, shrW_i, bitW_i, iaddW_i, imulW_i, ifdivW_i, ltW_i, leW_i, gtW_i, geW_i, eqW_i, neW_i, isW_n, isntW_n, isW_b, isntW_b, idxW_l, idxW_t, optW_s, optP_s, lenW_l, lenW_t, lenW_s, lenW_d, intW_i, intW_b, absW_i, maxW_i, minW_i, negW_i, listW_l, listW_t, tupleW_l, tupleW_t, sliceW_l, sliceW_t, isiW_1, optI_n, optI_s, truW_b, truW_i, truW_l, truW_t, truW_n, itW_l, itW_t, itW_r1, itW_r2, itW_r3, strW_i, itW_el, itW_et, itW_zl, itW_zt, itW_vl, itW_vt, tgW_n, tgW_t, setAll_c, setAll_n, List.map_cons, List.map_nil, List.cons_append, List.nil_append, List.append_nil, List.getElem?_cons_succ, List.getElem?_cons_zero, List.length_cons, List.length_nil, Nat.reduceAdd, Nat.reduceSub, List.replicate, List.set_cons_succ, List.set_cons_zero, mtW, mtTy, getW, bkW, dicW, revW, Sl_od, inW_d, notinW_d]
      refine optA (pts_get hj) ?_
      rw [Sl_v, pt_set]
      simp only [wipeE, WCs, mkEnv, fnEnds, WS_raise, WS_try, WS_frz, WS_set, WS_setT, WS_par2, WS_par3, WS_aug, WS_expr, WS_ret, WS_retv, WS_retN, WS_if, WS_for, WS_while, WS_brk, WS_cont, WS_pass, WS_doc, WS_append, WS_extend, WS_popx, WS_setix, WS_augix, WS_setd, WS_rvs, WS_popset, WS_insert, extW_l, extW_t, insW_2, WE, WAs, WLs, WT, argK, argW, opW, opI, biW, Sl_v, Sl_o, csD, slW, ownW, if_true, if_false, addW_i, addW_l, addW_t, subW_i, mulW_i, mulW_l, mulW_t, fdivW_i, modW_i, powW_i, shlW_i, shrW_i, bitW_i, iaddW_i, imulW_i, ifdivW_i, ltW_i, leW_i, gtW_i, geW_i, eqW_i, neW_i, isW_n, isntW_n, isW_b, isntW_b, idxW_l, idxW_t, optW_s, optP_s, lenW_l, lenW_t, lenW_s, lenW_d, intW_i, intW_b, absW_i, maxW_i, minW_i, negW_i, listW_l, listW_t, tupleW_l, tupleW_t, sliceW_l, sliceW_t, isiW_1, optI_n, optI_s, truW_b, truW_i, truW_l, truW_t, truW_n, itW_l, itW_t, itW_r1, itW_r2, itW_r3, strW_i, itW_el, itW_et, itW_zl, itW_zt, itW_vl, itW_vt, tgW_n, tgW_t, setAll_c, setAll_n, List.map_cons, List.map_nil, List.cons_append, List.nil_append, List.append_nil, List.getElem?_cons_succ, List.getElem?_cons_zero, List.length_cons, List.length_nil, Nat.reduceAdd, Nat.reduceSub, List.replicate, List.set_cons_succ, List.set_cons_zero, mtW, mtTy, getW, bkW, dicW, revW, Sl_od, inW_d, notinW_d]
      refine ⟨trivial, ?_⟩
      obtain ⟨⟨sa1, sa2⟩, sa3, sa4⟩ := bd_up (h.bo _ (co_mem hi)) h.b1
      obtain ⟨⟨sb1, sb2⟩, sb3, sb4⟩ := bd_up (h.ba _ (co_mem hj)) (show (50 : Int) ≤ BIG by unfold BIG; decide)
      have s1 := bsm sa1 sa2
      have s2 := bsm sa3 sa4
      have s3 := bsm sb1 sb2
      have s4 := bsm sb3 sb4
      ((first | (with_reducible refine Box.mk ?_) | skip); show WSs _ (_ :: _) _ _; rw [WSs_cB]; simp only [wipeE, WCs, mkEnv, fnEnds, WS_raise, WS_try, WS_frz, WS_set, WS_setT, WS_par2, WS_par3, WS_aug, WS_expr, WS_ret, WS_retv, WS_retN, WS_if, WS_for, WS_while, WS_brk, WS_cont, WS_pass, WS_doc, WS_append, WS_extend, WS_popx, WS_setix, WS_augix, WS_setd, WS_rvs, WS_popset, WS_insert, extW_l, extW_t, insW_2, WE, WAs, WLs, WT, argK, argW, opW, opI, biW, Sl_v, Sl_o, csD, slW, ownW, if_true, if_false, addW_i, addW_l, addW_t, subW_i, mulW_i, mulW_l, mulW_t, fdivW_i, modW_i, powW_i, shlW_i, shrW_i, bitW_i, iaddW_i, imulW_i, ifdivW_i, ltW_i, leW_i, gtW_i, geW_i, eqW_i, neW_i, isW_n, isntW_n, isW_b, isntW_b, idxW_l, idxW_t, optW_s, optP_s, lenW_l, lenW_t, lenW_s, lenW_d, intW_i, intW_b, absW_i, maxW_i, minW_i, negW_i, listW_l, listW_t, tupleW_l, tupleW_t, sliceW_l, sliceW_t, isiW_1, optI_n, optI_s, truW_b, truW_i, truW_l, truW_t, truW_n, itW_l, itW_t, itW_r1, itW_r2, itW_r3, strW_i, itW_el, itW_et, itW_zl, itW_zt, itW_vl, itW_vt, tgW_n, tgW_t, setAll_c, setAll_n, List.map_cons, List.map_nil, List.cons_append, List.nil_append, List.append_nil, List.getElem?_cons_succ, List.getElem?_cons_zero, List.length_cons, List.length_nil, Nat.reduceAdd, Nat.reduceSub, List.replicate, List.set_cons_succ, List.set_cons_zero, mtW, mtTy, getW, bkW, dicW, revW, Sl_od, inW_d, notinW_d])
      simp only [eij]
      refine optA (pfl_get hij) ?_
      rw [Sl_v, px0]
      simp only [wipeE, WCs, mkEnv, fnEnds, WS_raise, WS_try, WS_frz, WS_set, WS_setT, WS_par2, WS_par3, WS_aug, WS_expr, WS_ret, WS_retv, WS_retN, WS_if, WS_for, WS_while, WS_brk, WS_cont, WS_pass, WS_doc, WS_append, WS_extend, WS_popx, WS_setix, WS_augix, WS_setd, WS_rvs, WS_popset, WS_insert, extW_l, extW_t, insW_2, WE, WAs, WLs, WT, argK, argW, opW, opI, biW, Sl_v, Sl_o, csD, slW, ownW, if_true, if_false, addW_i, addW_l, addW_t, subW_i, mulW_i, mulW_l, mulW_t, fdivW_i, modW_i, powW_i, shlW_i, shrW_i, bitW_i, iaddW_i, imulW_i, ifdivW_i, ltW_i, leW_i, gtW_i, geW_i, eqW_i, neW_i, isW_n, isntW_n, isW_b, isntW_b, idxW_l, idxW_t, optW_s, optP_s, lenW_l, lenW_t, lenW_s, lenW_d, intW_i, intW_b, absW_i, maxW_i, minW_i, negW_i, listW_l, listW_t, tupleW_l, tupleW_t, sliceW_l, sliceW_t, isiW_1, optI_n, optI_s, truW_b, truW_i, truW_l, truW_t, truW_n, itW_l, itW_t, itW_r1, itW_r2, itW_r3, strW_i, itW_el, itW_et, itW_zl, itW_zt, itW_vl, itW_vt, tgW_n, tgW_t, setAll_c, setAll_n, List.map_cons, List.map_nil, List.cons_append, List.nil_append, List.append_nil, List.getElem?_cons_succ, List.getElem?_cons_zero, List.length_cons, List.length_nil, Nat.reduceAdd, Nat.reduceSub, List.replicate, List.set_cons_succ, List.set_cons_zero, mtW, mtTy, getW, bkW, dicW, revW, Sl_od, inW_d, notinW_d]
      refine ⟨⟨s1, s3⟩, ⟨s2, s4⟩, ?_⟩
      refine optA (pfl_get hij) ?_
      rw [Sl_v, px1]
      simp only [wipeE, WCs, mkEnv, fnEnds, WS_raise, WS_try, WS_frz, WS_set, WS_setT, WS_par2, WS_par3, WS_aug, WS_expr, WS_ret, WS_retv, WS_retN, WS_if, WS_for, WS_while, WS_brk, WS_cont, WS_pass, WS_doc, WS_append, WS_extend, WS_popx, WS_setix, WS_augix, WS_setd, WS_rvs, WS_popset, WS_insert, extW_l, extW_t, insW_2, WE, WAs, WLs, WT, argK, argW, opW, opI, biW, Sl_v, Sl_o, csD, slW, ownW, if_true, if_false, addW_i, addW_l, addW_t, subW_i, mulW_i, mulW_l, mulW_t, fdivW_i, modW_i, powW_i, shlW_i, shrW_i, bitW_i, iaddW_i, imulW_i, ifdivW_i, ltW_i, leW_i, gtW_i, geW_i, eqW_i, neW_i, isW_n, isntW_n, isW_b, isntW_b, idxW_l, idxW_t, optW_s, optP_s, lenW_l, lenW_t, lenW_s, lenW_d, intW_i, intW_b, absW_i, maxW_i, minW_i, negW_i, listW_l, listW_t, tupleW_l, tupleW_t, sliceW_l, sliceW_t, isiW_1, optI_n, optI_s, truW_b, truW_i, truW_l, truW_t, truW_n, itW_l, itW_t, itW_r1, itW_r2, itW_r3, strW_i, itW_el, itW_et, itW_zl, itW_zt, itW_vl, itW_vt, tgW_n, tgW_t, setAll_c, setAll_n, List.map_cons, List.map_nil, List.cons_append, List.nil_append, List.append_nil, List.getElem?_cons_succ, List.getElem?_cons_zero, List.length_cons, List.length_nil, Nat.reduceAdd, Nat.reduceSub, List.replicate, List.set_cons_succ, List.set_cons_zero, mtW, mtTy, getW, bkW, dicW, revW, Sl_od, inW_d, notinW_d]
      refine ⟨⟨s1, s4⟩, ⟨s2, s3⟩, by decide, ?_⟩
      refine ixW_nat (by rw [pfl_len]; exact hij) ?_
      have ev : D.tup [D.int ((part (co o) (co b) i j (i + j)).1 + (co o i).1 * (co b j).1 - (co o i).2 * (co b j).2), D.int ((part (co o) (co b) i j (i + j)).2 + (co o i).1 * (co b j).2 + (co o i).2 * (co b j).1)] = ptD (pa (part (co o) (co b) i j (i + j)) (pm (co o i) (co b j))) := by
        unfold ptD pa pm
        rw [Int.add_sub_assoc, Int.add_assoc]
      rw [ev, pfl_set]
      ((first | (with_reducible refine Box.mk ?_) | skip); show WSs _ _ _ _; rw [WSs_n])
      have := part_s (f := co o) (g := co b) (i := i) (j := j)
      rw [← this] at hk2
      exact hk2 _ ⟨_, _, _, _, _, rfl⟩
    · rintro ρ ⟨y5, y7, y8, y9, y10, rfl⟩
      rw [Nat.zero_add, part_e fun k hk => co_end hk]
      ((first | (with_reducible refine Box.mk ?_) | skip); show WSs _ _ _ _; rw [WSs_n])
      exact hkk _ ⟨_, _, _, _, _, _, rfl⟩
  · rintro ρ ⟨y4, y5, y7, y8, y9, y10, rfl⟩
    rw [Nat.zero_add, hM, pfl_cv, cv_c]
    ((first | (with_reducible refine Box.mk ?_) | skip); show WSs _ (_ :: _) _ _; rw [WSs_cB]; simp only [wipeE, WCs, mkEnv, fnEnds, WS_raise, WS_try, WS_frz, WS_set, WS_setT, WS_par2, WS_par3, WS_aug, WS_expr, WS_ret, WS_retv, WS_retN, WS_if, WS_for, WS_while, WS_brk, WS_cont, WS_pass, WS_doc, WS_append, WS_extend, WS_popx, WS_setix, WS_augix, WS_setd, WS_rvs, WS_popset, WS_insert, extW_l, extW_t, insW_2, WE, WAs, WLs, WT, argK, argW, opW, opI, biW, Sl_v, Sl_o, csD, slW, ownW, if_true, if_false, addW_i, addW_l, addW_t, subW_i, mulW_i, mulW_l, mulW_t, fdivW_i, modW_i, powW_i, shlW_i, shrW_i, bitW_i, iaddW_i, imulW_i, ifdivW_i, ltW_i, leW_i, gtW_i, geW_i, eqW_i, neW_i, isW_n, isntW_n, isW_b, isntW_b, idxW_l, idxW_t, optW_s, optP_s, lenW_l, lenW_t, lenW_s, lenW_d, intW_i, intW_b, absW_i, maxW_i, minW_i, negW_i, listW_l, listW_t, tupleW_l, tupleW_t, sliceW_l, sliceW_t, isiW_1, optI_n, optI_s, truW_b, truW_i, truW_l, truW_t, truW_n, itW_l, itW_t, itW_r1, itW_r2, itW_r3, strW_i, itW_el, itW_et, itW_zl, itW_zt, itW_vl, itW_vt, tgW_n, tgW_t, setAll_c, setAll_n, List.map_cons, List.map_nil, List.cons_append, List.nil_append, List.append_nil, List.getElem?_cons_succ, List.getElem?_cons_zero, List.length_cons, List.length_nil, Nat.reduceAdd, Nat.reduceSub, List.replicate, List.set_cons_succ, List.set_cons_zero, mtW, mtTy, getW, bkW, dicW, revW, Sl_od, inW_d, notinW_d])
    refine lcW_of ptD (fun x => ptD (rotN t x)) (cv b o) [] (by rw [cv_len]; simp; unfold LIM; omega) (fun x hx kz hkz => fnW_mk rfl ⟨x, t, rfl, ht, hkz⟩) ?_
    rw [List.nil_append]
    have e2 : (cv b o).map (fun x => ptD (rotN t x)) = ptsD (wh o b t) := by
      unfold ptsD wh
      rw [List.map_map, cv_c]
      rfl
    rw [e2]
    exact hq
--FN _law_arrival
def sp_law_arrival : FSp := fun ds Q _ => ∃ (o a : List P) (B : Int) (t p s : Nat), ds = [.tup (ptsD o), lineD a, .int (t : Nat), .int (p : Nat), .int (s : Nat)] ∧ t < 4 ∧ s ≤ 1000 ∧ OL o a B ∧ Q (.own (ptsD (arr (wh o a t) p (s + o.length))))
abbrev G_law_arrival : Tab := tabOf [("_law_whole", sp_law_whole)] ["len", "range"] [] [] []
def put (w : List P) (p i m : Nat) : P := if p ≤ m ∧ m < p + i then co w (m - p) else p0
theorem pure_law_arrival : ∀ ds Q X, sp_law_arrival ds Q X → ds.length = 5 ∧ WSs G_law_arrival ms_law_arrival (mkEnv 8 ds) (fnEnds Q X) := by
  rintro ds Q X ⟨o, a, B, t, p, s, rfl, ht, hs, h, hq⟩
  refine ⟨rfl, ?_⟩
  have h1 := h.o1
  have h2 := h.o2
  have h3 := h.a1
  have h4 := h.a2
  simp only [ms_law_arrival, mkEnv, fnEnds, List.map_cons, List.map_nil, List.length_cons, List.length_nil, Nat.reduceAdd, Nat.reduceSub, List.replicate, List.cons_append, List.nil_append]
  have es : (s : Int) + (o.length : Int) = ((s + o.length : Nat) : Int) := by omega
  ((first | (with_reducible refine Box.mk ?_) | skip); show WSs _ (_ :: _) _ _; rw [WSs_cB]; simp only [wipeE, WCs, mkEnv, fnEnds, WS_raise, WS_try, WS_frz, WS_set, WS_setT, WS_par2, WS_par3, WS_aug, WS_expr, WS_ret, WS_retv, WS_retN, WS_if, WS_for, WS_while, WS_brk, WS_cont, WS_pass, WS_doc, WS_append, WS_extend, WS_popx, WS_setix, WS_augix, WS_setd, WS_rvs, WS_popset, WS_insert, extW_l, extW_t, insW_2, WE, WAs, WLs, WT, argK, argW, opW, opI, biW, Sl_v, Sl_o, csD, slW, ownW, if_true, if_false, addW_i, addW_l, addW_t, subW_i, mulW_i, mulW_l, mulW_t, fdivW_i, modW_i, powW_i, shlW_i, shrW_i, bitW_i, iaddW_i, imulW_i, ifdivW_i, ltW_i, leW_i, gtW_i, geW_i, eqW_i, neW_i, isW_n, isntW_n, isW_b, isntW_b, idxW_l, idxW_t, optW_s, optP_s, lenW_l, lenW_t, lenW_s, lenW_d, intW_i, intW_b, absW_i, maxW_i, minW_i, negW_i, listW_l, listW_t, tupleW_l, tupleW_t, sliceW_l, sliceW_t, isiW_1, optI_n, optI_s, truW_b, truW_i, truW_l, truW_t, truW_n, itW_l, itW_t, itW_r1, itW_r2, itW_r3, strW_i, itW_el, itW_et, itW_zl, itW_zt, itW_vl, itW_vt, tgW_n, tgW_t, setAll_c, setAll_n, List.map_cons, List.map_nil, List.cons_append, List.nil_append, List.append_nil, List.getElem?_cons_succ, List.getElem?_cons_zero, List.length_cons, List.length_nil, Nat.reduceAdd, Nat.reduceSub, List.replicate, List.set_cons_succ, List.set_cons_zero, mtW, mtTy, getW, bkW, dicW, revW, Sl_od, inW_d, notinW_d])
  simp only [pts_len, es]
  refine ⟨by decide, by decide, ⟨by omega, by omega, by unfold LIM; simp; omega⟩, ?_⟩
  rw [Int.toNat_natCast, pfl_0]
  ((first | (with_reducible refine Box.mk ?_) | skip); show WSs _ (_ :: _) _ _; rw [WSs_cB]; simp only [wipeE, WCs, mkEnv, fnEnds, WS_raise, WS_try, WS_frz, WS_set, WS_setT, WS_par2, WS_par3, WS_aug, WS_expr, WS_ret, WS_retv, WS_retN, WS_if, WS_for, WS_while, WS_brk, WS_cont, WS_pass, WS_doc, WS_append, WS_extend, WS_popx, WS_setix, WS_augix, WS_setd, WS_rvs, WS_popset, WS_insert, extW_l, extW_t, insW_2, WE, WAs, WLs, WT, argK, argW, opW, opI, biW, Sl_v, Sl_o, csD, slW, ownW, if_true, if_false, addW_i, addW_l, addW_t, subW_i, mulW_i, mulW_l, mulW_t, fdivW_i, modW_i, powW_i, shlW_i, shrW_i, bitW_i, iaddW_i, imulW_i, ifdivW_i, ltW_i, leW_i, gtW_i, geW_i, eqW_i, neW_i, isW_n, isntW_n, isW_b, isntW_b, idxW_l, idxW_t, optW_s, optP_s, lenW_l, lenW_t, lenW_s, lenW_d, intW_i, intW_b, absW_i, maxW_i, minW_i, negW_i, listW_l, listW_t, tupleW_l, tupleW_t, sliceW_l, sliceW_t, isiW_1, optI_n, optI_s, truW_b, truW_i, truW_l, truW_t, truW_n, itW_l, itW_t, itW_r1, itW_r2, itW_r3, strW_i, itW_el, itW_et, itW_zl, itW_zt, itW_vl, itW_vt, tgW_n, tgW_t, setAll_c, setAll_n, List.map_cons, List.map_nil, List.cons_append, List.nil_append, List.append_nil, List.getElem?_cons_succ, List.getElem?_cons_zero, List.length_cons, List.length_nil, Nat.reduceAdd, Nat.reduceSub, List.replicate, List.set_cons_succ, List.set_cons_zero, mtW, mtTy, getW, bkW, dicW, revW, Sl_od, inW_d, notinW_d])
  refine fnW_mk rfl ⟨o, a, B, t, rfl, ht, h, ?_⟩
  ((first | (with_reducible refine Box.mk ?_) | skip); show WSs _ (_ :: _) _ _; rw [WSs_cB]; simp only [wipeE, WCs, mkEnv, fnEnds, WS_raise, WS_try, WS_frz, WS_set, WS_setT, WS_par2, WS_par3, WS_aug, WS_expr, WS_ret, WS_retv, WS_retN, WS_if, WS_for, WS_while, WS_brk, WS_cont, WS_pass, WS_doc, WS_append, WS_extend, WS_popx, WS_setix, WS_augix, WS_setd, WS_rvs, WS_popset, WS_insert, extW_l, extW_t, insW_2, WE, WAs, WLs, WT, argK, argW, opW, opI, biW, Sl_v, Sl_o, csD, slW, ownW, if_true, if_false, addW_i, addW_l, addW_t, subW_i, mulW_i, mulW_l, mulW_t, fdivW_i, modW_i, powW_i, shlW_i, shrW_i, bitW_i, iaddW_i, imulW_i, ifdivW_i, ltW_i, leW_i, gtW_i, geW_i, eqW_i, neW_i, isW_n, isntW_n, isW_b, isntW_b, idxW_l, idxW_t, optW_s, optP_s, lenW_l, lenW_t, lenW_s, lenW_d, intW_i, intW_b, absW_i, maxW_i, minW_i, negW_i, listW_l, listW_t, tupleW_l, tupleW_t, sliceW_l, sliceW_t, isiW_1, optI_n, optI_s, truW_b, truW_i, truW_l, truW_t, truW_n, itW_l, itW_t, itW_r1, itW_r2, itW_r3, strW_i, itW_el, itW_et, itW_zl, itW_zt, itW_vl, itW_vt, tgW_n, tgW_t, setAll_c, setAll_n, List.map_cons, List.map_nil, List.cons_append, List.nil_append, List.append_nil, List.getElem?_cons_succ, List.getElem?_cons_zero, List.length_cons, List.length_nil, Nat.reduceAdd, Nat.reduceSub, List.replicate, List.set_cons_succ, List.set_cons_zero, mtW, mtTy, getW, bkW, dicW, revW, Sl_od, inW_d, notinW_d])
  generalize hw : wh o a t = w at hq ⊢
  have hwl : w.length ≤ 2000 := by rw [← hw, wh_len]; omega
  ((first | (with_reducible refine Box.mk ?_) | skip); show WSs _ (_ :: _) _ _; rw [WSs_cB]; simp only [wipeE, WCs, mkEnv, fnEnds, WS_raise, WS_try, WS_frz, WS_set, WS_setT, WS_par2, WS_par3, WS_aug, WS_expr, WS_ret, WS_retv, WS_retN, WS_if, WS_for, WS_while, WS_brk, WS_cont, WS_pass, WS_doc, WS_append, WS_extend, WS_popx, WS_setix, WS_augix, WS_setd, WS_rvs, WS_popset, WS_insert, extW_l, extW_t, insW_2, WE, WAs, WLs, WT, argK, argW, opW, opI, biW, Sl_v, Sl_o, csD, slW, ownW, if_true, if_false, addW_i, addW_l, addW_t, subW_i, mulW_i, mulW_l, mulW_t, fdivW_i, modW_i, powW_i, shlW_i, shrW_i, bitW_i, iaddW_i, imulW_i, ifdivW_i, ltW_i, leW_i, gtW_i, geW_i, eqW_i, neW_i, isW_n, isntW_n, isW_b, isntW_b, idxW_l, idxW_t, optW_s, optP_s, lenW_l, lenW_t, lenW_s, lenW_d, intW_i, intW_b, absW_i, maxW_i, minW_i, negW_i, listW_l, listW_t, tupleW_l, tupleW_t, sliceW_l, sliceW_t, isiW_1, optI_n, optI_s, truW_b, truW_i, truW_l, truW_t, truW_n, itW_l, itW_t, itW_r1, itW_r2, itW_r3, strW_i, itW_el, itW_et, itW_zl, itW_zt, itW_vl, itW_vt, tgW_n, tgW_t, setAll_c, setAll_n, List.map_cons, List.map_nil, List.cons_append, List.nil_append, List.append_nil, List.getElem?_cons_succ, List.getElem?_cons_zero, List.length_cons, List.length_nil, Nat.reduceAdd, Nat.reduceSub, List.replicate, List.set_cons_succ, List.set_cons_zero, mtW, mtTy, getW, bkW, dicW, revW, Sl_od, inW_d, notinW_d])
  simp only [pts_len]
  refine ⟨by unfold B62; omega, ?_⟩
  rw [Int.toNat_natCast, rgD_0]
  refine forW_rg (fun i ρ => ∃ y7 : Option Sl, ρ = [some (.val (.tup (ptsD o))), some (.val (lineD a)), some (.val (.int (t : Nat))), some (.val (.int (p : Nat))), some (.val (.int (s : Nat))), some (.own (pfl (s + o.length) (put w p i))), some (.val (.lst (ptsD w))), y7]) 0 w.length ⟨_, by
    have : put w p 0 = fun _ => p0 := by
      funext m
      unfold put
      rw [if_neg (by omega)]
    rw [this]⟩ ?_ ?_
  · rintro i ρ _ hi ⟨y7, rfl⟩ kk hkk
    have hi : i < w.length := by omega
    have e : (p : Int) + (i : Int) = ((p + i : Nat) : Int) := by omega
    simp only [wipeE, WCs, mkEnv, fnEnds, WS_raise, WS_try, WS_frz, WS_set, WS_setT, WS_par2, WS_par3, WS_aug, WS_expr, WS_ret, WS_retv, WS_retN, WS_if, WS_for, WS_while, WS_brk, WS_cont, WS_pass, WS_doc, WS_append, WS_extend, WS_popx, WS_setix, WS_augix, WS_setd, WS_rvs, WS_popset, WS_insert, extW_l, extW_t, insW_2, WE, WAs, WLs, WT, argK, argW, opW, opI, biW, Sl_v, Sl_o, csD, slW, ownW, if_true, if_false, addW_i, addW_l, addW_t, subW_i, mulW_i, mulW_l, mulW_t, fdivW_i, modW_i, powW_i, shlW_i, shrW_i, bitW_i, iaddW_i, imulW_i, ifdivW_i, ltW_i, leW_i, gtW_i, geW_i, eqW_i, neW_i, isW_n, isntW_n, isW_b, isntW_b, idxW_l, idxW_t, optW_s, optP_s, lenW_l, lenW_t, lenW_s, lenW_d, intW_i, intW_b, absW_i, maxW_i, minW_i, negW_i, listW_l, listW_t, tupleW_l, tupleW_t, sliceW_l, sliceW_t, isiW_1, optI_n, optI_s, truW_b, truW_i, truW_l, truW_t, truW_n, itW_l, itW_t, itW_r1, itW_r2, itW_r3, strW_i, itW_el, itW_et, itW_zl, itW_zt, itW_vl, itW_vt, tgW_n, tgW_t, setAll_c, setAll_n, List.map_cons, List.map_nil, List.cons_append, List.nil_append, List.append_nil, List.getElem?_cons_succ, List.getElem?_cons_zero, List.length_cons, List.length_nil, Nat.reduceAdd, Nat.reduceSub, List.replicate, List.set_cons_succ, List.set_cons_zero, mtW, mtTy, getW, bkW, dicW, revW, Sl_od, inW_d, notinW_d]
    ((first | (with_reducible refine Box.mk ?_) | skip); show WSs _ (_ :: _) _ _; rw [WSs_cB]; simp only [wipeE, WCs, mkEnv, fnEnds, WS_raise, WS_try, WS_frz, WS_set, WS_setT, WS_par2, WS_par3, WS_aug, WS_expr, WS_ret, WS_retv, WS_retN, WS_if, WS_for, WS_while, WS_brk, WS_cont, WS_pass, WS_doc, WS_append, WS_extend, WS_popx, WS_setix, WS_augix, WS_setd, WS_rvs, WS_popset, WS_insert, extW_l, extW_t, insW_2, WE, WAs, WLs, WT, argK, argW, opW, opI, biW, Sl_v, Sl_o, csD, slW, ownW, if_true, if_false, addW_i, addW_l, addW_t, subW_i, mulW_i, mulW_l, mulW_t, fdivW_i, modW_i, powW_i, shlW_i, shrW_i, bitW_i, iaddW_i, imulW_i, ifdivW_i, ltW_i, leW_i, gtW_i, geW_i, eqW_i, neW_i, isW_n, isntW_n, isW_b, isntW_b, idxW_l, idxW_t, optW_s, optP_s, lenW_l, lenW_t, lenW_s, lenW_d, intW_i, intW_b, absW_i, maxW_i, minW_i, negW_i, listW_l, listW_t, tupleW_l, tupleW_t, sliceW_l, sliceW_t, isiW_1, optI_n, optI_s, truW_b, truW_i, truW_l, truW_t, truW_n, itW_l, itW_t, itW_r1, itW_r2, itW_r3, strW_i, itW_el, itW_et, itW_zl, itW_zt, itW_vl, itW_vt, tgW_n, tgW_t, setAll_c, setAll_n, List.map_cons, List.map_nil, List.cons_append, List.nil_append, List.append_nil, List.getElem?_cons_succ, List.getElem?_cons_zero, List.length_cons, List.length_nil, Nat.reduceAdd, Nat.reduceSub, List.replicate, List.set_cons_succ, List.set_cons_zero, mtW, mtTy, getW, bkW, dicW, revW, Sl_od, inW_d, notinW_d])
    simp only [pfl_len, e]
    by_cases g : p + i < s + o.length
    · refine ite_t (decide_eq_true (by omega)) ?_
      ((first | (with_reducible refine Box.mk ?_) | skip); show WSs _ (_ :: _) _ _; rw [WSs_cB]; simp only [wipeE, WCs, mkEnv, fnEnds, WS_raise, WS_try, WS_frz, WS_set, WS_setT, WS_par2, WS_par3, WS_aug, WS_expr, WS_ret, WS_retv, WS_retN, WS_if, WS_for, WS_while, WS_brk, WS_cont, WS_pass, WS_doc, WS_append, WS_extend, WS_popx, WS_setix, WS_augix, WS_setd, WS_rvs, WS_popset, WS_insert, extW_l, extW_t, insW_2, WE, WAs, WLs, WT, argK, argW, opW, opI, biW, Sl_v, Sl_o, csD, slW, ownW, if_true, if_false, addW_i, addW_l, addW_t, subW_i, mulW_i, mulW_l, mulW_t, fdivW_i, modW_i, powW_i, shlW_i, shrW_i, bitW_i, iaddW_i, imulW_i, ifdivW_i, ltW_i, leW_i, gtW_i, geW_i, eqW_i, neW_i, isW_n, isntW_n, isW_b, isntW_b, idxW_l, idxW_t, optW_s, optP_s, lenW_l, lenW_t, lenW_s, lenW_d, intW_i, intW_b, absW_i, maxW_i, minW_i, negW_i, listW_l, listW_t, tupleW_l, tupleW_t, sliceW_l, sliceW_t, isiW_1, optI_n, optI_s, truW_b, truW_i, truW_l, truW_t, truW_n, itW_l, itW_t, itW_r1, itW_r2, itW_r3, strW_i, itW_el, itW_et, itW_zl, itW_zt, itW_vl, itW_vt, tgW_n, tgW_t, setAll_c, setAll_n, List.map_cons, List.map_nil, List.cons_append, List.nil_append, List.append_nil, List.getElem?_cons_succ, List.getElem?_cons_zero, List.length_cons, List.length_nil, Nat.reduceAdd, Nat.reduceSub, List.replicate, List.set_cons_succ, List.set_cons_zero, mtW, mtTy, getW, bkW, dicW, revW, Sl_od, inW_d, notinW_d])
      refine optA (pts_get hi) ?_
      simp only [wipeE, WCs, mkEnv, fnEnds, WS_raise, WS_try, WS_frz, WS_set, WS_setT, WS_par2, WS_par3, WS_aug, WS_expr, WS_ret, WS_retv, WS_retN, WS_if, WS_for, WS_while, WS_brk, WS_cont, WS_pass, WS_doc, WS_append, WS_extend, WS_popx, WS_setix, WS_augix, WS_setd, WS_rvs, WS_popset, WS_insert, extW_l, extW_t, insW_2, WE, WAs, WLs, WT, argK, argW, opW, opI, biW, Sl_v, Sl_o, csD, slW, ownW, if_true, if_false, addW_i, addW_l, addW_t, subW_i, mulW_i, mulW_l, mulW_t, fdivW_i, modW_i, powW_i, shlW_i, shrW_i, bitW_i, iaddW_i, imulW_i, ifdivW_i, ltW_i, leW_i, gtW_i, geW_i, eqW_i, neW_i, isW_n, isntW_n, isW_b, isntW_b, idxW_l, idxW_t, optW_s, optP_s, lenW_l, lenW_t, lenW_s, lenW_d, intW_i, intW_b, absW_i, maxW_i, minW_i, negW_i, listW_l, listW_t, tupleW_l, tupleW_t, sliceW_l, sliceW_t, isiW_1, optI_n, optI_s, truW_b, truW_i, truW_l, truW_t, truW_n, itW_l, itW_t, itW_r1, itW_r2, itW_r3, strW_i, itW_el, itW_et, itW_zl, itW_zt, itW_vl, itW_vt, tgW_n, tgW_t, setAll_c, setAll_n, List.map_cons, List.map_nil, List.cons_append, List.nil_append, List.append_nil, List.getElem?_cons_succ, List.getElem?_cons_zero, List.length_cons, List.length_nil, Nat.reduceAdd, Nat.reduceSub, List.replicate, List.set_cons_succ, List.set_cons_zero, mtW, mtTy, getW, bkW, dicW, revW, Sl_od, inW_d, notinW_d, e]
      refine ixW_nat (by rw [pfl_len]; exact g) ?_
      rw [pfl_set]
      ((first | (with_reducible refine Box.mk ?_) | skip); show WSs _ _ _ _; rw [WSs_n])
      ((first | (with_reducible refine Box.mk ?_) | skip); show WSs _ _ _ _; rw [WSs_n])
      have ez : (fun j => if j = p + i then co w i else put w p i j) = put w p (i + 1) := by
        funext m
        unfold put
        by_cases hm : m = p + i
        · rw [if_pos hm, if_pos (by omega), hm, Nat.add_sub_cancel_left]
        · rw [if_neg hm]
          by_cases k : p ≤ m ∧ m < p + i
          · rw [if_pos k, if_pos (by omega)]
          · rw [if_neg k, if_neg (by omega)]
      rw [ez]
      exact hkk _ ⟨_, rfl⟩
    · refine ite_f (decide_eq_false (by omega)) ?_
      ((first | (with_reducible refine Box.mk ?_) | skip); show WSs _ _ _ _; rw [WSs_n])
      ((first | (with_reducible refine Box.mk ?_) | skip); show WSs _ _ _ _; rw [WSs_n])
      have ez : pfl (s + o.length) (put w p i) = pfl (s + o.length) (put w p (i + 1)) := by
        unfold pfl
        apply List.map_congr_left
        intro m hm
        have hm := List.mem_range.mp hm
        congr 1
        unfold put
        by_cases k : p ≤ m ∧ m < p + i
        · rw [if_pos k, if_pos (by omega)]
        · rw [if_neg k, if_neg (by omega)]
      rw [ez]
      exact hkk _ ⟨_, rfl⟩
  · rintro ρ ⟨y7, rfl⟩
    rw [Nat.zero_add]
    ((first | (with_reducible refine Box.mk ?_) | skip); show WSs _ (_ :: _) _ _; rw [WSs_cB]; simp only [wipeE, WCs, mkEnv, fnEnds, WS_raise, WS_try, WS_frz, WS_set, WS_setT, WS_par2, WS_par3, WS_aug, WS_expr, WS_ret, WS_retv, WS_retN, WS_if, WS_for, WS_while, WS_brk, WS_cont, WS_pass, WS_doc, WS_append, WS_extend, WS_popx, WS_setix, WS_augix, WS_setd, WS_rvs, WS_popset, WS_insert, extW_l, extW_t, insW_2, WE, WAs, WLs, WT, argK, argW, opW, opI, biW, Sl_v, Sl_o, csD, slW, ownW, if_true, if_false, addW_i, addW_l, addW_t, subW_i, mulW_i, mulW_l, mulW_t, fdivW_i, modW_i, powW_i, shlW_i, shrW_i, bitW_i, iaddW_i, imulW_i, ifdivW_i, ltW_i, leW_i, gtW_i, geW_i, eqW_i, neW_i, isW_n, isntW_n, isW_b, isntW_b, idxW_l, idxW_t, optW_s, optP_s, lenW_l, lenW_t, lenW_s, lenW_d, intW_i, intW_b, absW_i, maxW_i, minW_i, negW_i, listW_l, listW_t, tupleW_l, tupleW_t, sliceW_l, sliceW_t, isiW_1, optI_n, optI_s, truW_b, truW_i, truW_l, truW_t, truW_n, itW_l, itW_t, itW_r1, itW_r2, itW_r3, strW_i, itW_el, itW_et, itW_zl, itW_zt, itW_vl, itW_vt, tgW_n, tgW_t, setAll_c, setAll_n, List.map_cons, List.map_nil, List.cons_append, List.nil_append, List.append_nil, List.getElem?_cons_succ, List.getElem?_cons_zero, List.length_cons, List.length_nil, Nat.reduceAdd, Nat.reduceSub, List.replicate, List.set_cons_succ, List.set_cons_zero, mtW, mtTy, getW, bkW, dicW, revW, Sl_od, inW_d, notinW_d])
    rw [pfl_pts (a := arr w p (s + o.length)) arr_len fun k hk => ?_]
    · exact hq
    · rw [arr_get hk]
      unfold put
      by_cases g : p ≤ k
      · rw [if_pos g]
        by_cases g2 : k < p + w.length
        · rw [if_pos ⟨g, g2⟩]
        · rw [if_neg (fun z => g2 z.2), co_end (by omega)]
      · rw [if_neg g, if_neg fun z => g z.1]
--FN _law_cost
def CS2 (r : List P) (s : List (Option P)) (p : Nat) : Prop := CS r s p SMALL
def sp_law_cost : FSp := fun ds Q _ => ∃ (r : List P) (s : List (Option P)) (p : Nat), ds = [.lst (ptsD r), smsD s, .int (p : Nat)] ∧ CS2 r s p ∧ Q (.val (.int (csum r s p r.length)))
abbrev G_law_cost : Tab := tabOf [] ["len", "range"] [] [] []
theorem pure_law_cost : ∀ ds Q X, sp_law_cost ds Q X → ds.length = 3 ∧ WSs G_law_cost ms_law_cost (mkEnv 7 ds) (fnEnds Q X) := by
  rintro ds Q X ⟨r, s, p, rfl, ⟨⟨hl, hl2⟩, hr, hs, hB⟩, hq⟩
  refine ⟨rfl, ?_⟩
  simp only [ms_law_cost, mkEnv, fnEnds, List.map_cons, List.map_nil, List.length_cons, List.length_nil, Nat.reduceAdd, Nat.reduceSub, List.replicate, List.cons_append, List.nil_append]
  ((first | (with_reducible refine Box.mk ?_) | skip); show WSs _ (_ :: _) _ _; rw [WSs_cB]; simp only [wipeE, WCs, mkEnv, fnEnds, WS_raise, WS_try, WS_frz, WS_set, WS_setT, WS_par2, WS_par3, WS_aug, WS_expr, WS_ret, WS_retv, WS_retN, WS_if, WS_for, WS_while, WS_brk, WS_cont, WS_pass, WS_doc, WS_append, WS_extend, WS_popx, WS_setix, WS_augix, WS_setd, WS_rvs, WS_popset, WS_insert, extW_l, extW_t, insW_2, WE, WAs, WLs, WT, argK, argW, opW, opI, biW, Sl_v, Sl_o, csD, slW, ownW, if_true, if_false, addW_i, addW_l, addW_t, subW_i, mulW_i, mulW_l, mulW_t, fdivW_i, modW_i, powW_i, shlW_i, shrW_i, bitW_i, iaddW_i, imulW_i, ifdivW_i, ltW_i, leW_i, gtW_i, geW_i, eqW_i, neW_i, isW_n, isntW_n, isW_b, isntW_b, idxW_l, idxW_t, optW_s, optP_s, lenW_l, lenW_t, lenW_s, lenW_d, intW_i, intW_b, absW_i, maxW_i, minW_i, negW_i, listW_l, listW_t, tupleW_l, tupleW_t, sliceW_l, sliceW_t, isiW_1, optI_n, optI_s, truW_b, truW_i, truW_l, truW_t, truW_n, itW_l, itW_t, itW_r1, itW_r2, itW_r3, strW_i, itW_el, itW_et, itW_zl, itW_zt, itW_vl, itW_vt, tgW_n, tgW_t, setAll_c, setAll_n, List.map_cons, List.map_nil, List.cons_append, List.nil_append, List.append_nil, List.getElem?_cons_succ, List.getElem?_cons_zero, List.length_cons, List.length_nil, Nat.reduceAdd, Nat.reduceSub, List.replicate, List.set_cons_succ, List.set_cons_zero, mtW, mtTy, getW, bkW, dicW, revW, Sl_od, inW_d, notinW_d])
  ((first | (with_reducible refine Box.mk ?_) | skip); show WSs _ (_ :: _) _ _; rw [WSs_cB]; simp only [wipeE, WCs, mkEnv, fnEnds, WS_raise, WS_try, WS_frz, WS_set, WS_setT, WS_par2, WS_par3, WS_aug, WS_expr, WS_ret, WS_retv, WS_retN, WS_if, WS_for, WS_while, WS_brk, WS_cont, WS_pass, WS_doc, WS_append, WS_extend, WS_popx, WS_setix, WS_augix, WS_setd, WS_rvs, WS_popset, WS_insert, extW_l, extW_t, insW_2, WE, WAs, WLs, WT, argK, argW, opW, opI, biW, Sl_v, Sl_o, csD, slW, ownW, if_true, if_false, addW_i, addW_l, addW_t, subW_i, mulW_i, mulW_l, mulW_t, fdivW_i, modW_i, powW_i, shlW_i, shrW_i, bitW_i, iaddW_i, imulW_i, ifdivW_i, ltW_i, leW_i, gtW_i, geW_i, eqW_i, neW_i, isW_n, isntW_n, isW_b, isntW_b, idxW_l, idxW_t, optW_s, optP_s, lenW_l, lenW_t, lenW_s, lenW_d, intW_i, intW_b, absW_i, maxW_i, minW_i, negW_i, listW_l, listW_t, tupleW_l, tupleW_t, sliceW_l, sliceW_t, isiW_1, optI_n, optI_s, truW_b, truW_i, truW_l, truW_t, truW_n, itW_l, itW_t, itW_r1, itW_r2, itW_r3, strW_i, itW_el, itW_et, itW_zl, itW_zt, itW_vl, itW_vt, tgW_n, tgW_t, setAll_c, setAll_n, List.map_cons, List.map_nil, List.cons_append, List.nil_append, List.append_nil, List.getElem?_cons_succ, List.getElem?_cons_zero, List.length_cons, List.length_nil, Nat.reduceAdd, Nat.reduceSub, List.replicate, List.set_cons_succ, List.set_cons_zero, mtW, mtTy, getW, bkW, dicW, revW, Sl_od, inW_d, notinW_d])
  simp only [pts_len]
  refine ⟨by unfold B62; omega, ?_⟩
  rw [Int.toNat_natCast, rgD_0]
  refine forW_rg (fun i ρ => ∃ y4 y5 y6 : Option Sl, ρ = [some (.val (.lst (ptsD r))), some (.val (smsD s)), some (.val (.int (p : Nat))), some (.val (.int (csum r s p i))), y4, y5, y6]) 0 r.length ⟨_, _, _, rfl⟩ ?_ ?_
  · rintro i ρ _ hi ⟨y4, y5, y6, rfl⟩ kk hkk
    have hi : i < r.length := by omega
    simp only [wipeE, WCs, mkEnv, fnEnds, WS_raise, WS_try, WS_frz, WS_set, WS_setT, WS_par2, WS_par3, WS_aug, WS_expr, WS_ret, WS_retv, WS_retN, WS_if, WS_for, WS_while, WS_brk, WS_cont, WS_pass, WS_doc, WS_append, WS_extend, WS_popx, WS_setix, WS_augix, WS_setd, WS_rvs, WS_popset, WS_insert, extW_l, extW_t, insW_2, WE, WAs, WLs, WT, argK, argW, opW, opI, biW, Sl_v, Sl_o, csD, slW, ownW, if_true, if_false, addW_i, addW_l, addW_t, subW_i, mulW_i, mulW_l, mulW_t, fdivW_i, modW_i, powW_i, shlW_i, shrW_i, bitW_i, iaddW_i, imulW_i, ifdivW_i, ltW_i, leW_i, gtW_i, geW_i, eqW_i, neW_i, isW_n, isntW_n, isW_b, isntW_b, idxW_l, idxW_t, optW_s, optP_s, lenW_l, lenW_t, lenW_s, lenW_d, intW_i, intW_b, absW_i, maxW_i, minW_i, negW_i, listW_l, listW_t, tupleW_l, tupleW_t, sliceW_l, sliceW_t, isiW_1, optI_n, optI_s, truW_b, truW_i, truW_l, truW_t, truW_n, itW_l, itW_t, itW_r1, itW_r2, itW_r3, strW_i, itW_el, itW_et, itW_zl, itW_zt, itW_vl, itW_vt, tgW_n, tgW_t, setAll_c, setAll_n, List.map_cons, List.map_nil, List.cons_append, List.nil_append, List.append_nil, List.getElem?_cons_succ, List.getElem?_cons_zero, List.length_cons, List.length_nil, Nat.reduceAdd, Nat.reduceSub, List.replicate, List.set_cons_succ, List.set_cons_zero, mtW, mtTy, getW, bkW, dicW, revW, Sl_od, inW_d, notinW_d]
    have e : (p : Int) + (i : Int) = ((p + i : Nat) : Int) := by omega
    ((first | (with_reducible refine Box.mk ?_) | skip); show WSs _ (_ :: _) _ _; rw [WSs_cB]; simp only [wipeE, WCs, mkEnv, fnEnds, WS_raise, WS_try, WS_frz, WS_set, WS_setT, WS_par2, WS_par3, WS_aug, WS_expr, WS_ret, WS_retv, WS_retN, WS_if, WS_for, WS_while, WS_brk, WS_cont, WS_pass, WS_doc, WS_append, WS_extend, WS_popx, WS_setix, WS_augix, WS_setd, WS_rvs, WS_popset, WS_insert, extW_l, extW_t, insW_2, WE, WAs, WLs, WT, argK, argW, opW, opI, biW, Sl_v, Sl_o, csD, slW, ownW, if_true, if_false, addW_i, addW_l, addW_t, subW_i, mulW_i, mulW_l, mulW_t, fdivW_i, modW_i, powW_i, shlW_i, shrW_i, bitW_i, iaddW_i, imulW_i, ifdivW_i, ltW_i, leW_i, gtW_i, geW_i, eqW_i, neW_i, isW_n, isntW_n, isW_b, isntW_b, idxW_l, idxW_t, optW_s, optP_s, lenW_l, lenW_t, lenW_s, lenW_d, intW_i, intW_b, absW_i, maxW_i, minW_i, negW_i, listW_l, listW_t, tupleW_l, tupleW_t, sliceW_l, sliceW_t, isiW_1, optI_n, optI_s, truW_b, truW_i, truW_l, truW_t, truW_n, itW_l, itW_t, itW_r1, itW_r2, itW_r3, strW_i, itW_el, itW_et, itW_zl, itW_zt, itW_vl, itW_vt, tgW_n, tgW_t, setAll_c, setAll_n, List.map_cons, List.map_nil, List.cons_append, List.nil_append, List.append_nil, List.getElem?_cons_succ, List.getElem?_cons_zero, List.length_cons, List.length_nil, Nat.reduceAdd, Nat.reduceSub, List.replicate, List.set_cons_succ, List.set_cons_zero, mtW, mtTy, getW, bkW, dicW, revW, Sl_od, inW_d, notinW_d])
    rw [e]
    refine idxW_ln (sms_get (by omega)) ?_
    simp only [wipeE, WCs, mkEnv, fnEnds, WS_raise, WS_try, WS_frz, WS_set, WS_setT, WS_par2, WS_par3, WS_aug, WS_expr, WS_ret, WS_retv, WS_retN, WS_if, WS_for, WS_while, WS_brk, WS_cont, WS_pass, WS_doc, WS_append, WS_extend, WS_popx, WS_setix, WS_augix, WS_setd, WS_rvs, WS_popset, WS_insert, extW_l, extW_t, insW_2, WE, WAs, WLs, WT, argK, argW, opW, opI, biW, Sl_v, Sl_o, csD, slW, ownW, if_true, if_false, addW_i, addW_l, addW_t, subW_i, mulW_i, mulW_l, mulW_t, fdivW_i, modW_i, powW_i, shlW_i, shrW_i, bitW_i, iaddW_i, imulW_i, ifdivW_i, ltW_i, leW_i, gtW_i, geW_i, eqW_i, neW_i, isW_n, isntW_n, isW_b, isntW_b, idxW_l, idxW_t, optW_s, optP_s, lenW_l, lenW_t, lenW_s, lenW_d, intW_i, intW_b, absW_i, maxW_i, minW_i, negW_i, listW_l, listW_t, tupleW_l, tupleW_t, sliceW_l, sliceW_t, isiW_1, optI_n, optI_s, truW_b, truW_i, truW_l, truW_t, truW_n, itW_l, itW_t, itW_r1, itW_r2, itW_r3, strW_i, itW_el, itW_et, itW_zl, itW_zt, itW_vl, itW_vt, tgW_n, tgW_t, setAll_c, setAll_n, List.map_cons, List.map_nil, List.cons_append, List.nil_append, List.append_nil, List.getElem?_cons_succ, List.getElem?_cons_zero, List.length_cons, List.length_nil, Nat.reduceAdd, Nat.reduceSub, List.replicate, List.set_cons_succ, List.set_cons_zero, mtW, mtTy, getW, bkW, dicW, revW, Sl_od, inW_d, notinW_d]
    cases hg : sg s (p + i) with
    | none =>
      refine ite_f rfl ?_
      ((first | (with_reducible refine Box.mk ?_) | skip); show WSs _ _ _ _; rw [WSs_n])
      ((first | (with_reducible refine Box.mk ?_) | skip); show WSs _ _ _ _; rw [WSs_n])
      have ez : csum r s p (i + 1) = csum r s p i := by rw [csum, hg]; exact Int.add_zero _
      exact hkk _ ⟨_, _, _, by rw [ez]⟩
    | some x =>
      refine ite_t rfl ?_
      ((first | (with_reducible refine Box.mk ?_) | skip); show WSs _ (_ :: _) _ _; rw [WSs_cB]; simp only [wipeE, WCs, mkEnv, fnEnds, WS_raise, WS_try, WS_frz, WS_set, WS_setT, WS_par2, WS_par3, WS_aug, WS_expr, WS_ret, WS_retv, WS_retN, WS_if, WS_for, WS_while, WS_brk, WS_cont, WS_pass, WS_doc, WS_append, WS_extend, WS_popx, WS_setix, WS_augix, WS_setd, WS_rvs, WS_popset, WS_insert, extW_l, extW_t, insW_2, WE, WAs, WLs, WT, argK, argW, opW, opI, biW, Sl_v, Sl_o, csD, slW, ownW, if_true, if_false, addW_i, addW_l, addW_t, subW_i, mulW_i, mulW_l, mulW_t, fdivW_i, modW_i, powW_i, shlW_i, shrW_i, bitW_i, iaddW_i, imulW_i, ifdivW_i, ltW_i, leW_i, gtW_i, geW_i, eqW_i, neW_i, isW_n, isntW_n, isW_b, isntW_b, idxW_l, idxW_t, optW_s, optP_s, lenW_l, lenW_t, lenW_s, lenW_d, intW_i, intW_b, absW_i, maxW_i, minW_i, negW_i, listW_l, listW_t, tupleW_l, tupleW_t, sliceW_l, sliceW_t, isiW_1, optI_n, optI_s, truW_b, truW_i, truW_l, truW_t, truW_n, itW_l, itW_t, itW_r1, itW_r2, itW_r3, strW_i, itW_el, itW_et, itW_zl, itW_zt, itW_vl, itW_vt, tgW_n, tgW_t, setAll_c, setAll_n, List.map_cons, List.map_nil, List.cons_append, List.nil_append, List.append_nil, List.getElem?_cons_succ, List.getElem?_cons_zero, List.length_cons, List.length_nil, Nat.reduceAdd, Nat.reduceSub, List.replicate, List.set_cons_succ, List.set_cons_zero, mtW, mtTy, getW, bkW, dicW, revW, Sl_od, inW_d, notinW_d])
      rw [e]
      refine idxW_ln (sms_get (by omega)) ?_
      rw [hg]
      rw [Sl_v, show smD (some x) = ptD x from rfl, pt_set]
      simp only [wipeE, WCs, mkEnv, fnEnds, WS_raise, WS_try, WS_frz, WS_set, WS_setT, WS_par2, WS_par3, WS_aug, WS_expr, WS_ret, WS_retv, WS_retN, WS_if, WS_for, WS_while, WS_brk, WS_cont, WS_pass, WS_doc, WS_append, WS_extend, WS_popx, WS_setix, WS_augix, WS_setd, WS_rvs, WS_popset, WS_insert, extW_l, extW_t, insW_2, WE, WAs, WLs, WT, argK, argW, opW, opI, biW, Sl_v, Sl_o, csD, slW, ownW, if_true, if_false, addW_i, addW_l, addW_t, subW_i, mulW_i, mulW_l, mulW_t, fdivW_i, modW_i, powW_i, shlW_i, shrW_i, bitW_i, iaddW_i, imulW_i, ifdivW_i, ltW_i, leW_i, gtW_i, geW_i, eqW_i, neW_i, isW_n, isntW_n, isW_b, isntW_b, idxW_l, idxW_t, optW_s, optP_s, lenW_l, lenW_t, lenW_s, lenW_d, intW_i, intW_b, absW_i, maxW_i, minW_i, negW_i, listW_l, listW_t, tupleW_l, tupleW_t, sliceW_l, sliceW_t, isiW_1, optI_n, optI_s, truW_b, truW_i, truW_l, truW_t, truW_n, itW_l, itW_t, itW_r1, itW_r2, itW_r3, strW_i, itW_el, itW_et, itW_zl, itW_zt, itW_vl, itW_vt, tgW_n, tgW_t, setAll_c, setAll_n, List.map_cons, List.map_nil, List.cons_append, List.nil_append, List.append_nil, List.getElem?_cons_succ, List.getElem?_cons_zero, List.length_cons, List.length_nil, Nat.reduceAdd, Nat.reduceSub, List.replicate, List.set_cons_succ, List.set_cons_zero, mtW, mtTy, getW, bkW, dicW, revW, Sl_od, inW_d, notinW_d]
      refine ⟨trivial, ?_⟩
      ((first | (with_reducible refine Box.mk ?_) | skip); show WSs _ (_ :: _) _ _; rw [WSs_cB]; simp only [wipeE, WCs, mkEnv, fnEnds, WS_raise, WS_try, WS_frz, WS_set, WS_setT, WS_par2, WS_par3, WS_aug, WS_expr, WS_ret, WS_retv, WS_retN, WS_if, WS_for, WS_while, WS_brk, WS_cont, WS_pass, WS_doc, WS_append, WS_extend, WS_popx, WS_setix, WS_augix, WS_setd, WS_rvs, WS_popset, WS_insert, extW_l, extW_t, insW_2, WE, WAs, WLs, WT, argK, argW, opW, opI, biW, Sl_v, Sl_o, csD, slW, ownW, if_true, if_false, addW_i, addW_l, addW_t, subW_i, mulW_i, mulW_l, mulW_t, fdivW_i, modW_i, powW_i, shlW_i, shrW_i, bitW_i, iaddW_i, imulW_i, ifdivW_i, ltW_i, leW_i, gtW_i, geW_i, eqW_i, neW_i, isW_n, isntW_n, isW_b, isntW_b, idxW_l, idxW_t, optW_s, optP_s, lenW_l, lenW_t, lenW_s, lenW_d, intW_i, intW_b, absW_i, maxW_i, minW_i, negW_i, listW_l, listW_t, tupleW_l, tupleW_t, sliceW_l, sliceW_t, isiW_1, optI_n, optI_s, truW_b, truW_i, truW_l, truW_t, truW_n, itW_l, itW_t, itW_r1, itW_r2, itW_r3, strW_i, itW_el, itW_et, itW_zl, itW_zt, itW_vl, itW_vt, tgW_n, tgW_t, setAll_c, setAll_n, List.map_cons, List.map_nil, List.cons_append, List.nil_append, List.append_nil, List.getElem?_cons_succ, List.getElem?_cons_zero, List.length_cons, List.length_nil, Nat.reduceAdd, Nat.reduceSub, List.replicate, List.set_cons_succ, List.set_cons_zero, mtW, mtTy, getW, bkW, dicW, revW, Sl_od, inW_d, notinW_d])
      refine optA (pts_get hi) ?_
      rw [Sl_v, px0]
      simp only [wipeE, WCs, mkEnv, fnEnds, WS_raise, WS_try, WS_frz, WS_set, WS_setT, WS_par2, WS_par3, WS_aug, WS_expr, WS_ret, WS_retv, WS_retN, WS_if, WS_for, WS_while, WS_brk, WS_cont, WS_pass, WS_doc, WS_append, WS_extend, WS_popx, WS_setix, WS_augix, WS_setd, WS_rvs, WS_popset, WS_insert, extW_l, extW_t, insW_2, WE, WAs, WLs, WT, argK, argW, opW, opI, biW, Sl_v, Sl_o, csD, slW, ownW, if_true, if_false, addW_i, addW_l, addW_t, subW_i, mulW_i, mulW_l, mulW_t, fdivW_i, modW_i, powW_i, shlW_i, shrW_i, bitW_i, iaddW_i, imulW_i, ifdivW_i, ltW_i, leW_i, gtW_i, geW_i, eqW_i, neW_i, isW_n, isntW_n, isW_b, isntW_b, idxW_l, idxW_t, optW_s, optP_s, lenW_l, lenW_t, lenW_s, lenW_d, intW_i, intW_b, absW_i, maxW_i, minW_i, negW_i, listW_l, listW_t, tupleW_l, tupleW_t, sliceW_l, sliceW_t, isiW_1, optI_n, optI_s, truW_b, truW_i, truW_l, truW_t, truW_n, itW_l, itW_t, itW_r1, itW_r2, itW_r3, strW_i, itW_el, itW_et, itW_zl, itW_zt, itW_vl, itW_vt, tgW_n, tgW_t, setAll_c, setAll_n, List.map_cons, List.map_nil, List.cons_append, List.nil_append, List.append_nil, List.getElem?_cons_succ, List.getElem?_cons_zero, List.length_cons, List.length_nil, Nat.reduceAdd, Nat.reduceSub, List.replicate, List.set_cons_succ, List.set_cons_zero, mtW, mtTy, getW, bkW, dicW, revW, Sl_od, inW_d, notinW_d]
      have hb := ps_bd (hs _ (sg_mem hg)) (hr _ (co_mem hi))
      obtain ⟨⟨q1, q2⟩, q3, q4⟩ := hb
      unfold SMALL ps at q1 q2 q3 q4
      simp only at q1 q2 q3 q4
      refine ⟨⟨by decide, by unfold small64'; omega⟩, ?_⟩
      refine optA (pts_get hi) ?_
      rw [Sl_v, px1]
      simp only [wipeE, WCs, mkEnv, fnEnds, WS_raise, WS_try, WS_frz, WS_set, WS_setT, WS_par2, WS_par3, WS_aug, WS_expr, WS_ret, WS_retv, WS_retN, WS_if, WS_for, WS_while, WS_brk, WS_cont, WS_pass, WS_doc, WS_append, WS_extend, WS_popx, WS_setix, WS_augix, WS_setd, WS_rvs, WS_popset, WS_insert, extW_l, extW_t, insW_2, WE, WAs, WLs, WT, argK, argW, opW, opI, biW, Sl_v, Sl_o, csD, slW, ownW, if_true, if_false, addW_i, addW_l, addW_t, subW_i, mulW_i, mulW_l, mulW_t, fdivW_i, modW_i, powW_i, shlW_i, shrW_i, bitW_i, iaddW_i, imulW_i, ifdivW_i, ltW_i, leW_i, gtW_i, geW_i, eqW_i, neW_i, isW_n, isntW_n, isW_b, isntW_b, idxW_l, idxW_t, optW_s, optP_s, lenW_l, lenW_t, lenW_s, lenW_d, intW_i, intW_b, absW_i, maxW_i, minW_i, negW_i, listW_l, listW_t, tupleW_l, tupleW_t, sliceW_l, sliceW_t, isiW_1, optI_n, optI_s, truW_b, truW_i, truW_l, truW_t, truW_n, itW_l, itW_t, itW_r1, itW_r2, itW_r3, strW_i, itW_el, itW_et, itW_zl, itW_zt, itW_vl, itW_vt, tgW_n, tgW_t, setAll_c, setAll_n, List.map_cons, List.map_nil, List.cons_append, List.nil_append, List.append_nil, List.getElem?_cons_succ, List.getElem?_cons_zero, List.length_cons, List.length_nil, Nat.reduceAdd, Nat.reduceSub, List.replicate, List.set_cons_succ, List.set_cons_zero, mtW, mtTy, getW, bkW, dicW, revW, Sl_od, inW_d, notinW_d]
      refine ⟨⟨by decide, by unfold small64'; omega⟩, ?_⟩
      ((first | (with_reducible refine Box.mk ?_) | skip); show WSs _ _ _ _; rw [WSs_n])
      ((first | (with_reducible refine Box.mk ?_) | skip); show WSs _ _ _ _; rw [WSs_n])
      have ez : csum r s p (i + 1) = csum r s p i + (x.1 - (co r i).1) ^ (2 : Int).toNat + (x.2 - (co r i).2) ^ (2 : Int).toNat := by
        rw [csum, hg]
        show csum r s p i + sq (ps (co r i) x) = _
        unfold sq ps
        show csum r s p i + (((co r i).1 - x.1) * ((co r i).1 - x.1) + ((co r i).2 - x.2) * ((co r i).2 - x.2)) = csum r s p i + (x.1 - (co r i).1) ^ 2 + (x.2 - (co r i).2) ^ 2
        grind
      rw [← ez]
      exact hkk _ ⟨_, _, _, rfl⟩
  · rintro ρ ⟨y4, y5, y6, rfl⟩
    rw [Nat.zero_add]
    ((first | (with_reducible refine Box.mk ?_) | skip); show WSs _ (_ :: _) _ _; rw [WSs_cB]; simp only [wipeE, WCs, mkEnv, fnEnds, WS_raise, WS_try, WS_frz, WS_set, WS_setT, WS_par2, WS_par3, WS_aug, WS_expr, WS_ret, WS_retv, WS_retN, WS_if, WS_for, WS_while, WS_brk, WS_cont, WS_pass, WS_doc, WS_append, WS_extend, WS_popx, WS_setix, WS_augix, WS_setd, WS_rvs, WS_popset, WS_insert, extW_l, extW_t, insW_2, WE, WAs, WLs, WT, argK, argW, opW, opI, biW, Sl_v, Sl_o, csD, slW, ownW, if_true, if_false, addW_i, addW_l, addW_t, subW_i, mulW_i, mulW_l, mulW_t, fdivW_i, modW_i, powW_i, shlW_i, shrW_i, bitW_i, iaddW_i, imulW_i, ifdivW_i, ltW_i, leW_i, gtW_i, geW_i, eqW_i, neW_i, isW_n, isntW_n, isW_b, isntW_b, idxW_l, idxW_t, optW_s, optP_s, lenW_l, lenW_t, lenW_s, lenW_d, intW_i, intW_b, absW_i, maxW_i, minW_i, negW_i, listW_l, listW_t, tupleW_l, tupleW_t, sliceW_l, sliceW_t, isiW_1, optI_n, optI_s, truW_b, truW_i, truW_l, truW_t, truW_n, itW_l, itW_t, itW_r1, itW_r2, itW_r3, strW_i, itW_el, itW_et, itW_zl, itW_zt, itW_vl, itW_vt, tgW_n, tgW_t, setAll_c, setAll_n, List.map_cons, List.map_nil, List.cons_append, List.nil_append, List.append_nil, List.getElem?_cons_succ, List.getElem?_cons_zero, List.length_cons, List.length_nil, Nat.reduceAdd, Nat.reduceSub, List.replicate, List.set_cons_succ, List.set_cons_zero, mtW, mtTy, getW, bkW, dicW, revW, Sl_od, inW_d, notinW_d])
    exact hq
end PL.K47

namespace PL.K47
open PySem PySem.Spec PyProof.Rows L2 PL
--FN cost
def gD (p t n : Nat) : D := .tup [.int (p : Nat), .int (t : Nat), .int (n : Nat)]
def sp_cost : FSp := fun ds Q _ => ∃ (o : List P) (L : D) (ls : List (List P)) (p t n : Nat) (s : List (Option P)) (B C : Int), ds = [.tup (ptsD o), L, gD p t n, smsD s] ∧ LnsD L ls ∧ (t ≤ 1000 ∧ n < ls.length) ∧ OL o (ls.getD n []) B ∧ CS (shp o (ls.getD n []) t) s p C ∧
  Q (.val (.int (csum (shp o (ls.getD n []) t) s p o.length)))
/-! dicts by pairs -/
def kD2 (q : Nat × Nat) : D := .tup [.int (q.1 : Nat), .int (q.2 : Nat)]
theorem eq_k2 (q r : Nat × Nat) : eqD (kD2 q) (kD2 r) = decide (q = r) := by
  unfold kD2
  rw [eqD, eqDs, eqDs, eqDs, eqD, eqD]
  obtain ⟨a, b⟩ := q
  obtain ⟨c, d⟩ := r
  by_cases h : a = c <;> by_cases k : b = d
  · subst h; subst k; simp
  · subst h
    rw [beq_false_of_ne (by omega : ((b : Nat) : Int) ≠ (d : Nat))]
    simp [k]
  · rw [beq_false_of_ne (by omega : ((a : Nat) : Int) ≠ (c : Nat))]
    simp [h]
  · rw [beq_false_of_ne (by omega : ((a : Nat) : Int) ≠ (c : Nat))]
    simp [h]
def kv (ks : List (Nat × Nat)) (f : Nat × Nat → D) : List (D × D) := ks.map fun q => (kD2 q, f q)
theorem kv_get {ks : List (Nat × Nat)} {f : Nat × Nat → D} {q : Nat × Nat} (h : q ∈ ks) : getD? (kv ks f) (kD2 q) = some (f q) := by
  unfold getD? kv
  induction ks with
  | nil => cases h
  | cons r ks ih =>
    rw [List.map_cons, List.find?_cons]
    simp only [eq_k2]
    by_cases e : r = q
    · rw [decide_eq_true e]
      subst e
      rfl
    · rw [decide_eq_false e]
      rcases List.mem_cons.mp h with z | z
      · exact absurd z.symm e
      · exact ih z
theorem kv_put {ks : List (Nat × Nat)} {f : Nat × Nat → D} {q : Nat × Nat} (h : q ∉ ks) : putD (kv ks f) (kD2 q) (f q) = kv (ks ++ [q]) f := by
  unfold putD kv
  have e : ((ks.map fun q => (kD2 q, f q)).any fun p => eqD p.1 (kD2 q)) = false := by
    rw [List.any_map, List.any_eq_false]
    intro r hr
    show ¬ (eqD (kD2 r) (kD2 q) = true)
    rw [eq_k2]
    intro z
    exact h (of_decide_eq_true z ▸ hr)
  rw [e, if_neg (by decide), List.map_append]
  rfl
theorem kv_idx {ks : List (Nat × Nat)} {f : Nat × Nat → D} {q : Nat × Nat} (h : q ∈ ks) {Q : QS} (k : Q (.val (f q))) : idxW (.dic true (kv ks f)) (kD2 q) Q := by
  refine ⟨rfl, ?_⟩
  rw [kv_get h]
  exact k
/-- turns and lines -/
def tn (n i : Nat) : List (Nat × Nat) := (List.range i).flatMap fun t => (List.range n).map fun k => (t, k)
theorem tn_s {n i : Nat} : tn n (i + 1) = tn n i ++ (List.range n).map fun k => (i, k) := by
  unfold tn
  rw [List.range_succ, List.flatMap_append, List.flatMap_cons, List.flatMap_nil, List.append_nil]
theorem tn_mem {n i : Nat} {q : Nat × Nat} : q ∈ tn n i ↔ q.1 < i ∧ q.2 < n := by
  unfold tn
  rw [List.mem_flatMap]
  constructor
  · rintro ⟨t, ht, hq⟩
    obtain ⟨k, hk, rfl⟩ := List.mem_map.mp hq
    exact ⟨List.mem_range.mp ht, List.mem_range.mp hk⟩
  · rintro ⟨a, b⟩
    exact ⟨q.1, List.mem_range.mpr a, List.mem_map.mpr ⟨q.2, List.mem_range.mpr b, rfl⟩⟩
theorem tn_len {n : Nat} : ∀ i, (tn n i).length = i * n
  | 0 => by simp [tn]
  | i + 1 => by rw [tn_s, List.length_append, tn_len i]; simp; grind
theorem kv_len {ks : List (Nat × Nat)} {f : Nat × Nat → D} : (kv ks f).length = ks.length := by simp [kv]
def shF (o : List P) (ls : List (List P)) (q : Nat × Nat) : D := .lst (ptsD (shp o (ls.getD q.2 []) q.1))
--FN _law_shapes
def lnsD (ls : List (List P)) : D := .lst (ls.map lineD)
theorem lnsD_is {ls : List (List P)} : LnsD (lnsD ls) ls := .inl rfl
def sp_law_shapes : FSp := fun ds Q _ => ∃ (o : List P) (ls : List (List P)) (B : Int), ds = [.tup (ptsD o), lnsD ls] ∧ ls.length ≤ 1000 ∧ (∀ n, n < ls.length → OL o (ls.getD n []) B) ∧ Q (.ownd true (kv (tn ls.length 4) (shF o ls)))
abbrev G_law_shapes : Tab := tabOf [("_law_whole", sp_law_whole)] ["len", "range"] [] [] []
theorem lns_l {ls : List (List P)} {Q : QS} : lenW [lnsD ls] Q = Q (.val (.int (ls.length : Nat))) := by
  unfold lnsD
  rw [lenW_l, List.length_map]
theorem pure_law_shapes : ∀ ds Q X, sp_law_shapes ds Q X → ds.length = 2 ∧ WSs G_law_shapes ms_law_shapes (mkEnv 5 ds) (fnEnds Q X) := by
  rintro ds Q X ⟨o, ls, B, rfl, hl, h, hq⟩
  refine ⟨rfl, ?_⟩
  simp only [ms_law_shapes, mkEnv, fnEnds, List.map_cons, List.map_nil, List.length_cons, List.length_nil, Nat.reduceAdd, Nat.reduceSub, List.replicate, List.cons_append, List.nil_append]
  ((first | (with_reducible refine Box.mk ?_) | skip); show WSs _ (_ :: _) _ _; rw [WSs_cB]; simp only [wipeE, WCs, mkEnv, fnEnds, WS_raise, WS_try, WS_frz, WS_set, WS_setT, WS_par2, WS_par3, WS_aug, WS_expr, WS_ret, WS_retv, WS_retN, WS_if, WS_for, WS_while, WS_brk, WS_cont, WS_pass, WS_doc, WS_append, WS_extend, WS_popx, WS_setix, WS_augix, WS_setd, WS_rvs, WS_popset, WS_insert, extW_l, extW_t, insW_2, WE, WAs, WLs, WT, argK, argW, opW, opI, biW, Sl_v, Sl_o, csD, slW, ownW, if_true, if_false, addW_i, addW_l, addW_t, subW_i, mulW_i, mulW_l, mulW_t, fdivW_i, modW_i, powW_i, shlW_i, shrW_i, bitW_i, iaddW_i, imulW_i, ifdivW_i, ltW_i, leW_i, gtW_i, geW_i, eqW_i, neW_i, isW_n, isntW_n, isW_b, isntW_b, idxW_l, idxW_t, optW_s, optP_s, lenW_l, lenW_t, lenW_s, lenW_d, intW_i, intW_b, absW_i, maxW_i, minW_i, negW_i, listW_l, listW_t, tupleW_l, tupleW_t, sliceW_l, sliceW_t, isiW_1, optI_n, optI_s, truW_b, truW_i, truW_l, truW_t, truW_n, itW_l, itW_t, itW_r1, itW_r2, itW_r3, strW_i, itW_el, itW_et, itW_zl, itW_zt, itW_vl, itW_vt, tgW_n, tgW_t, setAll_c, setAll_n, List.map_cons, List.map_nil, List.cons_append, List.nil_append, List.append_nil, List.getElem?_cons_succ, List.getElem?_cons_zero, List.length_cons, List.length_nil, Nat.reduceAdd, Nat.reduceSub, List.replicate, List.set_cons_succ, List.set_cons_zero, mtW, mtTy, getW, bkW, dicW, revW, Sl_od, inW_d, notinW_d])
  ((first | (with_reducible refine Box.mk ?_) | skip); show WSs _ (_ :: _) _ _; rw [WSs_cB]; simp only [wipeE, WCs, mkEnv, fnEnds, WS_raise, WS_try, WS_frz, WS_set, WS_setT, WS_par2, WS_par3, WS_aug, WS_expr, WS_ret, WS_retv, WS_retN, WS_if, WS_for, WS_while, WS_brk, WS_cont, WS_pass, WS_doc, WS_append, WS_extend, WS_popx, WS_setix, WS_augix, WS_setd, WS_rvs, WS_popset, WS_insert, extW_l, extW_t, insW_2, WE, WAs, WLs, WT, argK, argW, opW, opI, biW, Sl_v, Sl_o, csD, slW, ownW, if_true, if_false, addW_i, addW_l, addW_t, subW_i, mulW_i, mulW_l, mulW_t, fdivW_i, modW_i, powW_i, shlW_i, shrW_i, bitW_i, iaddW_i, imulW_i, ifdivW_i, ltW_i, leW_i, gtW_i, geW_i, eqW_i, neW_i, isW_n, isntW_n, isW_b, isntW_b, idxW_l, idxW_t, optW_s, optP_s, lenW_l, lenW_t, lenW_s, lenW_d, intW_i, intW_b, absW_i, maxW_i, minW_i, negW_i, listW_l, listW_t, tupleW_l, tupleW_t, sliceW_l, sliceW_t, isiW_1, optI_n, optI_s, truW_b, truW_i, truW_l, truW_t, truW_n, itW_l, itW_t, itW_r1, itW_r2, itW_r3, strW_i, itW_el, itW_et, itW_zl, itW_zt, itW_vl, itW_vt, tgW_n, tgW_t, setAll_c, setAll_n, List.map_cons, List.map_nil, List.cons_append, List.nil_append, List.append_nil, List.getElem?_cons_succ, List.getElem?_cons_zero, List.length_cons, List.length_nil, Nat.reduceAdd, Nat.reduceSub, List.replicate, List.set_cons_succ, List.set_cons_zero, mtW, mtTy, getW, bkW, dicW, revW, Sl_od, inW_d, notinW_d])
  refine ⟨by unfold B62; omega, ?_⟩
  rw [rgD_0]
  refine forW_rg (fun i ρ => ∃ y3 y4 : Option Sl, ρ = [some (.val (.tup (ptsD o))), some (.val (lnsD ls)), some (.ownd true (kv (tn ls.length i) (shF o ls))), y3, y4]) 0 4 ⟨_, _, rfl⟩ ?_ ?_
  · rintro i ρ _ hi ⟨y3, y4, rfl⟩ kk hkk
    simp only [wipeE, WCs, mkEnv, fnEnds, WS_raise, WS_try, WS_frz, WS_set, WS_setT, WS_par2, WS_par3, WS_aug, WS_expr, WS_ret, WS_retv, WS_retN, WS_if, WS_for, WS_while, WS_brk, WS_cont, WS_pass, WS_doc, WS_append, WS_extend, WS_popx, WS_setix, WS_augix, WS_setd, WS_rvs, WS_popset, WS_insert, extW_l, extW_t, insW_2, WE, WAs, WLs, WT, argK, argW, opW, opI, biW, Sl_v, Sl_o, csD, slW, ownW, if_true, if_false, addW_i, addW_l, addW_t, subW_i, mulW_i, mulW_l, mulW_t, fdivW_i, modW_i, powW_i, shlW_i, shrW_i, bitW_i, iaddW_i, imulW_i, ifdivW_i, ltW_i, leW_i, gtW_i, geW_i, eqW_i, neW_i, isW_n, isntW_n, isW_b, isntW_b, idxW_l, idxW_t, optW_s, optP_s, lenW_l, lenW_t, lenW_s, lenW_d, intW_i, intW_b, absW_i, maxW_i, minW_i, negW_i, listW_l, listW_t, tupleW_l, tupleW_t, sliceW_l, sliceW_t, isiW_1, optI_n, optI_s, truW_b, truW_i, truW_l, truW_t, truW_n, itW_l, itW_t, itW_r1, itW_r2, itW_r3, strW_i, itW_el, itW_et, itW_zl, itW_zt, itW_vl, itW_vt, tgW_n, tgW_t, setAll_c, setAll_n, List.map_cons, List.map_nil, List.cons_append, List.nil_append, List.append_nil, List.getElem?_cons_succ, List.getElem?_cons_zero, List.length_cons, List.length_nil, Nat.reduceAdd, Nat.reduceSub, List.replicate, List.set_cons_succ, List.set_cons_zero, mtW, mtTy, getW, bkW, dicW, revW, Sl_od, inW_d, notinW_d]
    ((first | (with_reducible refine Box.mk ?_) | skip); show WSs _ (_ :: _) _ _; rw [WSs_cB]; simp only [wipeE, WCs, mkEnv, fnEnds, WS_raise, WS_try, WS_frz, WS_set, WS_setT, WS_par2, WS_par3, WS_aug, WS_expr, WS_ret, WS_retv, WS_retN, WS_if, WS_for, WS_while, WS_brk, WS_cont, WS_pass, WS_doc, WS_append, WS_extend, WS_popx, WS_setix, WS_augix, WS_setd, WS_rvs, WS_popset, WS_insert, extW_l, extW_t, insW_2, WE, WAs, WLs, WT, argK, argW, opW, opI, biW, Sl_v, Sl_o, csD, slW, ownW, if_true, if_false, addW_i, addW_l, addW_t, subW_i, mulW_i, mulW_l, mulW_t, fdivW_i, modW_i, powW_i, shlW_i, shrW_i, bitW_i, iaddW_i, imulW_i, ifdivW_i, ltW_i, leW_i, gtW_i, geW_i, eqW_i, neW_i, isW_n, isntW_n, isW_b, isntW_b, idxW_l, idxW_t, optW_s, optP_s, lenW_l, lenW_t, lenW_s, lenW_d, intW_i, intW_b, absW_i, maxW_i, minW_i, negW_i, listW_l, listW_t, tupleW_l, tupleW_t, sliceW_l, sliceW_t, isiW_1, optI_n, optI_s, truW_b, truW_i, truW_l, truW_t, truW_n, itW_l, itW_t, itW_r1, itW_r2, itW_r3, strW_i, itW_el, itW_et, itW_zl, itW_zt, itW_vl, itW_vt, tgW_n, tgW_t, setAll_c, setAll_n, List.map_cons, List.map_nil, List.cons_append, List.nil_append, List.append_nil, List.getElem?_cons_succ, List.getElem?_cons_zero, List.length_cons, List.length_nil, Nat.reduceAdd, Nat.reduceSub, List.replicate, List.set_cons_succ, List.set_cons_zero, mtW, mtTy, getW, bkW, dicW, revW, Sl_od, inW_d, notinW_d])
    rw [lns_l]
    simp only [wipeE, WCs, mkEnv, fnEnds, WS_raise, WS_try, WS_frz, WS_set, WS_setT, WS_par2, WS_par3, WS_aug, WS_expr, WS_ret, WS_retv, WS_retN, WS_if, WS_for, WS_while, WS_brk, WS_cont, WS_pass, WS_doc, WS_append, WS_extend, WS_popx, WS_setix, WS_augix, WS_setd, WS_rvs, WS_popset, WS_insert, extW_l, extW_t, insW_2, WE, WAs, WLs, WT, argK, argW, opW, opI, biW, Sl_v, Sl_o, csD, slW, ownW, if_true, if_false, addW_i, addW_l, addW_t, subW_i, mulW_i, mulW_l, mulW_t, fdivW_i, modW_i, powW_i, shlW_i, shrW_i, bitW_i, iaddW_i, imulW_i, ifdivW_i, ltW_i, leW_i, gtW_i, geW_i, eqW_i, neW_i, isW_n, isntW_n, isW_b, isntW_b, idxW_l, idxW_t, optW_s, optP_s, lenW_l, lenW_t, lenW_s, lenW_d, intW_i, intW_b, absW_i, maxW_i, minW_i, negW_i, listW_l, listW_t, tupleW_l, tupleW_t, sliceW_l, sliceW_t, isiW_1, optI_n, optI_s, truW_b, truW_i, truW_l, truW_t, truW_n, itW_l, itW_t, itW_r1, itW_r2, itW_r3, strW_i, itW_el, itW_et, itW_zl, itW_zt, itW_vl, itW_vt, tgW_n, tgW_t, setAll_c, setAll_n, List.map_cons, List.map_nil, List.cons_append, List.nil_append, List.append_nil, List.getElem?_cons_succ, List.getElem?_cons_zero, List.length_cons, List.length_nil, Nat.reduceAdd, Nat.reduceSub, List.replicate, List.set_cons_succ, List.set_cons_zero, mtW, mtTy, getW, bkW, dicW, revW, Sl_od, inW_d, notinW_d]
    refine ⟨by unfold B62; omega, ?_⟩
    rw [Int.toNat_natCast, rgD_0]
    refine forW_rg (fun j ρ => ∃ y4 : Option Sl, ρ = [some (.val (.tup (ptsD o))), some (.val (lnsD ls)), some (.ownd true (kv (tn ls.length i ++ (List.range j).map fun k => (i, k)) (shF o ls))), some (.val (.int (i : Nat))), y4]) 0 ls.length ⟨_, by rw [List.range_zero, List.map_nil, List.append_nil]⟩ ?_ ?_
    · rintro j ρ _ hj ⟨y4, rfl⟩ k2 hk2
      have hj : j < ls.length := by omega
      simp only [wipeE, WCs, mkEnv, fnEnds, WS_raise, WS_try, WS_frz, WS_set, WS_setT, WS_par2, WS_par3, WS_aug, WS_expr, WS_ret, WS_retv, WS_retN, WS_if, WS_for, WS_while, WS_brk, WS_cont, WS_pass, WS_doc, WS_append, WS_extend, WS_popx, WS_setix, WS_augix, WS_setd, WS_rvs, WS_popset, WS_insert, extW_l, extW_t, insW_2, WE, WAs, WLs, WT, argK, argW, opW, opI, biW, Sl_v, Sl_o, csD, slW, ownW, if_true, if_false, addW_i, addW_l, addW_t, subW_i, mulW_i, mulW_l, mulW_t, fdivW_i, modW_i, powW_i, shlW_i, shrW_i, bitW_i, iaddW_i, imulW_i, ifdivW_i, ltW_i, leW_i, gtW_i, geW_i, eqW_i, neW_i, isW_n, isntW_n, isW_b, isntW_b, idxW_l, idxW_t, optW_s, optP_s, lenW_l, lenW_t, lenW_s, lenW_d, intW_i, intW_b, absW_i, maxW_i, minW_i, negW_i, listW_l, listW_t, tupleW_l, tupleW_t, sliceW_l, sliceW_t, isiW_1, optI_n, optI_s, truW_b, truW_i, truW_l, truW_t, truW_n, itW_l, itW_t, itW_r1, itW_r2, itW_r3, strW_i, itW_el, itW_et, itW_zl, itW_zt, itW_vl, itW_vt, tgW_n, tgW_t, setAll_c, setAll_n, List.map_cons, List.map_nil, List.cons_append, List.nil_append, List.append_nil, List.getElem?_cons_succ, List.getElem?_cons_zero, List.length_cons, List.length_nil, Nat.reduceAdd, Nat.reduceSub, List.replicate, List.set_cons_succ, List.set_cons_zero, mtW, mtTy, getW, bkW, dicW, revW, Sl_od, inW_d, notinW_d]
      ((first | (with_reducible refine Box.mk ?_) | skip); show WSs _ (_ :: _) _ _; rw [WSs_cB]; simp only [wipeE, WCs, mkEnv, fnEnds, WS_raise, WS_try, WS_frz, WS_set, WS_setT, WS_par2, WS_par3, WS_aug, WS_expr, WS_ret, WS_retv, WS_retN, WS_if, WS_for, WS_while, WS_brk, WS_cont, WS_pass, WS_doc, WS_append, WS_extend, WS_popx, WS_setix, WS_augix, WS_setd, WS_rvs, WS_popset, WS_insert, extW_l, extW_t, insW_2, WE, WAs, WLs, WT, argK, argW, opW, opI, biW, Sl_v, Sl_o, csD, slW, ownW, if_true, if_false, addW_i, addW_l, addW_t, subW_i, mulW_i, mulW_l, mulW_t, fdivW_i, modW_i, powW_i, shlW_i, shrW_i, bitW_i, iaddW_i, imulW_i, ifdivW_i, ltW_i, leW_i, gtW_i, geW_i, eqW_i, neW_i, isW_n, isntW_n, isW_b, isntW_b, idxW_l, idxW_t, optW_s, optP_s, lenW_l, lenW_t, lenW_s, lenW_d, intW_i, intW_b, absW_i, maxW_i, minW_i, negW_i, listW_l, listW_t, tupleW_l, tupleW_t, sliceW_l, sliceW_t, isiW_1, optI_n, optI_s, truW_b, truW_i, truW_l, truW_t, truW_n, itW_l, itW_t, itW_r1, itW_r2, itW_r3, strW_i, itW_el, itW_et, itW_zl, itW_zt, itW_vl, itW_vt, tgW_n, tgW_t, setAll_c, setAll_n, List.map_cons, List.map_nil, List.cons_append, List.nil_append, List.append_nil, List.getElem?_cons_succ, List.getElem?_cons_zero, List.length_cons, List.length_nil, Nat.reduceAdd, Nat.reduceSub, List.replicate, List.set_cons_succ, List.set_cons_zero, mtW, mtTy, getW, bkW, dicW, revW, Sl_od, inW_d, notinW_d])
      refine lns_idx lnsD_is hj ?_
      refine fnW_mk rfl ⟨o, _, B, i, rfl, by omega, h j hj, ?_⟩
      simp only [wipeE, WCs, mkEnv, fnEnds, WS_raise, WS_try, WS_frz, WS_set, WS_setT, WS_par2, WS_par3, WS_aug, WS_expr, WS_ret, WS_retv, WS_retN, WS_if, WS_for, WS_while, WS_brk, WS_cont, WS_pass, WS_doc, WS_append, WS_extend, WS_popx, WS_setix, WS_augix, WS_setd, WS_rvs, WS_popset, WS_insert, extW_l, extW_t, insW_2, WE, WAs, WLs, WT, argK, argW, opW, opI, biW, Sl_v, Sl_o, csD, slW, ownW, if_true, if_false, addW_i, addW_l, addW_t, subW_i, mulW_i, mulW_l, mulW_t, fdivW_i, modW_i, powW_i, shlW_i, shrW_i, bitW_i, iaddW_i, imulW_i, ifdivW_i, ltW_i, leW_i, gtW_i, geW_i, eqW_i, neW_i, isW_n, isntW_n, isW_b, isntW_b, idxW_l, idxW_t, optW_s, optP_s, lenW_l, lenW_t, lenW_s, lenW_d, intW_i, intW_b, absW_i, maxW_i, minW_i, negW_i, listW_l, listW_t, tupleW_l, tupleW_t, sliceW_l, sliceW_t, isiW_1, optI_n, optI_s, truW_b, truW_i, truW_l, truW_t, truW_n, itW_l, itW_t, itW_r1, itW_r2, itW_r3, strW_i, itW_el, itW_et, itW_zl, itW_zt, itW_vl, itW_vt, tgW_n, tgW_t, setAll_c, setAll_n, List.map_cons, List.map_nil, List.cons_append, List.nil_append, List.append_nil, List.getElem?_cons_succ, List.getElem?_cons_zero, List.length_cons, List.length_nil, Nat.reduceAdd, Nat.reduceSub, List.replicate, List.set_cons_succ, List.set_cons_zero, mtW, mtTy, getW, bkW, dicW, revW, Sl_od, inW_d, notinW_d, pts_len]
      rw [cut_to, ptsD_take]
      refine ⟨by decide, ⟨rfl, ?_⟩, ?_⟩
      · rw [kv_len, List.length_append, tn_len, List.length_map, List.length_range]
        unfold LIM
        have : i * ls.length ≤ 4 * 1000 := Nat.mul_le_mul (by omega) hl
        omega
      ((first | (with_reducible refine Box.mk ?_) | skip); show WSs _ _ _ _; rw [WSs_n])
      refine hk2 _ ⟨some (.val (.int (j : Nat))), ?_⟩
      have : putD (kv (tn ls.length i ++ (List.range j).map fun k => (i, k)) (shF o ls)) (kD2 (i, j)) (shF o ls (i, j)) = _ := kv_put fun z => by
        rcases List.mem_append.mp z with z | z
        · have := (tn_mem.mp z).1
          simp at this
        · obtain ⟨k, hk, e⟩ := List.mem_map.mp z
          have := List.mem_range.mp hk
          simp only [Prod.mk.injEq] at e
          omega
      rw [List.range_succ, List.map_append, ← List.append_assoc]
      exact congrArg (fun z => [some (Sl.val (.tup (ptsD o))), some (Sl.val (lnsD ls)), some (Sl.ownd true z), some (Sl.val (.int (i : Nat))), some (Sl.val (.int (j : Nat)))]) this
    · rintro ρ ⟨y4, rfl⟩
      rw [Nat.zero_add]
      ((first | (with_reducible refine Box.mk ?_) | skip); show WSs _ _ _ _; rw [WSs_n])
      refine hkk _ ⟨some (.val (.int (i : Nat))), y4, ?_⟩
      rw [tn_s]
  · rintro ρ ⟨y3, y4, rfl⟩
    ((first | (with_reducible refine Box.mk ?_) | skip); show WSs _ (_ :: _) _ _; rw [WSs_cB]; simp only [wipeE, WCs, mkEnv, fnEnds, WS_raise, WS_try, WS_frz, WS_set, WS_setT, WS_par2, WS_par3, WS_aug, WS_expr, WS_ret, WS_retv, WS_retN, WS_if, WS_for, WS_while, WS_brk, WS_cont, WS_pass, WS_doc, WS_append, WS_extend, WS_popx, WS_setix, WS_augix, WS_setd, WS_rvs, WS_popset, WS_insert, extW_l, extW_t, insW_2, WE, WAs, WLs, WT, argK, argW, opW, opI, biW, Sl_v, Sl_o, csD, slW, ownW, if_true, if_false, addW_i, addW_l, addW_t, subW_i, mulW_i, mulW_l, mulW_t, fdivW_i, modW_i, powW_i, shlW_i, shrW_i, bitW_i, iaddW_i, imulW_i, ifdivW_i, ltW_i, leW_i, gtW_i, geW_i, eqW_i, neW_i, isW_n, isntW_n, isW_b, isntW_b, idxW_l, idxW_t, optW_s, optP_s, lenW_l, lenW_t, lenW_s, lenW_d, intW_i, intW_b, absW_i, maxW_i, minW_i, negW_i, listW_l, listW_t, tupleW_l, tupleW_t, sliceW_l, sliceW_t, isiW_1, optI_n, optI_s, truW_b, truW_i, truW_l, truW_t, truW_n, itW_l, itW_t, itW_r1, itW_r2, itW_r3, strW_i, itW_el, itW_et, itW_zl, itW_zt, itW_vl, itW_vt, tgW_n, tgW_t, setAll_c, setAll_n, List.map_cons, List.map_nil, List.cons_append, List.nil_append, List.append_nil, List.getElem?_cons_succ, List.getElem?_cons_zero, List.length_cons, List.length_nil, Nat.reduceAdd, Nat.reduceSub, List.replicate, List.set_cons_succ, List.set_cons_zero, mtW, mtTy, getW, bkW, dicW, revW, Sl_od, inW_d, notinW_d])
    exact hq
--FN _law_guesses
def g1 (n p t : Nat) : List D := (List.range n).map fun k => gD p t k
def g2 (n p i : Nat) : List D := (List.range i).flatMap fun t => g1 n p t
def gs (n i : Nat) : List D := (List.range i).flatMap fun p => g2 n p 4
theorem g2_s {n p i : Nat} : g2 n p (i + 1) = g2 n p i ++ g1 n p i := by
  unfold g2
  rw [List.range_succ, List.flatMap_append, List.flatMap_cons, List.flatMap_nil, List.append_nil]
theorem gs_s {n i : Nat} : gs n (i + 1) = gs n i ++ g2 n i 4 := by
  unfold gs
  rw [List.range_succ, List.flatMap_append, List.flatMap_cons, List.flatMap_nil, List.append_nil]
theorem g1_len {n p t : Nat} : (g1 n p t).length = n := by simp [g1]
theorem g2_len {n p : Nat} : ∀ i, (g2 n p i).length = i * n
  | 0 => by simp [g2]
  | i + 1 => by rw [g2_s, List.length_append, g2_len i, g1_len]; grind
theorem gs_len {n : Nat} : ∀ i, (gs n i).length = i * (4 * n)
  | 0 => by simp [gs]
  | i + 1 => by rw [gs_s, List.length_append, gs_len i, g2_len]; grind
theorem gs_mem {n i : Nat} {x : D} : x ∈ gs n i ↔ ∃ p t k, p < i ∧ t < 4 ∧ k < n ∧ x = gD p t k := by
  unfold gs g2 g1
  constructor
  · intro h
    obtain ⟨p, hp, h⟩ := List.mem_flatMap.mp h
    obtain ⟨t, ht, h⟩ := List.mem_flatMap.mp h
    obtain ⟨k, hk, rfl⟩ := List.mem_map.mp h
    exact ⟨p, t, k, List.mem_range.mp hp, List.mem_range.mp ht, List.mem_range.mp hk, rfl⟩
  · rintro ⟨p, t, k, hp, ht, hk, rfl⟩
    exact List.mem_flatMap.mpr ⟨p, List.mem_range.mpr hp, List.mem_flatMap.mpr ⟨t, List.mem_range.mpr ht, List.mem_map.mpr ⟨k, List.mem_range.mpr hk, rfl⟩⟩⟩
theorem gs_bound {n s i t k : Nat} (hn : n ≤ 100) (hs : s ≤ 1000) (hi : i ≤ s) (ht : t ≤ 4) (hk : k ≤ n) : i * (4 * n) + t * n + k ≤ 500000 := by
  have h1 : i * (4 * n) ≤ 1000 * (4 * 100) := Nat.mul_le_mul (by omega) (by omega)
  have h2 : t * n ≤ 4 * 100 := Nat.mul_le_mul ht hn
  omega
def sp_law_guesses : FSp := fun ds Q _ => ∃ (ls : List (List P)) (s : Nat), ds = [lnsD ls, .int (s : Nat)] ∧ ls.length ≤ 100 ∧ s ≤ 999 ∧ Q (.val (.lst (gs ls.length (s + 1))))
abbrev G_law_guesses : Tab := tabOf [] ["len", "range"] [] [] []
theorem pure_law_guesses : ∀ ds Q X, sp_law_guesses ds Q X → ds.length = 2 ∧ WSs G_law_guesses ms_law_guesses (mkEnv 6 ds) (fnEnds Q X) := by
  rintro ds Q X ⟨ls, s, rfl, hl, hs, hq⟩
  refine ⟨rfl, ?_⟩
  simp only [ms_law_guesses, mkEnv, fnEnds, List.map_cons, List.map_nil, List.length_cons, List.length_nil, Nat.reduceAdd, Nat.reduceSub, List.replicate, List.cons_append, List.nil_append]
  ((first | (with_reducible refine Box.mk ?_) | skip); show WSs _ (_ :: _) _ _; rw [WSs_cB]; simp only [wipeE, WCs, mkEnv, fnEnds, WS_raise, WS_try, WS_frz, WS_set, WS_setT, WS_par2, WS_par3, WS_aug, WS_expr, WS_ret, WS_retv, WS_retN, WS_if, WS_for, WS_while, WS_brk, WS_cont, WS_pass, WS_doc, WS_append, WS_extend, WS_popx, WS_setix, WS_augix, WS_setd, WS_rvs, WS_popset, WS_insert, extW_l, extW_t, insW_2, WE, WAs, WLs, WT, argK, argW, opW, opI, biW, Sl_v, Sl_o, csD, slW, ownW, if_true, if_false, addW_i, addW_l, addW_t, subW_i, mulW_i, mulW_l, mulW_t, fdivW_i, modW_i, powW_i, shlW_i, shrW_i, bitW_i, iaddW_i, imulW_i, ifdivW_i, ltW_i, leW_i, gtW_i, geW_i, eqW_i, neW_i, isW_n, isntW_n, isW_b, isntW_b, idxW_l, idxW_t, optW_s, optP_s, lenW_l, lenW_t, lenW_s, lenW_d, intW_i, intW_b, absW_i, maxW_i, minW_i, negW_i, listW_l, listW_t, tupleW_l, tupleW_t, sliceW_l, sliceW_t, isiW_1, optI_n, optI_s, truW_b, truW_i, truW_l, truW_t, truW_n, itW_l, itW_t, itW_r1, itW_r2, itW_r3, strW_i, itW_el, itW_et, itW_zl, itW_zt, itW_vl, itW_vt, tgW_n, tgW_t, setAll_c, setAll_n, List.map_cons, List.map_nil, List.cons_append, List.nil_append, List.append_nil, List.getElem?_cons_succ, List.getElem?_cons_zero, List.length_cons, List.length_nil, Nat.reduceAdd, Nat.reduceSub, List.replicate, List.set_cons_succ, List.set_cons_zero, mtW, mtTy, getW, bkW, dicW, revW, Sl_od, inW_d, notinW_d])
  refine ⟨by decide, ?_⟩
  ((first | (with_reducible refine Box.mk ?_) | skip); show WSs _ (_ :: _) _ _; rw [WSs_cB]; simp only [wipeE, WCs, mkEnv, fnEnds, WS_raise, WS_try, WS_frz, WS_set, WS_setT, WS_par2, WS_par3, WS_aug, WS_expr, WS_ret, WS_retv, WS_retN, WS_if, WS_for, WS_while, WS_brk, WS_cont, WS_pass, WS_doc, WS_append, WS_extend, WS_popx, WS_setix, WS_augix, WS_setd, WS_rvs, WS_popset, WS_insert, extW_l, extW_t, insW_2, WE, WAs, WLs, WT, argK, argW, opW, opI, biW, Sl_v, Sl_o, csD, slW, ownW, if_true, if_false, addW_i, addW_l, addW_t, subW_i, mulW_i, mulW_l, mulW_t, fdivW_i, modW_i, powW_i, shlW_i, shrW_i, bitW_i, iaddW_i, imulW_i, ifdivW_i, ltW_i, leW_i, gtW_i, geW_i, eqW_i, neW_i, isW_n, isntW_n, isW_b, isntW_b, idxW_l, idxW_t, optW_s, optP_s, lenW_l, lenW_t, lenW_s, lenW_d, intW_i, intW_b, absW_i, maxW_i, minW_i, negW_i, listW_l, listW_t, tupleW_l, tupleW_t, sliceW_l, sliceW_t, isiW_1, optI_n, optI_s, truW_b, truW_i, truW_l, truW_t, truW_n, itW_l, itW_t, itW_r1, itW_r2, itW_r3, strW_i, itW_el, itW_et, itW_zl, itW_zt, itW_vl, itW_vt, tgW_n, tgW_t, setAll_c, setAll_n, List.map_cons, List.map_nil, List.cons_append, List.nil_append, List.append_nil, List.getElem?_cons_succ, List.getElem?_cons_zero, List.length_cons, List.length_nil, Nat.reduceAdd, Nat.reduceSub, List.replicate, List.set_cons_succ, List.set_cons_zero, mtW, mtTy, getW, bkW, dicW, revW, Sl_od, inW_d, notinW_d])
  ((first | (with_reducible refine Box.mk ?_) | skip); show WSs _ (_ :: _) _ _; rw [WSs_cB]; simp only [wipeE, WCs, mkEnv, fnEnds, WS_raise, WS_try, WS_frz, WS_set, WS_setT, WS_par2, WS_par3, WS_aug, WS_expr, WS_ret, WS_retv, WS_retN, WS_if, WS_for, WS_while, WS_brk, WS_cont, WS_pass, WS_doc, WS_append, WS_extend, WS_popx, WS_setix, WS_augix, WS_setd, WS_rvs, WS_popset, WS_insert, extW_l, extW_t, insW_2, WE, WAs, WLs, WT, argK, argW, opW, opI, biW, Sl_v, Sl_o, csD, slW, ownW, if_true, if_false, addW_i, addW_l, addW_t, subW_i, mulW_i, mulW_l, mulW_t, fdivW_i, modW_i, powW_i, shlW_i, shrW_i, bitW_i, iaddW_i, imulW_i, ifdivW_i, ltW_i, leW_i, gtW_i, geW_i, eqW_i, neW_i, isW_n, isntW_n, isW_b, isntW_b, idxW_l, idxW_t, optW_s, optP_s, lenW_l, lenW_t, lenW_s, lenW_d, intW_i, intW_b, absW_i, maxW_i, minW_i, negW_i, listW_l, listW_t, tupleW_l, tupleW_t, sliceW_l, sliceW_t, isiW_1, optI_n, optI_s, truW_b, truW_i, truW_l, truW_t, truW_n, itW_l, itW_t, itW_r1, itW_r2, itW_r3, strW_i, itW_el, itW_et, itW_zl, itW_zt, itW_vl, itW_vt, tgW_n, tgW_t, setAll_c, setAll_n, List.map_cons, List.map_nil, List.cons_append, List.nil_append, List.append_nil, List.getElem?_cons_succ, List.getElem?_cons_zero, List.length_cons, List.length_nil, Nat.reduceAdd, Nat.reduceSub, List.replicate, List.set_cons_succ, List.set_cons_zero, mtW, mtTy, getW, bkW, dicW, revW, Sl_od, inW_d, notinW_d])
  refine ⟨by unfold B62; omega, ?_⟩
  have es : ((s : Int) + 1).toNat = s + 1 := by omega
  rw [es, rgD_0]
  refine forW_rg (fun i ρ => ∃ y3 y4 y5 : Option Sl, ρ = [some (.val (lnsD ls)), some (.val (.int (s : Nat))), some (.val (.lst (gs ls.length i))), y3, y4, y5]) 0 (s + 1) ⟨_, _, _, rfl⟩ ?_ ?_
  · rintro i ρ _ hi ⟨y3, y4, y5, rfl⟩ kk hkk
    simp only [wipeE, WCs, mkEnv, fnEnds, WS_raise, WS_try, WS_frz, WS_set, WS_setT, WS_par2, WS_par3, WS_aug, WS_expr, WS_ret, WS_retv, WS_retN, WS_if, WS_for, WS_while, WS_brk, WS_cont, WS_pass, WS_doc, WS_append, WS_extend, WS_popx, WS_setix, WS_augix, WS_setd, WS_rvs, WS_popset, WS_insert, extW_l, extW_t, insW_2, WE, WAs, WLs, WT, argK, argW, opW, opI, biW, Sl_v, Sl_o, csD, slW, ownW, if_true, if_false, addW_i, addW_l, addW_t, subW_i, mulW_i, mulW_l, mulW_t, fdivW_i, modW_i, powW_i, shlW_i, shrW_i, bitW_i, iaddW_i, imulW_i, ifdivW_i, ltW_i, leW_i, gtW_i, geW_i, eqW_i, neW_i, isW_n, isntW_n, isW_b, isntW_b, idxW_l, idxW_t, optW_s, optP_s, lenW_l, lenW_t, lenW_s, lenW_d, intW_i, intW_b, absW_i, maxW_i, minW_i, negW_i, listW_l, listW_t, tupleW_l, tupleW_t, sliceW_l, sliceW_t, isiW_1, optI_n, optI_s, truW_b, truW_i, truW_l, truW_t, truW_n, itW_l, itW_t, itW_r1, itW_r2, itW_r3, strW_i, itW_el, itW_et, itW_zl, itW_zt, itW_vl, itW_vt, tgW_n, tgW_t, setAll_c, setAll_n, List.map_cons, List.map_nil, List.cons_append, List.nil_append, List.append_nil, List.getElem?_cons_succ, List.getElem?_cons_zero, List.length_cons, List.length_nil, Nat.reduceAdd, Nat.reduceSub, List.replicate, List.set_cons_succ, List.set_cons_zero, mtW, mtTy, getW, bkW, dicW, revW, Sl_od, inW_d, notinW_d]
    ((first | (with_reducible refine Box.mk ?_) | skip); show WSs _ (_ :: _) _ _; rw [WSs_cB]; simp only [wipeE, WCs, mkEnv, fnEnds, WS_raise, WS_try, WS_frz, WS_set, WS_setT, WS_par2, WS_par3, WS_aug, WS_expr, WS_ret, WS_retv, WS_retN, WS_if, WS_for, WS_while, WS_brk, WS_cont, WS_pass, WS_doc, WS_append, WS_extend, WS_popx, WS_setix, WS_augix, WS_setd, WS_rvs, WS_popset, WS_insert, extW_l, extW_t, insW_2, WE, WAs, WLs, WT, argK, argW, opW, opI, biW, Sl_v, Sl_o, csD, slW, ownW, if_true, if_false, addW_i, addW_l, addW_t, subW_i, mulW_i, mulW_l, mulW_t, fdivW_i, modW_i, powW_i, shlW_i, shrW_i, bitW_i, iaddW_i, imulW_i, ifdivW_i, ltW_i, leW_i, gtW_i, geW_i, eqW_i, neW_i, isW_n, isntW_n, isW_b, isntW_b, idxW_l, idxW_t, optW_s, optP_s, lenW_l, lenW_t, lenW_s, lenW_d, intW_i, intW_b, absW_i, maxW_i, minW_i, negW_i, listW_l, listW_t, tupleW_l, tupleW_t, sliceW_l, sliceW_t, isiW_1, optI_n, optI_s, truW_b, truW_i, truW_l, truW_t, truW_n, itW_l, itW_t, itW_r1, itW_r2, itW_r3, strW_i, itW_el, itW_et, itW_zl, itW_zt, itW_vl, itW_vt, tgW_n, tgW_t, setAll_c, setAll_n, List.map_cons, List.map_nil, List.cons_append, List.nil_append, List.append_nil, List.getElem?_cons_succ, List.getElem?_cons_zero, List.length_cons, List.length_nil, Nat.reduceAdd, Nat.reduceSub, List.replicate, List.set_cons_succ, List.set_cons_zero, mtW, mtTy, getW, bkW, dicW, revW, Sl_od, inW_d, notinW_d])
    refine ⟨by unfold B62; omega, ?_⟩
    rw [rgD_0]
    refine forW_rg (fun j ρ => ∃ y4 y5 : Option Sl, ρ = [some (.val (lnsD ls)), some (.val (.int (s : Nat))), some (.val (.lst (gs ls.length i ++ g2 ls.length i j))), some (.val (.int (i : Nat))), y4, y5]) 0 4 ⟨_, _, by
      rw [show g2 ls.length i 0 = [] from rfl, List.append_nil]⟩ ?_ ?_
    · rintro j ρ _ hj ⟨y4, y5, rfl⟩ k2 hk2
      simp only [wipeE, WCs, mkEnv, fnEnds, WS_raise, WS_try, WS_frz, WS_set, WS_setT, WS_par2, WS_par3, WS_aug, WS_expr, WS_ret, WS_retv, WS_retN, WS_if, WS_for, WS_while, WS_brk, WS_cont, WS_pass, WS_doc, WS_append, WS_extend, WS_popx, WS_setix, WS_augix, WS_setd, WS_rvs, WS_popset, WS_insert, extW_l, extW_t, insW_2, WE, WAs, WLs, WT, argK, argW, opW, opI, biW, Sl_v, Sl_o, csD, slW, ownW, if_true, if_false, addW_i, addW_l, addW_t, subW_i, mulW_i, mulW_l, mulW_t, fdivW_i, modW_i, powW_i, shlW_i, shrW_i, bitW_i, iaddW_i, imulW_i, ifdivW_i, ltW_i, leW_i, gtW_i, geW_i, eqW_i, neW_i, isW_n, isntW_n, isW_b, isntW_b, idxW_l, idxW_t, optW_s, optP_s, lenW_l, lenW_t, lenW_s, lenW_d, intW_i, intW_b, absW_i, maxW_i, minW_i, negW_i, listW_l, listW_t, tupleW_l, tupleW_t, sliceW_l, sliceW_t, isiW_1, optI_n, optI_s, truW_b, truW_i, truW_l, truW_t, truW_n, itW_l, itW_t, itW_r1, itW_r2, itW_r3, strW_i, itW_el, itW_et, itW_zl, itW_zt, itW_vl, itW_vt, tgW_n, tgW_t, setAll_c, setAll_n, List.map_cons, List.map_nil, List.cons_append, List.nil_append, List.append_nil, List.getElem?_cons_succ, List.getElem?_cons_zero, List.length_cons, List.length_nil, Nat.reduceAdd, Nat.reduceSub, List.replicate, List.set_cons_succ, List.set_cons_zero, mtW, mtTy, getW, bkW, dicW, revW, Sl_od, inW_d, notinW_d]
      ((first | (with_reducible refine Box.mk ?_) | skip); show WSs _ (_ :: _) _ _; rw [WSs_cB]; simp only [wipeE, WCs, mkEnv, fnEnds, WS_raise, WS_try, WS_frz, WS_set, WS_setT, WS_par2, WS_par3, WS_aug, WS_expr, WS_ret, WS_retv, WS_retN, WS_if, WS_for, WS_while, WS_brk, WS_cont, WS_pass, WS_doc, WS_append, WS_extend, WS_popx, WS_setix, WS_augix, WS_setd, WS_rvs, WS_popset, WS_insert, extW_l, extW_t, insW_2, WE, WAs, WLs, WT, argK, argW, opW, opI, biW, Sl_v, Sl_o, csD, slW, ownW, if_true, if_false, addW_i, addW_l, addW_t, subW_i, mulW_i, mulW_l, mulW_t, fdivW_i, modW_i, powW_i, shlW_i, shrW_i, bitW_i, iaddW_i, imulW_i, ifdivW_i, ltW_i, leW_i, gtW_i, geW_i, eqW_i, neW_i, isW_n, isntW_n, isW_b, isntW_b, idxW_l, idxW_t, optW_s, optP_s, lenW_l, lenW_t, lenW_s, lenW_d, intW_i, intW_b, absW_i, maxW_i, minW_i, negW_i, listW_l, listW_t, tupleW_l, tupleW_t, sliceW_l, sliceW_t, isiW_1, optI_n, optI_s, truW_b, truW_i, truW_l, truW_t, truW_n, itW_l, itW_t, itW_r1, itW_r2, itW_r3, strW_i, itW_el, itW_et, itW_zl, itW_zt, itW_vl, itW_vt, tgW_n, tgW_t, setAll_c, setAll_n, List.map_cons, List.map_nil, List.cons_append, List.nil_append, List.append_nil, List.getElem?_cons_succ, List.getElem?_cons_zero, List.length_cons, List.length_nil, Nat.reduceAdd, Nat.reduceSub, List.replicate, List.set_cons_succ, List.set_cons_zero, mtW, mtTy, getW, bkW, dicW, revW, Sl_od, inW_d, notinW_d])
      rw [lns_l]
      simp only [wipeE, WCs, mkEnv, fnEnds, WS_raise, WS_try, WS_frz, WS_set, WS_setT, WS_par2, WS_par3, WS_aug, WS_expr, WS_ret, WS_retv, WS_retN, WS_if, WS_for, WS_while, WS_brk, WS_cont, WS_pass, WS_doc, WS_append, WS_extend, WS_popx, WS_setix, WS_augix, WS_setd, WS_rvs, WS_popset, WS_insert, extW_l, extW_t, insW_2, WE, WAs, WLs, WT, argK, argW, opW, opI, biW, Sl_v, Sl_o, csD, slW, ownW, if_true, if_false, addW_i, addW_l, addW_t, subW_i, mulW_i, mulW_l, mulW_t, fdivW_i, modW_i, powW_i, shlW_i, shrW_i, bitW_i, iaddW_i, imulW_i, ifdivW_i, ltW_i, leW_i, gtW_i, geW_i, eqW_i, neW_i, isW_n, isntW_n, isW_b, isntW_b, idxW_l, idxW_t, optW_s, optP_s, lenW_l, lenW_t, lenW_s, lenW_d, intW_i, intW_b, absW_i, maxW_i, minW_i, negW_i, listW_l, listW_t, tupleW_l, tupleW_t, sliceW_l, sliceW_t, isiW_1, optI_n, optI_s, truW_b, truW_i, truW_l, truW_t, truW_n, itW_l, itW_t, itW_r1, itW_r2, itW_r3, strW_i, itW_el, itW_et, itW_zl, itW_zt, itW_vl, itW_vt, tgW_n, tgW_t, setAll_c, setAll_n, List.map_cons, List.map_nil, List.cons_append, List.nil_append, List.append_nil, List.getElem?_cons_succ, List.getElem?_cons_zero, List.length_cons, List.length_nil, Nat.reduceAdd, Nat.reduceSub, List.replicate, List.set_cons_succ, List.set_cons_zero, mtW, mtTy, getW, bkW, dicW, revW, Sl_od, inW_d, notinW_d]
      refine ⟨by unfold B62; omega, ?_⟩
      rw [Int.toNat_natCast]
      refine lcW_range (f := fun k => gD i j k) (by unfold LIM; omega) (fun k hk kz hkz => ⟨by decide, hkz⟩) ?_
      have eg : (List.range ls.length).map (fun k => gD i j k) = g1 ls.length i j := rfl
      rw [eg]
      simp only [wipeE, WCs, mkEnv, fnEnds, WS_raise, WS_try, WS_frz, WS_set, WS_setT, WS_par2, WS_par3, WS_aug, WS_expr, WS_ret, WS_retv, WS_retN, WS_if, WS_for, WS_while, WS_brk, WS_cont, WS_pass, WS_doc, WS_append, WS_extend, WS_popx, WS_setix, WS_augix, WS_setd, WS_rvs, WS_popset, WS_insert, extW_l, extW_t, insW_2, WE, WAs, WLs, WT, argK, argW, opW, opI, biW, Sl_v, Sl_o, csD, slW, ownW, if_true, if_false, addW_i, addW_l, addW_t, subW_i, mulW_i, mulW_l, mulW_t, fdivW_i, modW_i, powW_i, shlW_i, shrW_i, bitW_i, iaddW_i, imulW_i, ifdivW_i, ltW_i, leW_i, gtW_i, geW_i, eqW_i, neW_i, isW_n, isntW_n, isW_b, isntW_b, idxW_l, idxW_t, optW_s, optP_s, lenW_l, lenW_t, lenW_s, lenW_d, intW_i, intW_b, absW_i, maxW_i, minW_i, negW_i, listW_l, listW_t, tupleW_l, tupleW_t, sliceW_l, sliceW_t, isiW_1, optI_n, optI_s, truW_b, truW_i, truW_l, truW_t, truW_n, itW_l, itW_t, itW_r1, itW_r2, itW_r3, strW_i, itW_el, itW_et, itW_zl, itW_zt, itW_vl, itW_vt, tgW_n, tgW_t, setAll_c, setAll_n, List.map_cons, List.map_nil, List.cons_append, List.nil_append, List.append_nil, List.getElem?_cons_succ, List.getElem?_cons_zero, List.length_cons, List.length_nil, Nat.reduceAdd, Nat.reduceSub, List.replicate, List.set_cons_succ, List.set_cons_zero, mtW, mtTy, getW, bkW, dicW, revW, Sl_od, inW_d, notinW_d, List.length_append, gs_len, g2_len, g1_len]
      have hb := gs_bound (n := ls.length) (s := s) (i := i) (t := j) (k := ls.length) hl (by omega) (by omega) (by omega) (Nat.le_refl _)
      refine ⟨by unfold LIM; omega, ?_⟩
      ((first | (with_reducible refine Box.mk ?_) | skip); show WSs _ (_ :: _) _ _; rw [WSs_cB]; simp only [wipeE, WCs, mkEnv, fnEnds, WS_raise, WS_try, WS_frz, WS_set, WS_setT, WS_par2, WS_par3, WS_aug, WS_expr, WS_ret, WS_retv, WS_retN, WS_if, WS_for, WS_while, WS_brk, WS_cont, WS_pass, WS_doc, WS_append, WS_extend, WS_popx, WS_setix, WS_augix, WS_setd, WS_rvs, WS_popset, WS_insert, extW_l, extW_t, insW_2, WE, WAs, WLs, WT, argK, argW, opW, opI, biW, Sl_v, Sl_o, csD, slW, ownW, if_true, if_false, addW_i, addW_l, addW_t, subW_i, mulW_i, mulW_l, mulW_t, fdivW_i, modW_i, powW_i, shlW_i, shrW_i, bitW_i, iaddW_i, imulW_i, ifdivW_i, ltW_i, leW_i, gtW_i, geW_i, eqW_i, neW_i, isW_n, isntW_n, isW_b, isntW_b, idxW_l, idxW_t, optW_s, optP_s, lenW_l, lenW_t, lenW_s, lenW_d, intW_i, intW_b, absW_i, maxW_i, minW_i, negW_i, listW_l, listW_t, tupleW_l, tupleW_t, sliceW_l, sliceW_t, isiW_1, optI_n, optI_s, truW_b, truW_i, truW_l, truW_t, truW_n, itW_l, itW_t, itW_r1, itW_r2, itW_r3, strW_i, itW_el, itW_et, itW_zl, itW_zt, itW_vl, itW_vt, tgW_n, tgW_t, setAll_c, setAll_n, List.map_cons, List.map_nil, List.cons_append, List.nil_append, List.append_nil, List.getElem?_cons_succ, List.getElem?_cons_zero, List.length_cons, List.length_nil, Nat.reduceAdd, Nat.reduceSub, List.replicate, List.set_cons_succ, List.set_cons_zero, mtW, mtTy, getW, bkW, dicW, revW, Sl_od, inW_d, notinW_d])
      ((first | (with_reducible refine Box.mk ?_) | skip); show WSs _ _ _ _; rw [WSs_n])
      exact hk2 _ ⟨_, _, by rw [g2_s, List.append_assoc]⟩
    · rintro ρ ⟨y4, y5, rfl⟩
      rw [Nat.zero_add]
      ((first | (with_reducible refine Box.mk ?_) | skip); show WSs _ _ _ _; rw [WSs_n])
      exact hkk _ ⟨_, _, _, by rw [gs_s]⟩
  · rintro ρ ⟨y3, y4, y5, rfl⟩
    rw [Nat.zero_add]
    ((first | (with_reducible refine Box.mk ?_) | skip); show WSs _ (_ :: _) _ _; rw [WSs_cB]; simp only [wipeE, WCs, mkEnv, fnEnds, WS_raise, WS_try, WS_frz, WS_set, WS_setT, WS_par2, WS_par3, WS_aug, WS_expr, WS_ret, WS_retv, WS_retN, WS_if, WS_for, WS_while, WS_brk, WS_cont, WS_pass, WS_doc, WS_append, WS_extend, WS_popx, WS_setix, WS_augix, WS_setd, WS_rvs, WS_popset, WS_insert, extW_l, extW_t, insW_2, WE, WAs, WLs, WT, argK, argW, opW, opI, biW, Sl_v, Sl_o, csD, slW, ownW, if_true, if_false, addW_i, addW_l, addW_t, subW_i, mulW_i, mulW_l, mulW_t, fdivW_i, modW_i, powW_i, shlW_i, shrW_i, bitW_i, iaddW_i, imulW_i, ifdivW_i, ltW_i, leW_i, gtW_i, geW_i, eqW_i, neW_i, isW_n, isntW_n, isW_b, isntW_b, idxW_l, idxW_t, optW_s, optP_s, lenW_l, lenW_t, lenW_s, lenW_d, intW_i, intW_b, absW_i, maxW_i, minW_i, negW_i, listW_l, listW_t, tupleW_l, tupleW_t, sliceW_l, sliceW_t, isiW_1, optI_n, optI_s, truW_b, truW_i, truW_l, truW_t, truW_n, itW_l, itW_t, itW_r1, itW_r2, itW_r3, strW_i, itW_el, itW_et, itW_zl, itW_zt, itW_vl, itW_vt, tgW_n, tgW_t, setAll_c, setAll_n, List.map_cons, List.map_nil, List.cons_append, List.nil_append, List.append_nil, List.getElem?_cons_succ, List.getElem?_cons_zero, List.length_cons, List.length_nil, Nat.reduceAdd, Nat.reduceSub, List.replicate, List.set_cons_succ, List.set_cons_zero, mtW, mtTy, getW, bkW, dicW, revW, Sl_od, inW_d, notinW_d])
    exact hq
end PL.K47

namespace PL.K47
open PySem PySem.Spec PyProof.Rows L2 PL
theorem smi {i : Int} (h1 : -18446744073709551616 ≤ i) (h2 : i ≤ 18446744073709551615) : Sm i := sm_mk h1 h2
--FN _law_point
def sp_law_point : FSp := fun ds Q _ => ∃ (i : Nat) (w : Int), ds = [.g i 0, .int w] ∧ (0 ≤ w ∧ w ≤ 1000000000000000) ∧ ∀ x : P, bd w x → Q (.val (ptD x))
abbrev G_law_point : Tab := tabOf [("_law_draw", spDraw)] [] [] [] []
theorem pure_law_point : ∀ ds Q X, sp_law_point ds Q X → ds.length = 2 ∧ WSs G_law_point ms_law_point (mkEnv 2 ds) (fnEnds Q X) := by
  rintro ds Q X ⟨i, w, rfl, ⟨w0, w1⟩, hq⟩
  refine ⟨rfl, ?_⟩
  simp only [ms_law_point, mkEnv, fnEnds, List.map_cons, List.map_nil, List.length_cons, List.length_nil, Nat.reduceAdd, Nat.reduceSub, List.replicate, List.cons_append, List.nil_append]
  ((first | (with_reducible refine Box.mk ?_) | skip); show WSs _ (_ :: _) _ _; rw [WSs_cB]; simp only [wipeE, WCs, mkEnv, fnEnds, WS_raise, WS_try, WS_frz, WS_set, WS_setT, WS_par2, WS_par3, WS_aug, WS_expr, WS_ret, WS_retv, WS_retN, WS_if, WS_for, WS_while, WS_brk, WS_cont, WS_pass, WS_doc, WS_append, WS_extend, WS_popx, WS_setix, WS_augix, WS_setd, WS_rvs, WS_popset, WS_insert, extW_l, extW_t, insW_2, WE, WAs, WLs, WT, argK, argW, opW, opI, biW, Sl_v, Sl_o, csD, slW, ownW, if_true, if_false, addW_i, addW_l, addW_t, subW_i, mulW_i, mulW_l, mulW_t, fdivW_i, modW_i, powW_i, shlW_i, shrW_i, bitW_i, iaddW_i, imulW_i, ifdivW_i, ltW_i, leW_i, gtW_i, geW_i, eqW_i, neW_i, isW_n, isntW_n, isW_b, isntW_b, idxW_l, idxW_t, optW_s, optP_s, lenW_l, lenW_t, lenW_s, lenW_d, intW_i, intW_b, absW_i, maxW_i, minW_i, negW_i, listW_l, listW_t, tupleW_l, tupleW_t, sliceW_l, sliceW_t, isiW_1, optI_n, optI_s, truW_b, truW_i, truW_l, truW_t, truW_n, itW_l, itW_t, itW_r1, itW_r2, itW_r3, strW_i, itW_el, itW_et, itW_zl, itW_zt, itW_vl, itW_vt, tgW_n, tgW_t, setAll_c, setAll_n, List.map_cons, List.map_nil, List.cons_append, List.nil_append, List.append_nil, List.getElem?_cons_succ, List.getElem?_cons_zero, List.length_cons, List.length_nil, Nat.reduceAdd, Nat.reduceSub, List.replicate, List.set_cons_succ, List.set_cons_zero, mtW, mtTy, getW, bkW, dicW, revW, Sl_od, inW_d, notinW_d])
  have s2 : Sm 2 := smi (by decide) (by decide)
  have sw : Sm w := smi (by omega) (by omega)
  have s3 : Sm (2 * w + 1) := smi (by omega) (by omega)
  refine ⟨⟨s2, sw⟩, fnW_mk rfl ⟨i, _, rfl, by omega, s3, fun a a0 a1 => ?_⟩⟩
  simp only [wipeE, WCs, mkEnv, fnEnds, WS_raise, WS_try, WS_frz, WS_set, WS_setT, WS_par2, WS_par3, WS_aug, WS_expr, WS_ret, WS_retv, WS_retN, WS_if, WS_for, WS_while, WS_brk, WS_cont, WS_pass, WS_doc, WS_append, WS_extend, WS_popx, WS_setix, WS_augix, WS_setd, WS_rvs, WS_popset, WS_insert, extW_l, extW_t, insW_2, WE, WAs, WLs, WT, argK, argW, opW, opI, biW, Sl_v, Sl_o, csD, slW, ownW, if_true, if_false, addW_i, addW_l, addW_t, subW_i, mulW_i, mulW_l, mulW_t, fdivW_i, modW_i, powW_i, shlW_i, shrW_i, bitW_i, iaddW_i, imulW_i, ifdivW_i, ltW_i, leW_i, gtW_i, geW_i, eqW_i, neW_i, isW_n, isntW_n, isW_b, isntW_b, idxW_l, idxW_t, optW_s, optP_s, lenW_l, lenW_t, lenW_s, lenW_d, intW_i, intW_b, absW_i, maxW_i, minW_i, negW_i, listW_l, listW_t, tupleW_l, tupleW_t, sliceW_l, sliceW_t, isiW_1, optI_n, optI_s, truW_b, truW_i, truW_l, truW_t, truW_n, itW_l, itW_t, itW_r1, itW_r2, itW_r3, strW_i, itW_el, itW_et, itW_zl, itW_zt, itW_vl, itW_vt, tgW_n, tgW_t, setAll_c, setAll_n, List.map_cons, List.map_nil, List.cons_append, List.nil_append, List.append_nil, List.getElem?_cons_succ, List.getElem?_cons_zero, List.length_cons, List.length_nil, Nat.reduceAdd, Nat.reduceSub, List.replicate, List.set_cons_succ, List.set_cons_zero, mtW, mtTy, getW, bkW, dicW, revW, Sl_od, inW_d, notinW_d]
  refine ⟨⟨s2, sw⟩, fnW_mk rfl ⟨i, _, rfl, by omega, s3, fun b b0 b1 => ?_⟩⟩
  simp only [wipeE, WCs, mkEnv, fnEnds, WS_raise, WS_try, WS_frz, WS_set, WS_setT, WS_par2, WS_par3, WS_aug, WS_expr, WS_ret, WS_retv, WS_retN, WS_if, WS_for, WS_while, WS_brk, WS_cont, WS_pass, WS_doc, WS_append, WS_extend, WS_popx, WS_setix, WS_augix, WS_setd, WS_rvs, WS_popset, WS_insert, extW_l, extW_t, insW_2, WE, WAs, WLs, WT, argK, argW, opW, opI, biW, Sl_v, Sl_o, csD, slW, ownW, if_true, if_false, addW_i, addW_l, addW_t, subW_i, mulW_i, mulW_l, mulW_t, fdivW_i, modW_i, powW_i, shlW_i, shrW_i, bitW_i, iaddW_i, imulW_i, ifdivW_i, ltW_i, leW_i, gtW_i, geW_i, eqW_i, neW_i, isW_n, isntW_n, isW_b, isntW_b, idxW_l, idxW_t, optW_s, optP_s, lenW_l, lenW_t, lenW_s, lenW_d, intW_i, intW_b, absW_i, maxW_i, minW_i, negW_i, listW_l, listW_t, tupleW_l, tupleW_t, sliceW_l, sliceW_t, isiW_1, optI_n, optI_s, truW_b, truW_i, truW_l, truW_t, truW_n, itW_l, itW_t, itW_r1, itW_r2, itW_r3, strW_i, itW_el, itW_et, itW_zl, itW_zt, itW_vl, itW_vt, tgW_n, tgW_t, setAll_c, setAll_n, List.map_cons, List.map_nil, List.cons_append, List.nil_append, List.append_nil, List.getElem?_cons_succ, List.getElem?_cons_zero, List.length_cons, List.length_nil, Nat.reduceAdd, Nat.reduceSub, List.replicate, List.set_cons_succ, List.set_cons_zero, mtW, mtTy, getW, bkW, dicW, revW, Sl_od, inW_d, notinW_d]
  refine ⟨by decide, hq (a - w, b - w) ?_⟩
  unfold bd
  simp only
  omega
theorem cnt_pts {a : List P} : (ptsD a).countP (fun z => eqD z (ptD p0)) = a.countP fun x => decide (x = p0) := by
  unfold ptsD
  rw [List.countP_map]
  congr 1
  funext x
  exact eq_pt x p0
theorem countW_pts {a : List P} {Q : QS} (h : Q (.val (.int (a.countP (fun x => decide (x = p0)) : Nat)))) : countW (.lst (ptsD a)) [.tup [.int 0, .int 0]] Q := by
  refine ⟨⟨pl_of 2 plB_lpts, pl_of 1 rfl⟩, ?_⟩
  rw [show D.tup [.int 0, .int 0] = ptD p0 from rfl, cnt_pts]
  exact h
theorem nz_cnt {a : List P} (h : a.countP (fun x => decide (x = p0)) ≠ a.length) : NZ a := by
  refine Classical.byContradiction fun z => h ?_
  rw [List.countP_eq_length]
  intro x hx
  refine decide_eq_true (Classical.byContradiction fun q => z ⟨x, hx, q⟩)
theorem ixW_last {xs : List D} {Q : Nat → Prop} (h : xs ≠ []) (k : Q (xs.length - 1)) : ixW xs (.int (-1)) Q := by
  have hl := List.length_pos_iff.mpr h
  show (match ixN xs.length (-1) with
    | some j => Q j
    | none => False)
  have : ixN xs.length (-1) = some (xs.length - 1) := by
    unfold ixN
    rw [if_neg (by decide), if_pos (by omega)]
    congr 1
    omega
  rw [this]
  exact k
theorem pts_set {a : List P} {j : Nat} {x : P} : (ptsD a).set j (ptD x) = ptsD (a.set j x) := by
  unfold ptsD
  rw [List.map_set]
theorem nz_set {a : List P} {j : Nat} {x : P} (hj : j < a.length) (hx : x ≠ p0) : NZ (a.set j x) := ⟨x, List.mem_iff_getElem.mpr ⟨j, by simpa using hj, by simp⟩, hx⟩
theorem set_bd {a : List P} {j : Nat} {x : P} {B : Int} (h : ∀ y ∈ a, bd B y) (hx : bd B x) : ∀ y ∈ a.set j x, bd B y := fun y hy => by
  rcases List.mem_or_eq_of_mem_set hy with h1 | rfl
  · exact h y h1
  · exact hx
--FN _law_opening
def sp_law_opening : FSp := fun ds Q _ => ∃ (i m : Nat), ds = [.g i 0, .int (m : Nat)] ∧ (1 ≤ m ∧ m ≤ 60) ∧ ∀ o : List P, (1 ≤ o.length ∧ o.length ≤ m) → (∀ x ∈ o, bd 3 x) → NZ o → Q (.val (.tup (ptsD o)))
abbrev G_law_opening : Tab := tabOf [("_law_draw", spDraw), ("_law_point", sp_law_point)] ["len", "range", "tuple"] [] [] []
theorem pure_law_opening : ∀ ds Q X, sp_law_opening ds Q X → ds.length = 2 ∧ WSs G_law_opening ms_law_opening (mkEnv 4 ds) (fnEnds Q X) := by
  rintro ds Q X ⟨i, m, rfl, ⟨m0, m1⟩, hq⟩
  refine ⟨rfl, ?_⟩
  simp only [ms_law_opening, mkEnv, fnEnds, List.map_cons, List.map_nil, List.length_cons, List.length_nil, Nat.reduceAdd, Nat.reduceSub, List.replicate, List.cons_append, List.nil_append]
  ((first | (with_reducible refine Box.mk ?_) | skip); show WSs _ (_ :: _) _ _; rw [WSs_cB]; simp only [wipeE, WCs, mkEnv, fnEnds, WS_raise, WS_try, WS_frz, WS_set, WS_setT, WS_par2, WS_par3, WS_aug, WS_expr, WS_ret, WS_retv, WS_retN, WS_if, WS_for, WS_while, WS_brk, WS_cont, WS_pass, WS_doc, WS_append, WS_extend, WS_popx, WS_setix, WS_augix, WS_setd, WS_rvs, WS_popset, WS_insert, extW_l, extW_t, insW_2, WE, WAs, WLs, WT, argK, argW, opW, opI, biW, Sl_v, Sl_o, csD, slW, ownW, if_true, if_false, addW_i, addW_l, addW_t, subW_i, mulW_i, mulW_l, mulW_t, fdivW_i, modW_i, powW_i, shlW_i, shrW_i, bitW_i, iaddW_i, imulW_i, ifdivW_i, ltW_i, leW_i, gtW_i, geW_i, eqW_i, neW_i, isW_n, isntW_n, isW_b, isntW_b, idxW_l, idxW_t, optW_s, optP_s, lenW_l, lenW_t, lenW_s, lenW_d, intW_i, intW_b, absW_i, maxW_i, minW_i, negW_i, listW_l, listW_t, tupleW_l, tupleW_t, sliceW_l, sliceW_t, isiW_1, optI_n, optI_s, truW_b, truW_i, truW_l, truW_t, truW_n, itW_l, itW_t, itW_r1, itW_r2, itW_r3, strW_i, itW_el, itW_et, itW_zl, itW_zt, itW_vl, itW_vt, tgW_n, tgW_t, setAll_c, setAll_n, List.map_cons, List.map_nil, List.cons_append, List.nil_append, List.append_nil, List.getElem?_cons_succ, List.getElem?_cons_zero, List.length_cons, List.length_nil, Nat.reduceAdd, Nat.reduceSub, List.replicate, List.set_cons_succ, List.set_cons_zero, mtW, mtTy, getW, bkW, dicW, revW, Sl_od, inW_d, notinW_d])
  refine fnW_mk rfl ⟨i, _, rfl, by omega, smi (by omega) (by omega), fun a a0 a1 => ?_⟩
  simp only [wipeE, WCs, mkEnv, fnEnds, WS_raise, WS_try, WS_frz, WS_set, WS_setT, WS_par2, WS_par3, WS_aug, WS_expr, WS_ret, WS_retv, WS_retN, WS_if, WS_for, WS_while, WS_brk, WS_cont, WS_pass, WS_doc, WS_append, WS_extend, WS_popx, WS_setix, WS_augix, WS_setd, WS_rvs, WS_popset, WS_insert, extW_l, extW_t, insW_2, WE, WAs, WLs, WT, argK, argW, opW, opI, biW, Sl_v, Sl_o, csD, slW, ownW, if_true, if_false, addW_i, addW_l, addW_t, subW_i, mulW_i, mulW_l, mulW_t, fdivW_i, modW_i, powW_i, shlW_i, shrW_i, bitW_i, iaddW_i, imulW_i, ifdivW_i, ltW_i, leW_i, gtW_i, geW_i, eqW_i, neW_i, isW_n, isntW_n, isW_b, isntW_b, idxW_l, idxW_t, optW_s, optP_s, lenW_l, lenW_t, lenW_s, lenW_d, intW_i, intW_b, absW_i, maxW_i, minW_i, negW_i, listW_l, listW_t, tupleW_l, tupleW_t, sliceW_l, sliceW_t, isiW_1, optI_n, optI_s, truW_b, truW_i, truW_l, truW_t, truW_n, itW_l, itW_t, itW_r1, itW_r2, itW_r3, strW_i, itW_el, itW_et, itW_zl, itW_zt, itW_vl, itW_vt, tgW_n, tgW_t, setAll_c, setAll_n, List.map_cons, List.map_nil, List.cons_append, List.nil_append, List.append_nil, List.getElem?_cons_succ, List.getElem?_cons_zero, List.length_cons, List.length_nil, Nat.reduceAdd, Nat.reduceSub, List.replicate, List.set_cons_succ, List.set_cons_zero, mtW, mtTy, getW, bkW, dicW, revW, Sl_od, inW_d, notinW_d]
  refine ⟨by unfold B62; omega, ?_⟩
  obtain ⟨n, hn⟩ : ∃ n : Nat, (1 + a).toNat = n := ⟨_, rfl⟩
  rw [hn, rgD_0]
  refine lcW_gen ptD (bd 3) _ [] (by simp; unfold LIM; omega) (fun d hd kz hkz => ?_) fun zs hz hp => ?_
  · try simp only [wipeE, WCs, wipeE, WCs, mkEnv, fnEnds, WS_raise, WS_try, WS_frz, WS_set, WS_setT, WS_par2, WS_par3, WS_aug, WS_expr, WS_ret, WS_retv, WS_retN, WS_if, WS_for, WS_while, WS_brk, WS_cont, WS_pass, WS_doc, WS_append, WS_extend, WS_popx, WS_setix, WS_augix, WS_setd, WS_rvs, WS_popset, WS_insert, extW_l, extW_t, insW_2, WE, WAs, WLs, WT, argK, argW, opW, opI, biW, Sl_v, Sl_o, csD, slW, ownW, if_true, if_false, addW_i, addW_l, addW_t, subW_i, mulW_i, mulW_l, mulW_t, fdivW_i, modW_i, powW_i, shlW_i, shrW_i, bitW_i, iaddW_i, imulW_i, ifdivW_i, ltW_i, leW_i, gtW_i, geW_i, eqW_i, neW_i, isW_n, isntW_n, isW_b, isntW_b, idxW_l, idxW_t, optW_s, optP_s, lenW_l, lenW_t, lenW_s, lenW_d, intW_i, intW_b, absW_i, maxW_i, minW_i, negW_i, listW_l, listW_t, tupleW_l, tupleW_t, sliceW_l, sliceW_t, isiW_1, optI_n, optI_s, truW_b, truW_i, truW_l, truW_t, truW_n, itW_l, itW_t, itW_r1, itW_r2, itW_r3, strW_i, itW_el, itW_et, itW_zl, itW_zt, itW_vl, itW_vt, tgW_n, tgW_t, setAll_c, setAll_n, List.map_cons, List.map_nil, List.cons_append, List.nil_append, List.append_nil, List.getElem?_cons_succ, List.getElem?_cons_zero, List.length_cons, List.length_nil, Nat.reduceAdd, Nat.reduceSub, List.replicate, List.set_cons_succ, List.set_cons_zero, mtW, mtTy, getW, bkW, dicW, revW, Sl_od, inW_d, notinW_d]
    exact fnW_mk rfl ⟨i, 3, rfl, by decide, fun x hx => hkz x hx⟩
  rw [List.nil_append, show zs.map ptD = ptsD zs from rfl]
  have hz : zs.length = n := by simpa using hz
  ((first | (with_reducible refine Box.mk ?_) | skip); show WSs _ (_ :: _) _ _; rw [WSs_cB]; simp only [wipeE, WCs, mkEnv, fnEnds, WS_raise, WS_try, WS_frz, WS_set, WS_setT, WS_par2, WS_par3, WS_aug, WS_expr, WS_ret, WS_retv, WS_retN, WS_if, WS_for, WS_while, WS_brk, WS_cont, WS_pass, WS_doc, WS_append, WS_extend, WS_popx, WS_setix, WS_augix, WS_setd, WS_rvs, WS_popset, WS_insert, extW_l, extW_t, insW_2, WE, WAs, WLs, WT, argK, argW, opW, opI, biW, Sl_v, Sl_o, csD, slW, ownW, if_true, if_false, addW_i, addW_l, addW_t, subW_i, mulW_i, mulW_l, mulW_t, fdivW_i, modW_i, powW_i, shlW_i, shrW_i, bitW_i, iaddW_i, imulW_i, ifdivW_i, ltW_i, leW_i, gtW_i, geW_i, eqW_i, neW_i, isW_n, isntW_n, isW_b, isntW_b, idxW_l, idxW_t, optW_s, optP_s, lenW_l, lenW_t, lenW_s, lenW_d, intW_i, intW_b, absW_i, maxW_i, minW_i, negW_i, listW_l, listW_t, tupleW_l, tupleW_t, sliceW_l, sliceW_t, isiW_1, optI_n, optI_s, truW_b, truW_i, truW_l, truW_t, truW_n, itW_l, itW_t, itW_r1, itW_r2, itW_r3, strW_i, itW_el, itW_et, itW_zl, itW_zt, itW_vl, itW_vt, tgW_n, tgW_t, setAll_c, setAll_n, List.map_cons, List.map_nil, List.cons_append, List.nil_append, List.append_nil, List.getElem?_cons_succ, List.getElem?_cons_zero, List.length_cons, List.length_nil, Nat.reduceAdd, Nat.reduceSub, List.replicate, List.set_cons_succ, List.set_cons_zero, mtW, mtTy, getW, bkW, dicW, revW, Sl_od, inW_d, notinW_d])
  refine ⟨trivial, by decide, countW_pts ?_⟩
  simp only [wipeE, WCs, mkEnv, fnEnds, WS_raise, WS_try, WS_frz, WS_set, WS_setT, WS_par2, WS_par3, WS_aug, WS_expr, WS_ret, WS_retv, WS_retN, WS_if, WS_for, WS_while, WS_brk, WS_cont, WS_pass, WS_doc, WS_append, WS_extend, WS_popx, WS_setix, WS_augix, WS_setd, WS_rvs, WS_popset, WS_insert, extW_l, extW_t, insW_2, WE, WAs, WLs, WT, argK, argW, opW, opI, biW, Sl_v, Sl_o, csD, slW, ownW, if_true, if_false, addW_i, addW_l, addW_t, subW_i, mulW_i, mulW_l, mulW_t, fdivW_i, modW_i, powW_i, shlW_i, shrW_i, bitW_i, iaddW_i, imulW_i, ifdivW_i, ltW_i, leW_i, gtW_i, geW_i, eqW_i, neW_i, isW_n, isntW_n, isW_b, isntW_b, idxW_l, idxW_t, optW_s, optP_s, lenW_l, lenW_t, lenW_s, lenW_d, intW_i, intW_b, absW_i, maxW_i, minW_i, negW_i, listW_l, listW_t, tupleW_l, tupleW_t, sliceW_l, sliceW_t, isiW_1, optI_n, optI_s, truW_b, truW_i, truW_l, truW_t, truW_n, itW_l, itW_t, itW_r1, itW_r2, itW_r3, strW_i, itW_el, itW_et, itW_zl, itW_zt, itW_vl, itW_vt, tgW_n, tgW_t, setAll_c, setAll_n, List.map_cons, List.map_nil, List.cons_append, List.nil_append, List.append_nil, List.getElem?_cons_succ, List.getElem?_cons_zero, List.length_cons, List.length_nil, Nat.reduceAdd, Nat.reduceSub, List.replicate, List.set_cons_succ, List.set_cons_zero, mtW, mtTy, getW, bkW, dicW, revW, Sl_od, inW_d, notinW_d, pts_len]
  have hzl : 1 ≤ zs.length := by omega
  by_cases hc : zs.countP (fun x => decide (x = p0)) = zs.length
  · refine ite_t (by rw [hc]; exact beq_self_eq_true _) ?_
    ((first | (with_reducible refine Box.mk ?_) | skip); show WSs _ (_ :: _) _ _; rw [WSs_cB]; simp only [wipeE, WCs, mkEnv, fnEnds, WS_raise, WS_try, WS_frz, WS_set, WS_setT, WS_par2, WS_par3, WS_aug, WS_expr, WS_ret, WS_retv, WS_retN, WS_if, WS_for, WS_while, WS_brk, WS_cont, WS_pass, WS_doc, WS_append, WS_extend, WS_popx, WS_setix, WS_augix, WS_setd, WS_rvs, WS_popset, WS_insert, extW_l, extW_t, insW_2, WE, WAs, WLs, WT, argK, argW, opW, opI, biW, Sl_v, Sl_o, csD, slW, ownW, if_true, if_false, addW_i, addW_l, addW_t, subW_i, mulW_i, mulW_l, mulW_t, fdivW_i, modW_i, powW_i, shlW_i, shrW_i, bitW_i, iaddW_i, imulW_i, ifdivW_i, ltW_i, leW_i, gtW_i, geW_i, eqW_i, neW_i, isW_n, isntW_n, isW_b, isntW_b, idxW_l, idxW_t, optW_s, optP_s, lenW_l, lenW_t, lenW_s, lenW_d, intW_i, intW_b, absW_i, maxW_i, minW_i, negW_i, listW_l, listW_t, tupleW_l, tupleW_t, sliceW_l, sliceW_t, isiW_1, optI_n, optI_s, truW_b, truW_i, truW_l, truW_t, truW_n, itW_l, itW_t, itW_r1, itW_r2, itW_r3, strW_i, itW_el, itW_et, itW_zl, itW_zt, itW_vl, itW_vt, tgW_n, tgW_t, setAll_c, setAll_n, List.map_cons, List.map_nil, List.cons_append, List.nil_append, List.append_nil, List.getElem?_cons_succ, List.getElem?_cons_zero, List.length_cons, List.length_nil, Nat.reduceAdd, Nat.reduceSub, List.replicate, List.set_cons_succ, List.set_cons_zero, mtW, mtTy, getW, bkW, dicW, revW, Sl_od, inW_d, notinW_d])
    refine ⟨by decide, ixW_last (by intro z; rw [← List.length_eq_zero_iff, pts_len] at z; omega) ?_⟩
    rw [pts_len, show D.tup [.int 1, .int 2] = ptD (1, 2) from rfl, pts_set]
    ((first | (with_reducible refine Box.mk ?_) | skip); show WSs _ _ _ _; rw [WSs_n])
    ((first | (with_reducible refine Box.mk ?_) | skip); show WSs _ (_ :: _) _ _; rw [WSs_cB]; simp only [wipeE, WCs, mkEnv, fnEnds, WS_raise, WS_try, WS_frz, WS_set, WS_setT, WS_par2, WS_par3, WS_aug, WS_expr, WS_ret, WS_retv, WS_retN, WS_if, WS_for, WS_while, WS_brk, WS_cont, WS_pass, WS_doc, WS_append, WS_extend, WS_popx, WS_setix, WS_augix, WS_setd, WS_rvs, WS_popset, WS_insert, extW_l, extW_t, insW_2, WE, WAs, WLs, WT, argK, argW, opW, opI, biW, Sl_v, Sl_o, csD, slW, ownW, if_true, if_false, addW_i, addW_l, addW_t, subW_i, mulW_i, mulW_l, mulW_t, fdivW_i, modW_i, powW_i, shlW_i, shrW_i, bitW_i, iaddW_i, imulW_i, ifdivW_i, ltW_i, leW_i, gtW_i, geW_i, eqW_i, neW_i, isW_n, isntW_n, isW_b, isntW_b, idxW_l, idxW_t, optW_s, optP_s, lenW_l, lenW_t, lenW_s, lenW_d, intW_i, intW_b, absW_i, maxW_i, minW_i, negW_i, listW_l, listW_t, tupleW_l, tupleW_t, sliceW_l, sliceW_t, isiW_1, optI_n, optI_s, truW_b, truW_i, truW_l, truW_t, truW_n, itW_l, itW_t, itW_r1, itW_r2, itW_r3, strW_i, itW_el, itW_et, itW_zl, itW_zt, itW_vl, itW_vt, tgW_n, tgW_t, setAll_c, setAll_n, List.map_cons, List.map_nil, List.cons_append, List.nil_append, List.append_nil, List.getElem?_cons_succ, List.getElem?_cons_zero, List.length_cons, List.length_nil, Nat.reduceAdd, Nat.reduceSub, List.replicate, List.set_cons_succ, List.set_cons_zero, mtW, mtTy, getW, bkW, dicW, revW, Sl_od, inW_d, notinW_d])
    exact hq _ (by simp; omega) (set_bd hp (by unfold bd; decide)) (nz_set (by omega) (by unfold p0; decide))
  · refine ite_f (beq_false_of_ne (by omega)) ?_
    ((first | (with_reducible refine Box.mk ?_) | skip); show WSs _ _ _ _; rw [WSs_n])
    ((first | (with_reducible refine Box.mk ?_) | skip); show WSs _ (_ :: _) _ _; rw [WSs_cB]; simp only [wipeE, WCs, mkEnv, fnEnds, WS_raise, WS_try, WS_frz, WS_set, WS_setT, WS_par2, WS_par3, WS_aug, WS_expr, WS_ret, WS_retv, WS_retN, WS_if, WS_for, WS_while, WS_brk, WS_cont, WS_pass, WS_doc, WS_append, WS_extend, WS_popx, WS_setix, WS_augix, WS_setd, WS_rvs, WS_popset, WS_insert, extW_l, extW_t, insW_2, WE, WAs, WLs, WT, argK, argW, opW, opI, biW, Sl_v, Sl_o, csD, slW, ownW, if_true, if_false, addW_i, addW_l, addW_t, subW_i, mulW_i, mulW_l, mulW_t, fdivW_i, modW_i, powW_i, shlW_i, shrW_i, bitW_i, iaddW_i, imulW_i, ifdivW_i, ltW_i, leW_i, gtW_i, geW_i, eqW_i, neW_i, isW_n, isntW_n, isW_b, isntW_b, idxW_l, idxW_t, optW_s, optP_s, lenW_l, lenW_t, lenW_s, lenW_d, intW_i, intW_b, absW_i, maxW_i, minW_i, negW_i, listW_l, listW_t, tupleW_l, tupleW_t, sliceW_l, sliceW_t, isiW_1, optI_n, optI_s, truW_b, truW_i, truW_l, truW_t, truW_n, itW_l, itW_t, itW_r1, itW_r2, itW_r3, strW_i, itW_el, itW_et, itW_zl, itW_zt, itW_vl, itW_vt, tgW_n, tgW_t, setAll_c, setAll_n, List.map_cons, List.map_nil, List.cons_append, List.nil_append, List.append_nil, List.getElem?_cons_succ, List.getElem?_cons_zero, List.length_cons, List.length_nil, Nat.reduceAdd, Nat.reduceSub, List.replicate, List.set_cons_succ, List.set_cons_zero, mtW, mtTy, getW, bkW, dicW, revW, Sl_od, inW_d, notinW_d])
    exact hq zs (by omega) hp (nz_cnt hc)
--FN _law_line
def sp_law_line : FSp := fun ds Q _ => ∃ i : Nat, ds = [.g i 0] ∧ ∀ a : List P, (1 ≤ a.length ∧ a.length ≤ 4) → (∀ x ∈ a, bd 50 x) → NZ a → Q (.val (lineD a))
abbrev G_law_line : Tab := tabOf [("_law_draw", spDraw), ("_law_pick", spPick), ("_law_point", sp_law_point)] ["len", "range", "tuple"] [] [] []
theorem pure_law_line : ∀ ds Q X, sp_law_line ds Q X → ds.length = 1 ∧ WSs G_law_line ms_law_line (mkEnv 3 ds) (fnEnds Q X) := by
  rintro ds Q X ⟨i, rfl, hq⟩
  refine ⟨rfl, ?_⟩
  simp only [ms_law_line, mkEnv, fnEnds, List.map_cons, List.map_nil, List.length_cons, List.length_nil, Nat.reduceAdd, Nat.reduceSub, List.replicate, List.cons_append, List.nil_append]
  ((first | (with_reducible refine Box.mk ?_) | skip); show WSs _ (_ :: _) _ _; rw [WSs_cB]; simp only [wipeE, WCs, mkEnv, fnEnds, WS_raise, WS_try, WS_frz, WS_set, WS_setT, WS_par2, WS_par3, WS_aug, WS_expr, WS_ret, WS_retv, WS_retN, WS_if, WS_for, WS_while, WS_brk, WS_cont, WS_pass, WS_doc, WS_append, WS_extend, WS_popx, WS_setix, WS_augix, WS_setd, WS_rvs, WS_popset, WS_insert, extW_l, extW_t, insW_2, WE, WAs, WLs, WT, argK, argW, opW, opI, biW, Sl_v, Sl_o, csD, slW, ownW, if_true, if_false, addW_i, addW_l, addW_t, subW_i, mulW_i, mulW_l, mulW_t, fdivW_i, modW_i, powW_i, shlW_i, shrW_i, bitW_i, iaddW_i, imulW_i, ifdivW_i, ltW_i, leW_i, gtW_i, geW_i, eqW_i, neW_i, isW_n, isntW_n, isW_b, isntW_b, idxW_l, idxW_t, optW_s, optP_s, lenW_l, lenW_t, lenW_s, lenW_d, intW_i, intW_b, absW_i, maxW_i, minW_i, negW_i, listW_l, listW_t, tupleW_l, tupleW_t, sliceW_l, sliceW_t, isiW_1, optI_n, optI_s, truW_b, truW_i, truW_l, truW_t, truW_n, itW_l, itW_t, itW_r1, itW_r2, itW_r3, strW_i, itW_el, itW_et, itW_zl, itW_zt, itW_vl, itW_vt, tgW_n, tgW_t, setAll_c, setAll_n, List.map_cons, List.map_nil, List.cons_append, List.nil_append, List.append_nil, List.getElem?_cons_succ, List.getElem?_cons_zero, List.length_cons, List.length_nil, Nat.reduceAdd, Nat.reduceSub, List.replicate, List.set_cons_succ, List.set_cons_zero, mtW, mtTy, getW, bkW, dicW, revW, Sl_od, inW_d, notinW_d])
  refine fnW_mk rfl ⟨i, _, rfl, by decide, smi (by decide) (by decide), fun a a0 a1 => ?_⟩
  simp only [wipeE, WCs, mkEnv, fnEnds, WS_raise, WS_try, WS_frz, WS_set, WS_setT, WS_par2, WS_par3, WS_aug, WS_expr, WS_ret, WS_retv, WS_retN, WS_if, WS_for, WS_while, WS_brk, WS_cont, WS_pass, WS_doc, WS_append, WS_extend, WS_popx, WS_setix, WS_augix, WS_setd, WS_rvs, WS_popset, WS_insert, extW_l, extW_t, insW_2, WE, WAs, WLs, WT, argK, argW, opW, opI, biW, Sl_v, Sl_o, csD, slW, ownW, if_true, if_false, addW_i, addW_l, addW_t, subW_i, mulW_i, mulW_l, mulW_t, fdivW_i, modW_i, powW_i, shlW_i, shrW_i, bitW_i, iaddW_i, imulW_i, ifdivW_i, ltW_i, leW_i, gtW_i, geW_i, eqW_i, neW_i, isW_n, isntW_n, isW_b, isntW_b, idxW_l, idxW_t, optW_s, optP_s, lenW_l, lenW_t, lenW_s, lenW_d, intW_i, intW_b, absW_i, maxW_i, minW_i, negW_i, listW_l, listW_t, tupleW_l, tupleW_t, sliceW_l, sliceW_t, isiW_1, optI_n, optI_s, truW_b, truW_i, truW_l, truW_t, truW_n, itW_l, itW_t, itW_r1, itW_r2, itW_r3, strW_i, itW_el, itW_et, itW_zl, itW_zt, itW_vl, itW_vt, tgW_n, tgW_t, setAll_c, setAll_n, List.map_cons, List.map_nil, List.cons_append, List.nil_append, List.append_nil, List.getElem?_cons_succ, List.getElem?_cons_zero, List.length_cons, List.length_nil, Nat.reduceAdd, Nat.reduceSub, List.replicate, List.set_cons_succ, List.set_cons_zero, mtW, mtTy, getW, bkW, dicW, revW, Sl_od, inW_d, notinW_d]
  refine ⟨by unfold B62; omega, ?_⟩
  obtain ⟨n, hn⟩ : ∃ n : Nat, (1 + a).toNat = n := ⟨_, rfl⟩
  rw [hn, rgD_0]
  refine lcW_gen ptD (bd 50) _ [] (by simp; unfold LIM; omega) (fun d hd kz hkz => ?_) fun zs hz hp => ?_
  · try simp only [wipeE, WCs, wipeE, WCs, mkEnv, fnEnds, WS_raise, WS_try, WS_frz, WS_set, WS_setT, WS_par2, WS_par3, WS_aug, WS_expr, WS_ret, WS_retv, WS_retN, WS_if, WS_for, WS_while, WS_brk, WS_cont, WS_pass, WS_doc, WS_append, WS_extend, WS_popx, WS_setix, WS_augix, WS_setd, WS_rvs, WS_popset, WS_insert, extW_l, extW_t, insW_2, WE, WAs, WLs, WT, argK, argW, opW, opI, biW, Sl_v, Sl_o, csD, slW, ownW, if_true, if_false, addW_i, addW_l, addW_t, subW_i, mulW_i, mulW_l, mulW_t, fdivW_i, modW_i, powW_i, shlW_i, shrW_i, bitW_i, iaddW_i, imulW_i, ifdivW_i, ltW_i, leW_i, gtW_i, geW_i, eqW_i, neW_i, isW_n, isntW_n, isW_b, isntW_b, idxW_l, idxW_t, optW_s, optP_s, lenW_l, lenW_t, lenW_s, lenW_d, intW_i, intW_b, absW_i, maxW_i, minW_i, negW_i, listW_l, listW_t, tupleW_l, tupleW_t, sliceW_l, sliceW_t, isiW_1, optI_n, optI_s, truW_b, truW_i, truW_l, truW_t, truW_n, itW_l, itW_t, itW_r1, itW_r2, itW_r3, strW_i, itW_el, itW_et, itW_zl, itW_zt, itW_vl, itW_vt, tgW_n, tgW_t, setAll_c, setAll_n, List.map_cons, List.map_nil, List.cons_append, List.nil_append, List.append_nil, List.getElem?_cons_succ, List.getElem?_cons_zero, List.length_cons, List.length_nil, Nat.reduceAdd, Nat.reduceSub, List.replicate, List.set_cons_succ, List.set_cons_zero, mtW, mtTy, getW, bkW, dicW, revW, Sl_od, inW_d, notinW_d]
    refine ⟨by decide, fnW_mk rfl ⟨i, _, rfl, by decide, fun w hw => ?_⟩⟩
    have hw : ∃ v : Int, w = .int v ∧ 0 ≤ v ∧ v ≤ 50 := by
      simp only [List.mem_cons, List.not_mem_nil, or_false] at hw
      rcases hw with rfl | rfl | rfl | rfl <;> exact ⟨_, rfl, by decide, by decide⟩
    obtain ⟨v, rfl, v0, v1⟩ := hw
    try simp only [wipeE, WCs, mkEnv, fnEnds, WS_raise, WS_try, WS_frz, WS_set, WS_setT, WS_par2, WS_par3, WS_aug, WS_expr, WS_ret, WS_retv, WS_retN, WS_if, WS_for, WS_while, WS_brk, WS_cont, WS_pass, WS_doc, WS_append, WS_extend, WS_popx, WS_setix, WS_augix, WS_setd, WS_rvs, WS_popset, WS_insert, extW_l, extW_t, insW_2, WE, WAs, WLs, WT, argK, argW, opW, opI, biW, Sl_v, Sl_o, csD, slW, ownW, if_true, if_false, addW_i, addW_l, addW_t, subW_i, mulW_i, mulW_l, mulW_t, fdivW_i, modW_i, powW_i, shlW_i, shrW_i, bitW_i, iaddW_i, imulW_i, ifdivW_i, ltW_i, leW_i, gtW_i, geW_i, eqW_i, neW_i, isW_n, isntW_n, isW_b, isntW_b, idxW_l, idxW_t, optW_s, optP_s, lenW_l, lenW_t, lenW_s, lenW_d, intW_i, intW_b, absW_i, maxW_i, minW_i, negW_i, listW_l, listW_t, tupleW_l, tupleW_t, sliceW_l, sliceW_t, isiW_1, optI_n, optI_s, truW_b, truW_i, truW_l, truW_t, truW_n, itW_l, itW_t, itW_r1, itW_r2, itW_r3, strW_i, itW_el, itW_et, itW_zl, itW_zt, itW_vl, itW_vt, tgW_n, tgW_t, setAll_c, setAll_n, List.map_cons, List.map_nil, List.cons_append, List.nil_append, List.append_nil, List.getElem?_cons_succ, List.getElem?_cons_zero, List.length_cons, List.length_nil, Nat.reduceAdd, Nat.reduceSub, List.replicate, List.set_cons_succ, List.set_cons_zero, mtW, mtTy, getW, bkW, dicW, revW, Sl_od, inW_d, notinW_d]
    exact fnW_mk rfl ⟨i, v, rfl, by omega, fun x hx => hkz x (bd_up hx v1)⟩
  rw [List.nil_append, show zs.map ptD = ptsD zs from rfl]
  have hz : zs.length = n := by simpa using hz
  ((first | (with_reducible refine Box.mk ?_) | skip); show WSs _ (_ :: _) _ _; rw [WSs_cB]; simp only [wipeE, WCs, mkEnv, fnEnds, WS_raise, WS_try, WS_frz, WS_set, WS_setT, WS_par2, WS_par3, WS_aug, WS_expr, WS_ret, WS_retv, WS_retN, WS_if, WS_for, WS_while, WS_brk, WS_cont, WS_pass, WS_doc, WS_append, WS_extend, WS_popx, WS_setix, WS_augix, WS_setd, WS_rvs, WS_popset, WS_insert, extW_l, extW_t, insW_2, WE, WAs, WLs, WT, argK, argW, opW, opI, biW, Sl_v, Sl_o, csD, slW, ownW, if_true, if_false, addW_i, addW_l, addW_t, subW_i, mulW_i, mulW_l, mulW_t, fdivW_i, modW_i, powW_i, shlW_i, shrW_i, bitW_i, iaddW_i, imulW_i, ifdivW_i, ltW_i, leW_i, gtW_i, geW_i, eqW_i, neW_i, isW_n, isntW_n, isW_b, isntW_b, idxW_l, idxW_t, optW_s, optP_s, lenW_l, lenW_t, lenW_s, lenW_d, intW_i, intW_b, absW_i, maxW_i, minW_i, negW_i, listW_l, listW_t, tupleW_l, tupleW_t, sliceW_l, sliceW_t, isiW_1, optI_n, optI_s, truW_b, truW_i, truW_l, truW_t, truW_n, itW_l, itW_t, itW_r1, itW_r2, itW_r3, strW_i, itW_el, itW_et, itW_zl, itW_zt, itW_vl, itW_vt, tgW_n, tgW_t, setAll_c, setAll_n, List.map_cons, List.map_nil, List.cons_append, List.nil_append, List.append_nil, List.getElem?_cons_succ, List.getElem?_cons_zero, List.length_cons, List.length_nil, Nat.reduceAdd, Nat.reduceSub, List.replicate, List.set_cons_succ, List.set_cons_zero, mtW, mtTy, getW, bkW, dicW, revW, Sl_od, inW_d, notinW_d])
  refine ⟨trivial, by decide, countW_pts ?_⟩
  simp only [wipeE, WCs, mkEnv, fnEnds, WS_raise, WS_try, WS_frz, WS_set, WS_setT, WS_par2, WS_par3, WS_aug, WS_expr, WS_ret, WS_retv, WS_retN, WS_if, WS_for, WS_while, WS_brk, WS_cont, WS_pass, WS_doc, WS_append, WS_extend, WS_popx, WS_setix, WS_augix, WS_setd, WS_rvs, WS_popset, WS_insert, extW_l, extW_t, insW_2, WE, WAs, WLs, WT, argK, argW, opW, opI, biW, Sl_v, Sl_o, csD, slW, ownW, if_true, if_false, addW_i, addW_l, addW_t, subW_i, mulW_i, mulW_l, mulW_t, fdivW_i, modW_i, powW_i, shlW_i, shrW_i, bitW_i, iaddW_i, imulW_i, ifdivW_i, ltW_i, leW_i, gtW_i, geW_i, eqW_i, neW_i, isW_n, isntW_n, isW_b, isntW_b, idxW_l, idxW_t, optW_s, optP_s, lenW_l, lenW_t, lenW_s, lenW_d, intW_i, intW_b, absW_i, maxW_i, minW_i, negW_i, listW_l, listW_t, tupleW_l, tupleW_t, sliceW_l, sliceW_t, isiW_1, optI_n, optI_s, truW_b, truW_i, truW_l, truW_t, truW_n, itW_l, itW_t, itW_r1, itW_r2, itW_r3, strW_i, itW_el, itW_et, itW_zl, itW_zt, itW_vl, itW_vt, tgW_n, tgW_t, setAll_c, setAll_n, List.map_cons, List.map_nil, List.cons_append, List.nil_append, List.append_nil, List.getElem?_cons_succ, List.getElem?_cons_zero, List.length_cons, List.length_nil, Nat.reduceAdd, Nat.reduceSub, List.replicate, List.set_cons_succ, List.set_cons_zero, mtW, mtTy, getW, bkW, dicW, revW, Sl_od, inW_d, notinW_d, pts_len]
  have hzl : 1 ≤ zs.length := by omega
  by_cases hc : zs.countP (fun x => decide (x = p0)) = zs.length
  · refine ite_t (by rw [hc]; exact beq_self_eq_true _) ?_
    ((first | (with_reducible refine Box.mk ?_) | skip); show WSs _ (_ :: _) _ _; rw [WSs_cB]; simp only [wipeE, WCs, mkEnv, fnEnds, WS_raise, WS_try, WS_frz, WS_set, WS_setT, WS_par2, WS_par3, WS_aug, WS_expr, WS_ret, WS_retv, WS_retN, WS_if, WS_for, WS_while, WS_brk, WS_cont, WS_pass, WS_doc, WS_append, WS_extend, WS_popx, WS_setix, WS_augix, WS_setd, WS_rvs, WS_popset, WS_insert, extW_l, extW_t, insW_2, WE, WAs, WLs, WT, argK, argW, opW, opI, biW, Sl_v, Sl_o, csD, slW, ownW, if_true, if_false, addW_i, addW_l, addW_t, subW_i, mulW_i, mulW_l, mulW_t, fdivW_i, modW_i, powW_i, shlW_i, shrW_i, bitW_i, iaddW_i, imulW_i, ifdivW_i, ltW_i, leW_i, gtW_i, geW_i, eqW_i, neW_i, isW_n, isntW_n, isW_b, isntW_b, idxW_l, idxW_t, optW_s, optP_s, lenW_l, lenW_t, lenW_s, lenW_d, intW_i, intW_b, absW_i, maxW_i, minW_i, negW_i, listW_l, listW_t, tupleW_l, tupleW_t, sliceW_l, sliceW_t, isiW_1, optI_n, optI_s, truW_b, truW_i, truW_l, truW_t, truW_n, itW_l, itW_t, itW_r1, itW_r2, itW_r3, strW_i, itW_el, itW_et, itW_zl, itW_zt, itW_vl, itW_vt, tgW_n, tgW_t, setAll_c, setAll_n, List.map_cons, List.map_nil, List.cons_append, List.nil_append, List.append_nil, List.getElem?_cons_succ, List.getElem?_cons_zero, List.length_cons, List.length_nil, Nat.reduceAdd, Nat.reduceSub, List.replicate, List.set_cons_succ, List.set_cons_zero, mtW, mtTy, getW, bkW, dicW, revW, Sl_od, inW_d, notinW_d])
    refine ⟨by decide, ixW_nat (n := 0) (by rw [pts_len]; omega) ?_⟩
    rw [show D.tup [.int 0, .int 1] = ptD (0, 1) from rfl, pts_set]
    ((first | (with_reducible refine Box.mk ?_) | skip); show WSs _ _ _ _; rw [WSs_n])
    ((first | (with_reducible refine Box.mk ?_) | skip); show WSs _ (_ :: _) _ _; rw [WSs_cB]; simp only [wipeE, WCs, mkEnv, fnEnds, WS_raise, WS_try, WS_frz, WS_set, WS_setT, WS_par2, WS_par3, WS_aug, WS_expr, WS_ret, WS_retv, WS_retN, WS_if, WS_for, WS_while, WS_brk, WS_cont, WS_pass, WS_doc, WS_append, WS_extend, WS_popx, WS_setix, WS_augix, WS_setd, WS_rvs, WS_popset, WS_insert, extW_l, extW_t, insW_2, WE, WAs, WLs, WT, argK, argW, opW, opI, biW, Sl_v, Sl_o, csD, slW, ownW, if_true, if_false, addW_i, addW_l, addW_t, subW_i, mulW_i, mulW_l, mulW_t, fdivW_i, modW_i, powW_i, shlW_i, shrW_i, bitW_i, iaddW_i, imulW_i, ifdivW_i, ltW_i, leW_i, gtW_i, geW_i, eqW_i, neW_i, isW_n, isntW_n, isW_b, isntW_b, idxW_l, idxW_t, optW_s, optP_s, lenW_l, lenW_t, lenW_s, lenW_d, intW_i, intW_b, absW_i, maxW_i, minW_i, negW_i, listW_l, listW_t, tupleW_l, tupleW_t, sliceW_l, sliceW_t, isiW_1, optI_n, optI_s, truW_b, truW_i, truW_l, truW_t, truW_n, itW_l, itW_t, itW_r1, itW_r2, itW_r3, strW_i, itW_el, itW_et, itW_zl, itW_zt, itW_vl, itW_vt, tgW_n, tgW_t, setAll_c, setAll_n, List.map_cons, List.map_nil, List.cons_append, List.nil_append, List.append_nil, List.getElem?_cons_succ, List.getElem?_cons_zero, List.length_cons, List.length_nil, Nat.reduceAdd, Nat.reduceSub, List.replicate, List.set_cons_succ, List.set_cons_zero, mtW, mtTy, getW, bkW, dicW, revW, Sl_od, inW_d, notinW_d])
    refine ⟨by decide, ?_⟩
    exact hq _ (by simp; omega) (set_bd hp (by unfold bd; decide)) (nz_set (by omega) (by unfold p0; decide))
  · refine ite_f (beq_false_of_ne (by omega)) ?_
    ((first | (with_reducible refine Box.mk ?_) | skip); show WSs _ _ _ _; rw [WSs_n])
    ((first | (with_reducible refine Box.mk ?_) | skip); show WSs _ (_ :: _) _ _; rw [WSs_cB]; simp only [wipeE, WCs, mkEnv, fnEnds, WS_raise, WS_try, WS_frz, WS_set, WS_setT, WS_par2, WS_par3, WS_aug, WS_expr, WS_ret, WS_retv, WS_retN, WS_if, WS_for, WS_while, WS_brk, WS_cont, WS_pass, WS_doc, WS_append, WS_extend, WS_popx, WS_setix, WS_augix, WS_setd, WS_rvs, WS_popset, WS_insert, extW_l, extW_t, insW_2, WE, WAs, WLs, WT, argK, argW, opW, opI, biW, Sl_v, Sl_o, csD, slW, ownW, if_true, if_false, addW_i, addW_l, addW_t, subW_i, mulW_i, mulW_l, mulW_t, fdivW_i, modW_i, powW_i, shlW_i, shrW_i, bitW_i, iaddW_i, imulW_i, ifdivW_i, ltW_i, leW_i, gtW_i, geW_i, eqW_i, neW_i, isW_n, isntW_n, isW_b, isntW_b, idxW_l, idxW_t, optW_s, optP_s, lenW_l, lenW_t, lenW_s, lenW_d, intW_i, intW_b, absW_i, maxW_i, minW_i, negW_i, listW_l, listW_t, tupleW_l, tupleW_t, sliceW_l, sliceW_t, isiW_1, optI_n, optI_s, truW_b, truW_i, truW_l, truW_t, truW_n, itW_l, itW_t, itW_r1, itW_r2, itW_r3, strW_i, itW_el, itW_et, itW_zl, itW_zt, itW_vl, itW_vt, tgW_n, tgW_t, setAll_c, setAll_n, List.map_cons, List.map_nil, List.cons_append, List.nil_append, List.append_nil, List.getElem?_cons_succ, List.getElem?_cons_zero, List.length_cons, List.length_nil, Nat.reduceAdd, Nat.reduceSub, List.replicate, List.set_cons_succ, List.set_cons_zero, mtW, mtTy, getW, bkW, dicW, revW, Sl_od, inW_d, notinW_d])
    exact ⟨by decide, hq zs (by omega) hp (nz_cnt hc)⟩
end PL.K47

namespace PL.K47
open PySem PySem.Spec PyProof.Rows L2 PL
/-! guesses in order -/
abbrev Tri := Nat × Nat × Nat
def gT (g : Tri) : D := gD g.1 g.2.1 g.2.2
def triI (g : Tri) : List Int := [(g.1 : Int), (g.2.1 : Int), (g.2.2 : Int)]
def gl (n i : Nat) : List Tri := (List.range i).flatMap fun p => (List.range 4).flatMap fun t => (List.range n).map fun k => (p, t, k)
theorem gs_gl {n i : Nat} : gs n i = (gl n i).map gT := by
  unfold gs g2 g1 gl
  rw [List.map_flatMap]
  congr 1
  funext p
  rw [List.map_flatMap]
  congr 1
  funext t
  rw [List.map_map]
  rfl
theorem gl_mem {n i : Nat} {g : Tri} : g ∈ gl n i ↔ g.1 < i ∧ g.2.1 < 4 ∧ g.2.2 < n := by
  unfold gl
  constructor
  · intro h
    obtain ⟨p, hp, h⟩ := List.mem_flatMap.mp h
    obtain ⟨t, ht, h⟩ := List.mem_flatMap.mp h
    obtain ⟨k, hk, rfl⟩ := List.mem_map.mp h
    exact ⟨List.mem_range.mp hp, List.mem_range.mp ht, List.mem_range.mp hk⟩
  · rintro ⟨hp, ht, hk⟩
    exact List.mem_flatMap.mpr ⟨g.1, List.mem_range.mpr hp, List.mem_flatMap.mpr ⟨g.2.1, List.mem_range.mpr ht, List.mem_map.mpr ⟨g.2.2, List.mem_range.mpr hk, rfl⟩⟩⟩
theorem gl_asc {n i : Nat} : (gl n i).Pairwise fun a b => lexI (triI a) (triI b) = true := by
  unfold gl
  rw [List.pairwise_flatMap]
  refine ⟨fun p _ => ?_, List.Pairwise.imp ?_ (List.pairwise_lt_range)⟩
  · rw [List.pairwise_flatMap]
    refine ⟨fun t _ => ?_, List.Pairwise.imp ?_ (List.pairwise_lt_range)⟩
    · rw [List.pairwise_map]
      refine List.Pairwise.imp ?_ (List.pairwise_lt_range)
      intro a b h
      simp [triI, lexI]
      omega
    · intro a b h x hx y hy
      obtain ⟨u, _, rfl⟩ := List.mem_map.mp hx
      obtain ⟨v, _, rfl⟩ := List.mem_map.mp hy
      simp [triI, lexI]
      omega
  · intro a b h x hx y hy
    obtain ⟨t, _, hx⟩ := List.mem_flatMap.mp hx
    obtain ⟨u, _, rfl⟩ := List.mem_map.mp hx
    obtain ⟨t, _, hy⟩ := List.mem_flatMap.mp hy
    obtain ⟨v, _, rfl⟩ := List.mem_map.mp hy
    simp [triI, lexI]
    omega
/-- the first one of least cost -/
def amS (C : Tri → Int) (b : Option Tri) (g : Tri) : Option Tri := match b with
  | none => some g
  | some b => some (if C g < C b then g else b)
def am (C : Tri → Int) (u : List Tri) : Option Tri := u.foldl (amS C) none
theorem am_s {C : Tri → Int} {u : List Tri} {g : Tri} : am C (u ++ [g]) = amS C (am C u) g := by
  unfold am
  rw [List.foldl_append]
  rfl
theorem am_mem {C : Tri → Int} : ∀ (v u : List Tri) (b0 : Option Tri), (∀ b, b0 = some b → b ∈ u) → ∀ b, v.foldl (amS C) b0 = some b → b ∈ u ++ v
  | [], u, b0, h, b, e => by rw [List.append_nil]; exact h b e
  | g :: v, u, b0, h, b, e => by
    have := am_mem v (u ++ [g]) (amS C b0 g) (fun c hc => by
      cases b0 with
      | none => cases hc; simp
      | some d =>
        have hd := h d rfl
        unfold amS at hc
        simp only [Option.some.injEq] at hc
        subst hc
        split
        · simp
        · exact List.mem_append_left _ hd) b e
    simpa using this
theorem am_in {C : Tri → Int} {u : List Tri} {b : Tri} (h : am C u = some b) : b ∈ u := by
  have := am_mem u [] none (fun _ z => by cases z) b h
  simpa using this
theorem am_some {C : Tri → Int} : ∀ (v : List Tri) (b : Tri), ∃ c, v.foldl (amS C) (some b) = some c
  | [], b => ⟨b, rfl⟩
  | g :: v, b => am_some v _
theorem am_ne {C : Tri → Int} {u : List Tri} (h : u ≠ []) : ∃ b, am C u = some b := by
  cases u with
  | nil => exact absurd rfl h
  | cons g u => exact am_some u g
/-- what is kept of the best one -/
def bestD (C : Tri → Int) (b : Option Tri) : D := match b with
  | none => .non
  | some b => .tup [.int (C b), gT b]
theorem lt_cg {c d : Int} {g h : Tri} : PySem.W.dataLt (.tuple [.int c, .tuple ((triI g).map PyData.int)]) (.tuple [.int d, .tuple ((triI h).map PyData.int)]) = (decide (c < d) || (decide (c = d) && lexI (triI g) (triI h))) := by
  rw [lt_tup, lt_scons _ _ (alike_int c d), eqv_i, lt_dint, lt_scons _ _ (by rw [PySem.W.alike]; exact alike_ints _ _), PyData.eqv, eqv_ints, lt_snil, lt_tup, lt_ints]
  by_cases e : c = d
  · subst e
    simp
    intro h1 h2
    rw [h2, lexI_irr] at h1
    cases h1
  · rw [beq_false_of_ne e, decide_eq_false e]
    simp
theorem ltW_cg {c d : Int} {g h : Tri} {Q : QS} (hl : lexI (triI h) (triI g) = true) (k : Q (.val (.bl (decide (c < d))))) : ltW (.tup [.int c, gT g]) (.tup [.int d, gT h]) Q := by
  refine ltW_t (p := .tuple [.int c, .tuple ((triI g).map PyData.int)]) (q := .tuple [.int d, .tuple ((triI h).map PyData.int)]) rfl rfl ?_ (by simp [PyData.depth, PyData.depthAll, triI]) lt_cg ?_
  · rw [PySem.W.alike, PySem.W.alikeAll, alike_int, PySem.W.alikeAll, PySem.W.alike, alike_ints]
    rfl
  · rw [lexI_asym _ _ hl, Bool.and_false, Bool.or_false]
    exact k
theorem asc_in {n i : Nat} {u v : List Tri} {x b : Tri} (h : gl n i = u ++ x :: v) (hb : b ∈ u) : lexI (triI b) (triI x) = true := by
  have := gl_asc (n := n) (i := i)
  rw [h, List.pairwise_append] at this
  exact this.2.2 b hb x List.mem_cons_self
/-- the cost of a guess -/
def gC (o : List P) (ls : List (List P)) (s : List (Option P)) (g : Tri) : Int := csum (shp o (ls.getD g.2.2 []) g.2.1) s g.1 o.length
--FN guesses
def sp_guesses : FSp := fun ds Q _ => ∃ (L : D) (ls : List (List P)) (s : Nat), ds = [L, .int (s : Nat)] ∧ LnsD L ls ∧ ls.length ≤ 100 ∧ s ≤ 999 ∧ Q (.own (gs ls.length (s + 1)))
abbrev G_guesses : Tab := tabOf [] ["len", "range"] [] [] []
theorem pure_guesses : ∀ ds Q X, sp_guesses ds Q X → ds.length = 2 ∧ WSs G_guesses ms_guesses (mkEnv 6 ds) (fnEnds Q X) := by
  rintro ds Q X ⟨L, ls, s, rfl, hL, hl, hs, hq⟩
  refine ⟨rfl, ?_⟩
  simp only [ms_guesses, mkEnv, fnEnds, List.map_cons, List.map_nil, List.length_cons, List.length_nil, Nat.reduceAdd, Nat.reduceSub, List.replicate, List.cons_append, List.nil_append]
  ((first | (with_reducible refine Box.mk ?_) | skip); show WSs _ (_ :: _) _ _; rw [WSs_cB]; simp only [wipeE, WCs, mkEnv, fnEnds, WS_raise, WS_try, WS_frz, WS_set, WS_setT, WS_par2, WS_par3, WS_aug, WS_expr, WS_ret, WS_retv, WS_retN, WS_if, WS_for, WS_while, WS_brk, WS_cont, WS_pass, WS_doc, WS_append, WS_extend, WS_popx, WS_setix, WS_augix, WS_setd, WS_rvs, WS_popset, WS_insert, extW_l, extW_t, insW_2, WE, WAs, WLs, WT, argK, argW, opW, opI, biW, Sl_v, Sl_o, csD, slW, ownW, if_true, if_false, addW_i, addW_l, addW_t, subW_i, mulW_i, mulW_l, mulW_t, fdivW_i, modW_i, powW_i, shlW_i, shrW_i, bitW_i, iaddW_i, imulW_i, ifdivW_i, ltW_i, leW_i, gtW_i, geW_i, eqW_i, neW_i, isW_n, isntW_n, isW_b, isntW_b, idxW_l, idxW_t, optW_s, optP_s, lenW_l, lenW_t, lenW_s, lenW_d, intW_i, intW_b, absW_i, maxW_i, minW_i, negW_i, listW_l, listW_t, tupleW_l, tupleW_t, sliceW_l, sliceW_t, isiW_1, optI_n, optI_s, truW_b, truW_i, truW_l, truW_t, truW_n, itW_l, itW_t, itW_r1, itW_r2, itW_r3, strW_i, itW_el, itW_et, itW_zl, itW_zt, itW_vl, itW_vt, tgW_n, tgW_t, setAll_c, setAll_n, List.map_cons, List.map_nil, List.cons_append, List.nil_append, List.append_nil, List.getElem?_cons_succ, List.getElem?_cons_zero, List.length_cons, List.length_nil, Nat.reduceAdd, Nat.reduceSub, List.replicate, List.set_cons_succ, List.set_cons_zero, mtW, mtTy, getW, bkW, dicW, revW, Sl_od, inW_d, notinW_d])
  refine ⟨by decide, ?_⟩
  ((first | (with_reducible refine Box.mk ?_) | skip); show WSs _ (_ :: _) _ _; rw [WSs_cB]; simp only [wipeE, WCs, mkEnv, fnEnds, WS_raise, WS_try, WS_frz, WS_set, WS_setT, WS_par2, WS_par3, WS_aug, WS_expr, WS_ret, WS_retv, WS_retN, WS_if, WS_for, WS_while, WS_brk, WS_cont, WS_pass, WS_doc, WS_append, WS_extend, WS_popx, WS_setix, WS_augix, WS_setd, WS_rvs, WS_popset, WS_insert, extW_l, extW_t, insW_2, WE, WAs, WLs, WT, argK, argW, opW, opI, biW, Sl_v, Sl_o, csD, slW, ownW, if_true, if_false, addW_i, addW_l, addW_t, subW_i, mulW_i, mulW_l, mulW_t, fdivW_i, modW_i, powW_i, shlW_i, shrW_i, bitW_i, iaddW_i, imulW_i, ifdivW_i, ltW_i, leW_i, gtW_i, geW_i, eqW_i, neW_i, isW_n, isntW_n, isW_b, isntW_b, idxW_l, idxW_t, optW_s, optP_s, lenW_l, lenW_t, lenW_s, lenW_d, intW_i, intW_b, absW_i, maxW_i, minW_i, negW_i, listW_l, listW_t, tupleW_l, tupleW_t, sliceW_l, sliceW_t, isiW_1, optI_n, optI_s, truW_b, truW_i, truW_l, truW_t, truW_n, itW_l, itW_t, itW_r1, itW_r2, itW_r3, strW_i, itW_el, itW_et, itW_zl, itW_zt, itW_vl, itW_vt, tgW_n, tgW_t, setAll_c, setAll_n, List.map_cons, List.map_nil, List.cons_append, List.nil_append, List.append_nil, List.getElem?_cons_succ, List.getElem?_cons_zero, List.length_cons, List.length_nil, Nat.reduceAdd, Nat.reduceSub, List.replicate, List.set_cons_succ, List.set_cons_zero, mtW, mtTy, getW, bkW, dicW, revW, Sl_od, inW_d, notinW_d])
  refine ⟨by unfold B62; omega, ?_⟩
  have es : ((s : Int) + 1).toNat = s + 1 := by omega
  rw [es, rgD_0]
  refine forW_rg (fun i ρ => ∃ y3 y4 y5 : Option Sl, ρ = [some (.val L), some (.val (.int (s : Nat))), some (.own (gs ls.length i)), y3, y4, y5]) 0 (s + 1) ⟨_, _, _, rfl⟩ ?_ ?_
  · rintro i ρ _ hi ⟨y3, y4, y5, rfl⟩ kk hkk
    simp only [wipeE, WCs, mkEnv, fnEnds, WS_raise, WS_try, WS_frz, WS_set, WS_setT, WS_par2, WS_par3, WS_aug, WS_expr, WS_ret, WS_retv, WS_retN, WS_if, WS_for, WS_while, WS_brk, WS_cont, WS_pass, WS_doc, WS_append, WS_extend, WS_popx, WS_setix, WS_augix, WS_setd, WS_rvs, WS_popset, WS_insert, extW_l, extW_t, insW_2, WE, WAs, WLs, WT, argK, argW, opW, opI, biW, Sl_v, Sl_o, csD, slW, ownW, if_true, if_false, addW_i, addW_l, addW_t, subW_i, mulW_i, mulW_l, mulW_t, fdivW_i, modW_i, powW_i, shlW_i, shrW_i, bitW_i, iaddW_i, imulW_i, ifdivW_i, ltW_i, leW_i, gtW_i, geW_i, eqW_i, neW_i, isW_n, isntW_n, isW_b, isntW_b, idxW_l, idxW_t, optW_s, optP_s, lenW_l, lenW_t, lenW_s, lenW_d, intW_i, intW_b, absW_i, maxW_i, minW_i, negW_i, listW_l, listW_t, tupleW_l, tupleW_t, sliceW_l, sliceW_t, isiW_1, optI_n, optI_s, truW_b, truW_i, truW_l, truW_t, truW_n, itW_l, itW_t, itW_r1, itW_r2, itW_r3, strW_i, itW_el, itW_et, itW_zl, itW_zt, itW_vl, itW_vt, tgW_n, tgW_t, setAll_c, setAll_n, List.map_cons, List.map_nil, List.cons_append, List.nil_append, List.append_nil, List.getElem?_cons_succ, List.getElem?_cons_zero, List.length_cons, List.length_nil, Nat.reduceAdd, Nat.reduceSub, List.replicate, List.set_cons_succ, List.set_cons_zero, mtW, mtTy, getW, bkW, dicW, revW, Sl_od, inW_d, notinW_d]
    ((first | (with_reducible refine Box.mk ?_) | skip); show WSs _ (_ :: _) _ _; rw [WSs_cB]; simp only [wipeE, WCs, mkEnv, fnEnds, WS_raise, WS_try, WS_frz, WS_set, WS_setT, WS_par2, WS_par3, WS_aug, WS_expr, WS_ret, WS_retv, WS_retN, WS_if, WS_for, WS_while, WS_brk, WS_cont, WS_pass, WS_doc, WS_append, WS_extend, WS_popx, WS_setix, WS_augix, WS_setd, WS_rvs, WS_popset, WS_insert, extW_l, extW_t, insW_2, WE, WAs, WLs, WT, argK, argW, opW, opI, biW, Sl_v, Sl_o, csD, slW, ownW, if_true, if_false, addW_i, addW_l, addW_t, subW_i, mulW_i, mulW_l, mulW_t, fdivW_i, modW_i, powW_i, shlW_i, shrW_i, bitW_i, iaddW_i, imulW_i, ifdivW_i, ltW_i, leW_i, gtW_i, geW_i, eqW_i, neW_i, isW_n, isntW_n, isW_b, isntW_b, idxW_l, idxW_t, optW_s, optP_s, lenW_l, lenW_t, lenW_s, lenW_d, intW_i, intW_b, absW_i, maxW_i, minW_i, negW_i, listW_l, listW_t, tupleW_l, tupleW_t, sliceW_l, sliceW_t, isiW_1, optI_n, optI_s, truW_b, truW_i, truW_l, truW_t, truW_n, itW_l, itW_t, itW_r1, itW_r2, itW_r3, strW_i, itW_el, itW_et, itW_zl, itW_zt, itW_vl, itW_vt, tgW_n, tgW_t, setAll_c, setAll_n, List.map_cons, List.map_nil, List.cons_append, List.nil_append, List.append_nil, List.getElem?_cons_succ, List.getElem?_cons_zero, List.length_cons, List.length_nil, Nat.reduceAdd, Nat.reduceSub, List.replicate, List.set_cons_succ, List.set_cons_zero, mtW, mtTy, getW, bkW, dicW, revW, Sl_od, inW_d, notinW_d])
    refine ⟨by unfold B62; omega, ?_⟩
    rw [rgD_0]
    refine forW_rg (fun j ρ => ∃ y4 y5 : Option Sl, ρ = [some (.val L), some (.val (.int (s : Nat))), some (.own (gs ls.length i ++ g2 ls.length i j)), some (.val (.int (i : Nat))), y4, y5]) 0 4 ⟨_, _, by
      rw [show g2 ls.length i 0 = [] from rfl, List.append_nil]⟩ ?_ ?_
    · rintro j ρ _ hj ⟨y4, y5, rfl⟩ k2 hk2
      simp only [wipeE, WCs, mkEnv, fnEnds, WS_raise, WS_try, WS_frz, WS_set, WS_setT, WS_par2, WS_par3, WS_aug, WS_expr, WS_ret, WS_retv, WS_retN, WS_if, WS_for, WS_while, WS_brk, WS_cont, WS_pass, WS_doc, WS_append, WS_extend, WS_popx, WS_setix, WS_augix, WS_setd, WS_rvs, WS_popset, WS_insert, extW_l, extW_t, insW_2, WE, WAs, WLs, WT, argK, argW, opW, opI, biW, Sl_v, Sl_o, csD, slW, ownW, if_true, if_false, addW_i, addW_l, addW_t, subW_i, mulW_i, mulW_l, mulW_t, fdivW_i, modW_i, powW_i, shlW_i, shrW_i, bitW_i, iaddW_i, imulW_i, ifdivW_i, ltW_i, leW_i, gtW_i, geW_i, eqW_i, neW_i, isW_n, isntW_n, isW_b, isntW_b, idxW_l, idxW_t, optW_s, optP_s, lenW_l, lenW_t, lenW_s, lenW_d, intW_i, intW_b, absW_i, maxW_i, minW_i, negW_i, listW_l, listW_t, tupleW_l, tupleW_t, sliceW_l, sliceW_t, isiW_1, optI_n, optI_s, truW_b, truW_i, truW_l, truW_t, truW_n, itW_l, itW_t, itW_r1, itW_r2, itW_r3, strW_i, itW_el, itW_et, itW_zl, itW_zt, itW_vl, itW_vt, tgW_n, tgW_t, setAll_c, setAll_n, List.map_cons, List.map_nil, List.cons_append, List.nil_append, List.append_nil, List.getElem?_cons_succ, List.getElem?_cons_zero, List.length_cons, List.length_nil, Nat.reduceAdd, Nat.reduceSub, List.replicate, List.set_cons_succ, List.set_cons_zero, mtW, mtTy, getW, bkW, dicW, revW, Sl_od, inW_d, notinW_d]
      ((first | (with_reducible refine Box.mk ?_) | skip); show WSs _ (_ :: _) _ _; rw [WSs_cB]; simp only [wipeE, WCs, mkEnv, fnEnds, WS_raise, WS_try, WS_frz, WS_set, WS_setT, WS_par2, WS_par3, WS_aug, WS_expr, WS_ret, WS_retv, WS_retN, WS_if, WS_for, WS_while, WS_brk, WS_cont, WS_pass, WS_doc, WS_append, WS_extend, WS_popx, WS_setix, WS_augix, WS_setd, WS_rvs, WS_popset, WS_insert, extW_l, extW_t, insW_2, WE, WAs, WLs, WT, argK, argW, opW, opI, biW, Sl_v, Sl_o, csD, slW, ownW, if_true, if_false, addW_i, addW_l, addW_t, subW_i, mulW_i, mulW_l, mulW_t, fdivW_i, modW_i, powW_i, shlW_i, shrW_i, bitW_i, iaddW_i, imulW_i, ifdivW_i, ltW_i, leW_i, gtW_i, geW_i, eqW_i, neW_i, isW_n, isntW_n, isW_b, isntW_b, idxW_l, idxW_t, optW_s, optP_s, lenW_l, lenW_t, lenW_s, lenW_d, intW_i, intW_b, absW_i, maxW_i, minW_i, negW_i, listW_l, listW_t, tupleW_l, tupleW_t, sliceW_l, sliceW_t, isiW_1, optI_n, optI_s, truW_b, truW_i, truW_l, truW_t, truW_n, itW_l, itW_t, itW_r1, itW_r2, itW_r3, strW_i, itW_el, itW_et, itW_zl, itW_zt, itW_vl, itW_vt, tgW_n, tgW_t, setAll_c, setAll_n, List.map_cons, List.map_nil, List.cons_append, List.nil_append, List.append_nil, List.getElem?_cons_succ, List.getElem?_cons_zero, List.length_cons, List.length_nil, Nat.reduceAdd, Nat.reduceSub, List.replicate, List.set_cons_succ, List.set_cons_zero, mtW, mtTy, getW, bkW, dicW, revW, Sl_od, inW_d, notinW_d])
      refine lns_len hL ?_
      simp only [wipeE, WCs, mkEnv, fnEnds, WS_raise, WS_try, WS_frz, WS_set, WS_setT, WS_par2, WS_par3, WS_aug, WS_expr, WS_ret, WS_retv, WS_retN, WS_if, WS_for, WS_while, WS_brk, WS_cont, WS_pass, WS_doc, WS_append, WS_extend, WS_popx, WS_setix, WS_augix, WS_setd, WS_rvs, WS_popset, WS_insert, extW_l, extW_t, insW_2, WE, WAs, WLs, WT, argK, argW, opW, opI, biW, Sl_v, Sl_o, csD, slW, ownW, if_true, if_false, addW_i, addW_l, addW_t, subW_i, mulW_i, mulW_l, mulW_t, fdivW_i, modW_i, powW_i, shlW_i, shrW_i, bitW_i, iaddW_i, imulW_i, ifdivW_i, ltW_i, leW_i, gtW_i, geW_i, eqW_i, neW_i, isW_n, isntW_n, isW_b, isntW_b, idxW_l, idxW_t, optW_s, optP_s, lenW_l, lenW_t, lenW_s, lenW_d, intW_i, intW_b, absW_i, maxW_i, minW_i, negW_i, listW_l, listW_t, tupleW_l, tupleW_t, sliceW_l, sliceW_t, isiW_1, optI_n, optI_s, truW_b, truW_i, truW_l, truW_t, truW_n, itW_l, itW_t, itW_r1, itW_r2, itW_r3, strW_i, itW_el, itW_et, itW_zl, itW_zt, itW_vl, itW_vt, tgW_n, tgW_t, setAll_c, setAll_n, List.map_cons, List.map_nil, List.cons_append, List.nil_append, List.append_nil, List.getElem?_cons_succ, List.getElem?_cons_zero, List.length_cons, List.length_nil, Nat.reduceAdd, Nat.reduceSub, List.replicate, List.set_cons_succ, List.set_cons_zero, mtW, mtTy, getW, bkW, dicW, revW, Sl_od, inW_d, notinW_d]
      refine ⟨by unfold B62; omega, ?_⟩
      rw [Int.toNat_natCast]
      refine lcW_range (f := fun k => gD i j k) (by unfold LIM; omega) (fun k hk kz hkz => ⟨by decide, hkz⟩) ?_
      have eg : (List.range ls.length).map (fun k => gD i j k) = g1 ls.length i j := rfl
      rw [eg]
      simp only [wipeE, WCs, mkEnv, fnEnds, WS_raise, WS_try, WS_frz, WS_set, WS_setT, WS_par2, WS_par3, WS_aug, WS_expr, WS_ret, WS_retv, WS_retN, WS_if, WS_for, WS_while, WS_brk, WS_cont, WS_pass, WS_doc, WS_append, WS_extend, WS_popx, WS_setix, WS_augix, WS_setd, WS_rvs, WS_popset, WS_insert, extW_l, extW_t, insW_2, WE, WAs, WLs, WT, argK, argW, opW, opI, biW, Sl_v, Sl_o, csD, slW, ownW, if_true, if_false, addW_i, addW_l, addW_t, subW_i, mulW_i, mulW_l, mulW_t, fdivW_i, modW_i, powW_i, shlW_i, shrW_i, bitW_i, iaddW_i, imulW_i, ifdivW_i, ltW_i, leW_i, gtW_i, geW_i, eqW_i, neW_i, isW_n, isntW_n, isW_b, isntW_b, idxW_l, idxW_t, optW_s, optP_s, lenW_l, lenW_t, lenW_s, lenW_d, intW_i, intW_b, absW_i, maxW_i, minW_i, negW_i, listW_l, listW_t, tupleW_l, tupleW_t, sliceW_l, sliceW_t, isiW_1, optI_n, optI_s, truW_b, truW_i, truW_l, truW_t, truW_n, itW_l, itW_t, itW_r1, itW_r2, itW_r3, strW_i, itW_el, itW_et, itW_zl, itW_zt, itW_vl, itW_vt, tgW_n, tgW_t, setAll_c, setAll_n, List.map_cons, List.map_nil, List.cons_append, List.nil_append, List.append_nil, List.getElem?_cons_succ, List.getElem?_cons_zero, List.length_cons, List.length_nil, Nat.reduceAdd, Nat.reduceSub, List.replicate, List.set_cons_succ, List.set_cons_zero, mtW, mtTy, getW, bkW, dicW, revW, Sl_od, inW_d, notinW_d, List.length_append, gs_len, g2_len, g1_len]
      have hb := gs_bound (n := ls.length) (s := s) (i := i) (t := j) (k := ls.length) hl (by omega) (by omega) (by omega) (Nat.le_refl _)
      refine ⟨by unfold LIM; omega, ?_⟩
      ((first | (with_reducible refine Box.mk ?_) | skip); show WSs _ _ _ _; rw [WSs_n])
      exact hk2 _ ⟨_, _, by rw [g2_s, List.append_assoc]⟩
    · rintro ρ ⟨y4, y5, rfl⟩
      rw [Nat.zero_add]
      ((first | (with_reducible refine Box.mk ?_) | skip); show WSs _ _ _ _; rw [WSs_n])
      exact hkk _ ⟨_, _, _, by rw [gs_s]⟩
  · rintro ρ ⟨y3, y4, y5, rfl⟩
    rw [Nat.zero_add]
    ((first | (with_reducible refine Box.mk ?_) | skip); show WSs _ (_ :: _) _ _; rw [WSs_cB]; simp only [wipeE, WCs, mkEnv, fnEnds, WS_raise, WS_try, WS_frz, WS_set, WS_setT, WS_par2, WS_par3, WS_aug, WS_expr, WS_ret, WS_retv, WS_retN, WS_if, WS_for, WS_while, WS_brk, WS_cont, WS_pass, WS_doc, WS_append, WS_extend, WS_popx, WS_setix, WS_augix, WS_setd, WS_rvs, WS_popset, WS_insert, extW_l, extW_t, insW_2, WE, WAs, WLs, WT, argK, argW, opW, opI, biW, Sl_v, Sl_o, csD, slW, ownW, if_true, if_false, addW_i, addW_l, addW_t, subW_i, mulW_i, mulW_l, mulW_t, fdivW_i, modW_i, powW_i, shlW_i, shrW_i, bitW_i, iaddW_i, imulW_i, ifdivW_i, ltW_i, leW_i, gtW_i, geW_i, eqW_i, neW_i, isW_n, isntW_n, isW_b, isntW_b, idxW_l, idxW_t, optW_s, optP_s, lenW_l, lenW_t, lenW_s, lenW_d, intW_i, intW_b, absW_i, maxW_i, minW_i, negW_i, listW_l, listW_t, tupleW_l, tupleW_t, sliceW_l, sliceW_t, isiW_1, optI_n, optI_s, truW_b, truW_i, truW_l, truW_t, truW_n, itW_l, itW_t, itW_r1, itW_r2, itW_r3, strW_i, itW_el, itW_et, itW_zl, itW_zt, itW_vl, itW_vt, tgW_n, tgW_t, setAll_c, setAll_n, List.map_cons, List.map_nil, List.cons_append, List.nil_append, List.append_nil, List.getElem?_cons_succ, List.getElem?_cons_zero, List.length_cons, List.length_nil, Nat.reduceAdd, Nat.reduceSub, List.replicate, List.set_cons_succ, List.set_cons_zero, mtW, mtTy, getW, bkW, dicW, revW, Sl_od, inW_d, notinW_d])
    exact hq
/-! turns behind lines -/
def nt (i : Nat) : List (Nat × Nat) := (List.range i).flatMap fun k => (List.range 4).map fun t => (t, k)
theorem nt_s {i : Nat} : nt (i + 1) = nt i ++ (List.range 4).map fun t => (t, i) := by
  unfold nt
  rw [List.range_succ (n := i), List.flatMap_append, List.flatMap_cons, List.flatMap_nil, List.append_nil]
theorem nt_mem {i : Nat} {q : Nat × Nat} : q ∈ nt i ↔ q.2 < i ∧ q.1 < 4 := by
  unfold nt
  rw [List.mem_flatMap]
  constructor
  · rintro ⟨t, ht, hq⟩
    obtain ⟨k, hk, rfl⟩ := List.mem_map.mp hq
    exact ⟨List.mem_range.mp ht, List.mem_range.mp hk⟩
  · rintro ⟨a, b⟩
    exact ⟨q.2, List.mem_range.mpr a, List.mem_map.mpr ⟨q.1, List.mem_range.mpr b, rfl⟩⟩
theorem nt_len : ∀ i, (nt i).length = i * 4
  | 0 => by simp [nt]
  | i + 1 => by rw [nt_s, List.length_append, nt_len i]; simp; omega
--FN shapes_of
def sp_shapes_of : FSp := fun ds Q _ => ∃ (o : List P) (L : D) (ls : List (List P)) (B : Int), ds = [.tup (ptsD o), L] ∧ LnsD L ls ∧ ls.length ≤ 1000 ∧ (∀ n, n < ls.length → OL o (ls.getD n []) B) ∧ Q (.ownd true (kv (nt ls.length) (shF o ls)))
abbrev G_shapes_of : Tab := tabOf [("shape", sp_shape)] ["enumerate", "range"] [] [] []
theorem lns_enum {L : D} {ls : List (List P)} (h : LnsD L ls) {Q : List D → Prop} (k : Q ((List.range' 0 ls.length).map fun i => D.tup [.int (i : Nat), lineD (ls.getD i [])])) : itW .enum [L] Q := by
  rcases h with rfl | rfl
  · rw [itW_el, enum_of ls []]; exact k
  · rw [itW_et, enum_of ls []]; exact k
theorem pure_shapes_of : ∀ ds Q X, sp_shapes_of ds Q X → ds.length = 2 ∧ WSs G_shapes_of ms_shapes_of (mkEnv 6 ds) (fnEnds Q X) := by
  rintro ds Q X ⟨o, L, ls, B, rfl, hL, hl, h, hq⟩
  refine ⟨rfl, ?_⟩
  simp only [ms_shapes_of, mkEnv, fnEnds, List.map_cons, List.map_nil, List.length_cons, List.length_nil, Nat.reduceAdd, Nat.reduceSub, List.replicate, List.cons_append, List.nil_append]
  ((first | (with_reducible refine Box.mk ?_) | skip); show WSs _ (_ :: _) _ _; rw [WSs_cB]; simp only [wipeE, WCs, mkEnv, fnEnds, WS_raise, WS_try, WS_frz, WS_set, WS_setT, WS_par2, WS_par3, WS_aug, WS_expr, WS_ret, WS_retv, WS_retN, WS_if, WS_for, WS_while, WS_brk, WS_cont, WS_pass, WS_doc, WS_append, WS_extend, WS_popx, WS_setix, WS_augix, WS_setd, WS_rvs, WS_popset, WS_insert, extW_l, extW_t, insW_2, WE, WAs, WLs, WT, argK, argW, opW, opI, biW, Sl_v, Sl_o, csD, slW, ownW, if_true, if_false, addW_i, addW_l, addW_t, subW_i, mulW_i, mulW_l, mulW_t, fdivW_i, modW_i, powW_i, shlW_i, shrW_i, bitW_i, iaddW_i, imulW_i, ifdivW_i, ltW_i, leW_i, gtW_i, geW_i, eqW_i, neW_i, isW_n, isntW_n, isW_b, isntW_b, idxW_l, idxW_t, optW_s, optP_s, lenW_l, lenW_t, lenW_s, lenW_d, intW_i, intW_b, absW_i, maxW_i, minW_i, negW_i, listW_l, listW_t, tupleW_l, tupleW_t, sliceW_l, sliceW_t, isiW_1, optI_n, optI_s, truW_b, truW_i, truW_l, truW_t, truW_n, itW_l, itW_t, itW_r1, itW_r2, itW_r3, strW_i, itW_el, itW_et, itW_zl, itW_zt, itW_vl, itW_vt, tgW_n, tgW_t, setAll_c, setAll_n, List.map_cons, List.map_nil, List.cons_append, List.nil_append, List.append_nil, List.getElem?_cons_succ, List.getElem?_cons_zero, List.length_cons, List.length_nil, Nat.reduceAdd, Nat.reduceSub, List.replicate, List.set_cons_succ, List.set_cons_zero, mtW, mtTy, getW, bkW, dicW, revW, Sl_od, inW_d, notinW_d])
  ((first | (with_reducible refine Box.mk ?_) | skip); show WSs _ (_ :: _) _ _; rw [WSs_cB]; simp only [wipeE, WCs, mkEnv, fnEnds, WS_raise, WS_try, WS_frz, WS_set, WS_setT, WS_par2, WS_par3, WS_aug, WS_expr, WS_ret, WS_retv, WS_retN, WS_if, WS_for, WS_while, WS_brk, WS_cont, WS_pass, WS_doc, WS_append, WS_extend, WS_popx, WS_setix, WS_augix, WS_setd, WS_rvs, WS_popset, WS_insert, extW_l, extW_t, insW_2, WE, WAs, WLs, WT, argK, argW, opW, opI, biW, Sl_v, Sl_o, csD, slW, ownW, if_true, if_false, addW_i, addW_l, addW_t, subW_i, mulW_i, mulW_l, mulW_t, fdivW_i, modW_i, powW_i, shlW_i, shrW_i, bitW_i, iaddW_i, imulW_i, ifdivW_i, ltW_i, leW_i, gtW_i, geW_i, eqW_i, neW_i, isW_n, isntW_n, isW_b, isntW_b, idxW_l, idxW_t, optW_s, optP_s, lenW_l, lenW_t, lenW_s, lenW_d, intW_i, intW_b, absW_i, maxW_i, minW_i, negW_i, listW_l, listW_t, tupleW_l, tupleW_t, sliceW_l, sliceW_t, isiW_1, optI_n, optI_s, truW_b, truW_i, truW_l, truW_t, truW_n, itW_l, itW_t, itW_r1, itW_r2, itW_r3, strW_i, itW_el, itW_et, itW_zl, itW_zt, itW_vl, itW_vt, tgW_n, tgW_t, setAll_c, setAll_n, List.map_cons, List.map_nil, List.cons_append, List.nil_append, List.append_nil, List.getElem?_cons_succ, List.getElem?_cons_zero, List.length_cons, List.length_nil, Nat.reduceAdd, Nat.reduceSub, List.replicate, List.set_cons_succ, List.set_cons_zero, mtW, mtTy, getW, bkW, dicW, revW, Sl_od, inW_d, notinW_d])
  refine lns_enum hL ?_
  refine forW_rg (fun i ρ => ∃ y3 y4 y5 : Option Sl, ρ = [some (.val (.tup (ptsD o))), some (.val L), some (.ownd true (kv (nt i) (shF o ls))), y3, y4, y5]) 0 ls.length ⟨_, _, _, rfl⟩ ?_ ?_
  · rintro i ρ _ hi ⟨y3, y4, y5, rfl⟩ kk hkk
    have hi : i < ls.length := by omega
    simp only [wipeE, WCs, mkEnv, fnEnds, WS_raise, WS_try, WS_frz, WS_set, WS_setT, WS_par2, WS_par3, WS_aug, WS_expr, WS_ret, WS_retv, WS_retN, WS_if, WS_for, WS_while, WS_brk, WS_cont, WS_pass, WS_doc, WS_append, WS_extend, WS_popx, WS_setix, WS_augix, WS_setd, WS_rvs, WS_popset, WS_insert, extW_l, extW_t, insW_2, WE, WAs, WLs, WT, argK, argW, opW, opI, biW, Sl_v, Sl_o, csD, slW, ownW, if_true, if_false, addW_i, addW_l, addW_t, subW_i, mulW_i, mulW_l, mulW_t, fdivW_i, modW_i, powW_i, shlW_i, shrW_i, bitW_i, iaddW_i, imulW_i, ifdivW_i, ltW_i, leW_i, gtW_i, geW_i, eqW_i, neW_i, isW_n, isntW_n, isW_b, isntW_b, idxW_l, idxW_t, optW_s, optP_s, lenW_l, lenW_t, lenW_s, lenW_d, intW_i, intW_b, absW_i, maxW_i, minW_i, negW_i, listW_l, listW_t, tupleW_l, tupleW_t, sliceW_l, sliceW_t, isiW_1, optI_n, optI_s, truW_b, truW_i, truW_l, truW_t, truW_n, itW_l, itW_t, itW_r1, itW_r2, itW_r3, strW_i, itW_el, itW_et, itW_zl, itW_zt, itW_vl, itW_vt, tgW_n, tgW_t, setAll_c, setAll_n, List.map_cons, List.map_nil, List.cons_append, List.nil_append, List.append_nil, List.getElem?_cons_succ, List.getElem?_cons_zero, List.length_cons, List.length_nil, Nat.reduceAdd, Nat.reduceSub, List.replicate, List.set_cons_succ, List.set_cons_zero, mtW, mtTy, getW, bkW, dicW, revW, Sl_od, inW_d, notinW_d]
    refine ⟨trivial, ?_⟩
    ((first | (with_reducible refine Box.mk ?_) | skip); show WSs _ (_ :: _) _ _; rw [WSs_cB]; simp only [wipeE, WCs, mkEnv, fnEnds, WS_raise, WS_try, WS_frz, WS_set, WS_setT, WS_par2, WS_par3, WS_aug, WS_expr, WS_ret, WS_retv, WS_retN, WS_if, WS_for, WS_while, WS_brk, WS_cont, WS_pass, WS_doc, WS_append, WS_extend, WS_popx, WS_setix, WS_augix, WS_setd, WS_rvs, WS_popset, WS_insert, extW_l, extW_t, insW_2, WE, WAs, WLs, WT, argK, argW, opW, opI, biW, Sl_v, Sl_o, csD, slW, ownW, if_true, if_false, addW_i, addW_l, addW_t, subW_i, mulW_i, mulW_l, mulW_t, fdivW_i, modW_i, powW_i, shlW_i, shrW_i, bitW_i, iaddW_i, imulW_i, ifdivW_i, ltW_i, leW_i, gtW_i, geW_i, eqW_i, neW_i, isW_n, isntW_n, isW_b, isntW_b, idxW_l, idxW_t, optW_s, optP_s, lenW_l, lenW_t, lenW_s, lenW_d, intW_i, intW_b, absW_i, maxW_i, minW_i, negW_i, listW_l, listW_t, tupleW_l, tupleW_t, sliceW_l, sliceW_t, isiW_1, optI_n, optI_s, truW_b, truW_i, truW_l, truW_t, truW_n, itW_l, itW_t, itW_r1, itW_r2, itW_r3, strW_i, itW_el, itW_et, itW_zl, itW_zt, itW_vl, itW_vt, tgW_n, tgW_t, setAll_c, setAll_n, List.map_cons, List.map_nil, List.cons_append, List.nil_append, List.append_nil, List.getElem?_cons_succ, List.getElem?_cons_zero, List.length_cons, List.length_nil, Nat.reduceAdd, Nat.reduceSub, List.replicate, List.set_cons_succ, List.set_cons_zero, mtW, mtTy, getW, bkW, dicW, revW, Sl_od, inW_d, notinW_d])
    refine ⟨by unfold B62; omega, ?_⟩
    rw [rgD_0]
    refine forW_rg (fun j ρ => ∃ y5 : Option Sl, ρ = [some (.val (.tup (ptsD o))), some (.val L), some (.ownd true (kv (nt i ++ (List.range j).map fun t => (t, i)) (shF o ls))), some (.val (.int (i : Nat))), some (.val (lineD (ls.getD i []))), y5]) 0 4 ⟨_, by rw [List.range_zero, List.map_nil, List.append_nil]⟩ ?_ ?_
    · rintro j ρ _ hj ⟨y5, rfl⟩ k2 hk2
      simp only [wipeE, WCs, mkEnv, fnEnds, WS_raise, WS_try, WS_frz, WS_set, WS_setT, WS_par2, WS_par3, WS_aug, WS_expr, WS_ret, WS_retv, WS_retN, WS_if, WS_for, WS_while, WS_brk, WS_cont, WS_pass, WS_doc, WS_append, WS_extend, WS_popx, WS_setix, WS_augix, WS_setd, WS_rvs, WS_popset, WS_insert, extW_l, extW_t, insW_2, WE, WAs, WLs, WT, argK, argW, opW, opI, biW, Sl_v, Sl_o, csD, slW, ownW, if_true, if_false, addW_i, addW_l, addW_t, subW_i, mulW_i, mulW_l, mulW_t, fdivW_i, modW_i, powW_i, shlW_i, shrW_i, bitW_i, iaddW_i, imulW_i, ifdivW_i, ltW_i, leW_i, gtW_i, geW_i, eqW_i, neW_i, isW_n, isntW_n, isW_b, isntW_b, idxW_l, idxW_t, optW_s, optP_s, lenW_l, lenW_t, lenW_s, lenW_d, intW_i, intW_b, absW_i, maxW_i, minW_i, negW_i, listW_l, listW_t, tupleW_l, tupleW_t, sliceW_l, sliceW_t, isiW_1, optI_n, optI_s, truW_b, truW_i, truW_l, truW_t, truW_n, itW_l, itW_t, itW_r1, itW_r2, itW_r3, strW_i, itW_el, itW_et, itW_zl, itW_zt, itW_vl, itW_vt, tgW_n, tgW_t, setAll_c, setAll_n, List.map_cons, List.map_nil, List.cons_append, List.nil_append, List.append_nil, List.getElem?_cons_succ, List.getElem?_cons_zero, List.length_cons, List.length_nil, Nat.reduceAdd, Nat.reduceSub, List.replicate, List.set_cons_succ, List.set_cons_zero, mtW, mtTy, getW, bkW, dicW, revW, Sl_od, inW_d, notinW_d]
      ((first | (with_reducible refine Box.mk ?_) | skip); show WSs _ (_ :: _) _ _; rw [WSs_cB]; simp only [wipeE, WCs, mkEnv, fnEnds, WS_raise, WS_try, WS_frz, WS_set, WS_setT, WS_par2, WS_par3, WS_aug, WS_expr, WS_ret, WS_retv, WS_retN, WS_if, WS_for, WS_while, WS_brk, WS_cont, WS_pass, WS_doc, WS_append, WS_extend, WS_popx, WS_setix, WS_augix, WS_setd, WS_rvs, WS_popset, WS_insert, extW_l, extW_t, insW_2, WE, WAs, WLs, WT, argK, argW, opW, opI, biW, Sl_v, Sl_o, csD, slW, ownW, if_true, if_false, addW_i, addW_l, addW_t, subW_i, mulW_i, mulW_l, mulW_t, fdivW_i, modW_i, powW_i, shlW_i, shrW_i, bitW_i, iaddW_i, imulW_i, ifdivW_i, ltW_i, leW_i, gtW_i, geW_i, eqW_i, neW_i, isW_n, isntW_n, isW_b, isntW_b, idxW_l, idxW_t, optW_s, optP_s, lenW_l, lenW_t, lenW_s, lenW_d, intW_i, intW_b, absW_i, maxW_i, minW_i, negW_i, listW_l, listW_t, tupleW_l, tupleW_t, sliceW_l, sliceW_t, isiW_1, optI_n, optI_s, truW_b, truW_i, truW_l, truW_t, truW_n, itW_l, itW_t, itW_r1, itW_r2, itW_r3, strW_i, itW_el, itW_et, itW_zl, itW_zt, itW_vl, itW_vt, tgW_n, tgW_t, setAll_c, setAll_n, List.map_cons, List.map_nil, List.cons_append, List.nil_append, List.append_nil, List.getElem?_cons_succ, List.getElem?_cons_zero, List.length_cons, List.length_nil, Nat.reduceAdd, Nat.reduceSub, List.replicate, List.set_cons_succ, List.set_cons_zero, mtW, mtTy, getW, bkW, dicW, revW, Sl_od, inW_d, notinW_d])
      refine fnW_mk rfl ⟨o, _, B, j, rfl, by omega, h i hi, ?_⟩
      simp only [wipeE, WCs, mkEnv, fnEnds, WS_raise, WS_try, WS_frz, WS_set, WS_setT, WS_par2, WS_par3, WS_aug, WS_expr, WS_ret, WS_retv, WS_retN, WS_if, WS_for, WS_while, WS_brk, WS_cont, WS_pass, WS_doc, WS_append, WS_extend, WS_popx, WS_setix, WS_augix, WS_setd, WS_rvs, WS_popset, WS_insert, extW_l, extW_t, insW_2, WE, WAs, WLs, WT, argK, argW, opW, opI, biW, Sl_v, Sl_o, csD, slW, ownW, if_true, if_false, addW_i, addW_l, addW_t, subW_i, mulW_i, mulW_l, mulW_t, fdivW_i, modW_i, powW_i, shlW_i, shrW_i, bitW_i, iaddW_i, imulW_i, ifdivW_i, ltW_i, leW_i, gtW_i, geW_i, eqW_i, neW_i, isW_n, isntW_n, isW_b, isntW_b, idxW_l, idxW_t, optW_s, optP_s, lenW_l, lenW_t, lenW_s, lenW_d, intW_i, intW_b, absW_i, maxW_i, minW_i, negW_i, listW_l, listW_t, tupleW_l, tupleW_t, sliceW_l, sliceW_t, isiW_1, optI_n, optI_s, truW_b, truW_i, truW_l, truW_t, truW_n, itW_l, itW_t, itW_r1, itW_r2, itW_r3, strW_i, itW_el, itW_et, itW_zl, itW_zt, itW_vl, itW_vt, tgW_n, tgW_t, setAll_c, setAll_n, List.map_cons, List.map_nil, List.cons_append, List.nil_append, List.append_nil, List.getElem?_cons_succ, List.getElem?_cons_zero, List.length_cons, List.length_nil, Nat.reduceAdd, Nat.reduceSub, List.replicate, List.set_cons_succ, List.set_cons_zero, mtW, mtTy, getW, bkW, dicW, revW, Sl_od, inW_d, notinW_d]
      refine ⟨by decide, ⟨rfl, ?_⟩, ?_⟩
      · rw [kv_len, List.length_append, nt_len, List.length_map, List.length_range]
        unfold LIM
        omega
      ((first | (with_reducible refine Box.mk ?_) | skip); show WSs _ _ _ _; rw [WSs_n])
      refine hk2 _ ⟨some (.val (.int (j : Nat))), ?_⟩
      have : putD (kv (nt i ++ (List.range j).map fun t => (t, i)) (shF o ls)) (kD2 (j, i)) (shF o ls (j, i)) = _ := kv_put fun z => by
        rcases List.mem_append.mp z with z | z
        · have := (nt_mem.mp z).1
          simp at this
        · obtain ⟨k, hk, e⟩ := List.mem_map.mp z
          have := List.mem_range.mp hk
          simp only [Prod.mk.injEq] at e
          omega
      rw [List.range_succ, List.map_append, ← List.append_assoc]
      exact congrArg (fun z => [some (Sl.val (.tup (ptsD o))), some (Sl.val L), some (Sl.ownd true z), some (Sl.val (.int (i : Nat))), some (Sl.val (lineD (ls.getD i []))), some (Sl.val (.int (j : Nat)))]) this
    · rintro ρ ⟨y5, rfl⟩
      ((first | (with_reducible refine Box.mk ?_) | skip); show WSs _ _ _ _; rw [WSs_n])
      refine hkk _ ⟨some (.val (.int (i : Nat))), some (.val (lineD (ls.getD i []))), y5, ?_⟩
      rw [nt_s]
  · rintro ρ ⟨y3, y4, y5, rfl⟩
    rw [Nat.zero_add]
    ((first | (with_reducible refine Box.mk ?_) | skip); show WSs _ (_ :: _) _ _; rw [WSs_cB]; simp only [wipeE, WCs, mkEnv, fnEnds, WS_raise, WS_try, WS_frz, WS_set, WS_setT, WS_par2, WS_par3, WS_aug, WS_expr, WS_ret, WS_retv, WS_retN, WS_if, WS_for, WS_while, WS_brk, WS_cont, WS_pass, WS_doc, WS_append, WS_extend, WS_popx, WS_setix, WS_augix, WS_setd, WS_rvs, WS_popset, WS_insert, extW_l, extW_t, insW_2, WE, WAs, WLs, WT, argK, argW, opW, opI, biW, Sl_v, Sl_o, csD, slW, ownW, if_true, if_false, addW_i, addW_l, addW_t, subW_i, mulW_i, mulW_l, mulW_t, fdivW_i, modW_i, powW_i, shlW_i, shrW_i, bitW_i, iaddW_i, imulW_i, ifdivW_i, ltW_i, leW_i, gtW_i, geW_i, eqW_i, neW_i, isW_n, isntW_n, isW_b, isntW_b, idxW_l, idxW_t, optW_s, optP_s, lenW_l, lenW_t, lenW_s, lenW_d, intW_i, intW_b, absW_i, maxW_i, minW_i, negW_i, listW_l, listW_t, tupleW_l, tupleW_t, sliceW_l, sliceW_t, isiW_1, optI_n, optI_s, truW_b, truW_i, truW_l, truW_t, truW_n, itW_l, itW_t, itW_r1, itW_r2, itW_r3, strW_i, itW_el, itW_et, itW_zl, itW_zt, itW_vl, itW_vt, tgW_n, tgW_t, setAll_c, setAll_n, List.map_cons, List.map_nil, List.cons_append, List.nil_append, List.append_nil, List.getElem?_cons_succ, List.getElem?_cons_zero, List.length_cons, List.length_nil, Nat.reduceAdd, Nat.reduceSub, List.replicate, List.set_cons_succ, List.set_cons_zero, mtW, mtTy, getW, bkW, dicW, revW, Sl_od, inW_d, notinW_d])
    exact hq
--FN find
def sp_find : FSp := fun ds Q _ => ∃ (o : List P) (L : D) (ls : List (List P)) (s : Nat) (sm : List (Option P)) (B C : Int), ds = [.tup (ptsD o), L, .int (s : Nat), smsD sm] ∧ LnsD L ls ∧ (1 ≤ ls.length ∧ ls.length ≤ 100) ∧ s ≤ 999 ∧ (∀ n, n < ls.length → OL o (ls.getD n []) B) ∧
  (∀ p t n, p ≤ s → t < 4 → n < ls.length → CS (shp o (ls.getD n []) t) sm p C) ∧ ∀ b, am (gC o ls sm) (gl ls.length (s + 1)) = some b → Q (.val (gT b))
abbrev G_find : Tab := tabOf [("apart", sp_apart), ("guesses", sp_guesses), ("shapes_of", sp_shapes_of)] [] [] [] []
theorem pure_find : ∀ ds Q X, sp_find ds Q X → ds.length = 4 ∧ WSs G_find ms_find (mkEnv 10 ds) (fnEnds Q X) := by
  rintro ds Q X ⟨o, L, ls, s, sm, B, C, rfl, hL, ⟨hl1, hl⟩, hs, h, hc, hq⟩
  refine ⟨rfl, ?_⟩
  simp only [ms_find, mkEnv, fnEnds, List.map_cons, List.map_nil, List.length_cons, List.length_nil, Nat.reduceAdd, Nat.reduceSub, List.replicate, List.cons_append, List.nil_append]
  ((first | (with_reducible refine Box.mk ?_) | skip); show WSs _ (_ :: _) _ _; rw [WSs_cB]; simp only [wipeE, WCs, mkEnv, fnEnds, WS_raise, WS_try, WS_frz, WS_set, WS_setT, WS_par2, WS_par3, WS_aug, WS_expr, WS_ret, WS_retv, WS_retN, WS_if, WS_for, WS_while, WS_brk, WS_cont, WS_pass, WS_doc, WS_append, WS_extend, WS_popx, WS_setix, WS_augix, WS_setd, WS_rvs, WS_popset, WS_insert, extW_l, extW_t, insW_2, WE, WAs, WLs, WT, argK, argW, opW, opI, biW, Sl_v, Sl_o, csD, slW, ownW, if_true, if_false, addW_i, addW_l, addW_t, subW_i, mulW_i, mulW_l, mulW_t, fdivW_i, modW_i, powW_i, shlW_i, shrW_i, bitW_i, iaddW_i, imulW_i, ifdivW_i, ltW_i, leW_i, gtW_i, geW_i, eqW_i, neW_i, isW_n, isntW_n, isW_b, isntW_b, idxW_l, idxW_t, optW_s, optP_s, lenW_l, lenW_t, lenW_s, lenW_d, intW_i, intW_b, absW_i, maxW_i, minW_i, negW_i, listW_l, listW_t, tupleW_l, tupleW_t, sliceW_l, sliceW_t, isiW_1, optI_n, optI_s, truW_b, truW_i, truW_l, truW_t, truW_n, itW_l, itW_t, itW_r1, itW_r2, itW_r3, strW_i, itW_el, itW_et, itW_zl, itW_zt, itW_vl, itW_vt, tgW_n, tgW_t, setAll_c, setAll_n, List.map_cons, List.map_nil, List.cons_append, List.nil_append, List.append_nil, List.getElem?_cons_succ, List.getElem?_cons_zero, List.length_cons, List.length_nil, Nat.reduceAdd, Nat.reduceSub, List.replicate, List.set_cons_succ, List.set_cons_zero, mtW, mtTy, getW, bkW, dicW, revW, Sl_od, inW_d, notinW_d])
  refine fnW_mk rfl ⟨o, L, ls, B, rfl, hL, by omega, h, ?_⟩
  ((first | (with_reducible refine Box.mk ?_) | skip); show WSs _ (_ :: _) _ _; rw [WSs_cB]; simp only [wipeE, WCs, mkEnv, fnEnds, WS_raise, WS_try, WS_frz, WS_set, WS_setT, WS_par2, WS_par3, WS_aug, WS_expr, WS_ret, WS_retv, WS_retN, WS_if, WS_for, WS_while, WS_brk, WS_cont, WS_pass, WS_doc, WS_append, WS_extend, WS_popx, WS_setix, WS_augix, WS_setd, WS_rvs, WS_popset, WS_insert, extW_l, extW_t, insW_2, WE, WAs, WLs, WT, argK, argW, opW, opI, biW, Sl_v, Sl_o, csD, slW, ownW, if_true, if_false, addW_i, addW_l, addW_t, subW_i, mulW_i, mulW_l, mulW_t, fdivW_i, modW_i, powW_i, shlW_i, shrW_i, bitW_i, iaddW_i, imulW_i, ifdivW_i, ltW_i, leW_i, gtW_i, geW_i, eqW_i, neW_i, isW_n, isntW_n, isW_b, isntW_b, idxW_l, idxW_t, optW_s, optP_s, lenW_l, lenW_t, lenW_s, lenW_d, intW_i, intW_b, absW_i, maxW_i, minW_i, negW_i, listW_l, listW_t, tupleW_l, tupleW_t, sliceW_l, sliceW_t, isiW_1, optI_n, optI_s, truW_b, truW_i, truW_l, truW_t, truW_n, itW_l, itW_t, itW_r1, itW_r2, itW_r3, strW_i, itW_el, itW_et, itW_zl, itW_zt, itW_vl, itW_vt, tgW_n, tgW_t, setAll_c, setAll_n, List.map_cons, List.map_nil, List.cons_append, List.nil_append, List.append_nil, List.getElem?_cons_succ, List.getElem?_cons_zero, List.length_cons, List.length_nil, Nat.reduceAdd, Nat.reduceSub, List.replicate, List.set_cons_succ, List.set_cons_zero, mtW, mtTy, getW, bkW, dicW, revW, Sl_od, inW_d, notinW_d])
  ((first | (with_reducible refine Box.mk ?_) | skip); show WSs _ (_ :: _) _ _; rw [WSs_cB]; simp only [wipeE, WCs, mkEnv, fnEnds, WS_raise, WS_try, WS_frz, WS_set, WS_setT, WS_par2, WS_par3, WS_aug, WS_expr, WS_ret, WS_retv, WS_retN, WS_if, WS_for, WS_while, WS_brk, WS_cont, WS_pass, WS_doc, WS_append, WS_extend, WS_popx, WS_setix, WS_augix, WS_setd, WS_rvs, WS_popset, WS_insert, extW_l, extW_t, insW_2, WE, WAs, WLs, WT, argK, argW, opW, opI, biW, Sl_v, Sl_o, csD, slW, ownW, if_true, if_false, addW_i, addW_l, addW_t, subW_i, mulW_i, mulW_l, mulW_t, fdivW_i, modW_i, powW_i, shlW_i, shrW_i, bitW_i, iaddW_i, imulW_i, ifdivW_i, ltW_i, leW_i, gtW_i, geW_i, eqW_i, neW_i, isW_n, isntW_n, isW_b, isntW_b, idxW_l, idxW_t, optW_s, optP_s, lenW_l, lenW_t, lenW_s, lenW_d, intW_i, intW_b, absW_i, maxW_i, minW_i, negW_i, listW_l, listW_t, tupleW_l, tupleW_t, sliceW_l, sliceW_t, isiW_1, optI_n, optI_s, truW_b, truW_i, truW_l, truW_t, truW_n, itW_l, itW_t, itW_r1, itW_r2, itW_r3, strW_i, itW_el, itW_et, itW_zl, itW_zt, itW_vl, itW_vt, tgW_n, tgW_t, setAll_c, setAll_n, List.map_cons, List.map_nil, List.cons_append, List.nil_append, List.append_nil, List.getElem?_cons_succ, List.getElem?_cons_zero, List.length_cons, List.length_nil, Nat.reduceAdd, Nat.reduceSub, List.replicate, List.set_cons_succ, List.set_cons_zero, mtW, mtTy, getW, bkW, dicW, revW, Sl_od, inW_d, notinW_d])
  ((first | (with_reducible refine Box.mk ?_) | skip); show WSs _ (_ :: _) _ _; rw [WSs_cB]; simp only [wipeE, WCs, mkEnv, fnEnds, WS_raise, WS_try, WS_frz, WS_set, WS_setT, WS_par2, WS_par3, WS_aug, WS_expr, WS_ret, WS_retv, WS_retN, WS_if, WS_for, WS_while, WS_brk, WS_cont, WS_pass, WS_doc, WS_append, WS_extend, WS_popx, WS_setix, WS_augix, WS_setd, WS_rvs, WS_popset, WS_insert, extW_l, extW_t, insW_2, WE, WAs, WLs, WT, argK, argW, opW, opI, biW, Sl_v, Sl_o, csD, slW, ownW, if_true, if_false, addW_i, addW_l, addW_t, subW_i, mulW_i, mulW_l, mulW_t, fdivW_i, modW_i, powW_i, shlW_i, shrW_i, bitW_i, iaddW_i, imulW_i, ifdivW_i, ltW_i, leW_i, gtW_i, geW_i, eqW_i, neW_i, isW_n, isntW_n, isW_b, isntW_b, idxW_l, idxW_t, optW_s, optP_s, lenW_l, lenW_t, lenW_s, lenW_d, intW_i, intW_b, absW_i, maxW_i, minW_i, negW_i, listW_l, listW_t, tupleW_l, tupleW_t, sliceW_l, sliceW_t, isiW_1, optI_n, optI_s, truW_b, truW_i, truW_l, truW_t, truW_n, itW_l, itW_t, itW_r1, itW_r2, itW_r3, strW_i, itW_el, itW_et, itW_zl, itW_zt, itW_vl, itW_vt, tgW_n, tgW_t, setAll_c, setAll_n, List.map_cons, List.map_nil, List.cons_append, List.nil_append, List.append_nil, List.getElem?_cons_succ, List.getElem?_cons_zero, List.length_cons, List.length_nil, Nat.reduceAdd, Nat.reduceSub, List.replicate, List.set_cons_succ, List.set_cons_zero, mtW, mtTy, getW, bkW, dicW, revW, Sl_od, inW_d, notinW_d])
  refine fnW_mk rfl ⟨L, ls, s, rfl, hL, hl, hs, ?_⟩
  simp only [wipeE, WCs, mkEnv, fnEnds, WS_raise, WS_try, WS_frz, WS_set, WS_setT, WS_par2, WS_par3, WS_aug, WS_expr, WS_ret, WS_retv, WS_retN, WS_if, WS_for, WS_while, WS_brk, WS_cont, WS_pass, WS_doc, WS_append, WS_extend, WS_popx, WS_setix, WS_augix, WS_setd, WS_rvs, WS_popset, WS_insert, extW_l, extW_t, insW_2, WE, WAs, WLs, WT, argK, argW, opW, opI, biW, Sl_v, Sl_o, csD, slW, ownW, if_true, if_false, addW_i, addW_l, addW_t, subW_i, mulW_i, mulW_l, mulW_t, fdivW_i, modW_i, powW_i, shlW_i, shrW_i, bitW_i, iaddW_i, imulW_i, ifdivW_i, ltW_i, leW_i, gtW_i, geW_i, eqW_i, neW_i, isW_n, isntW_n, isW_b, isntW_b, idxW_l, idxW_t, optW_s, optP_s, lenW_l, lenW_t, lenW_s, lenW_d, intW_i, intW_b, absW_i, maxW_i, minW_i, negW_i, listW_l, listW_t, tupleW_l, tupleW_t, sliceW_l, sliceW_t, isiW_1, optI_n, optI_s, truW_b, truW_i, truW_l, truW_t, truW_n, itW_l, itW_t, itW_r1, itW_r2, itW_r3, strW_i, itW_el, itW_et, itW_zl, itW_zt, itW_vl, itW_vt, tgW_n, tgW_t, setAll_c, setAll_n, List.map_cons, List.map_nil, List.cons_append, List.nil_append, List.append_nil, List.getElem?_cons_succ, List.getElem?_cons_zero, List.length_cons, List.length_nil, Nat.reduceAdd, Nat.reduceSub, List.replicate, List.set_cons_succ, List.set_cons_zero, mtW, mtTy, getW, bkW, dicW, revW, Sl_od, inW_d, notinW_d]
  rw [gs_gl]
  refine forW_of (f := gT) (fun u _ ρ => ∃ y6 y7 y8 y9 : Option Sl, ρ = [some (.val (.tup (ptsD o))), some (.val L), some (.val (.int (s : Nat))), some (.val (smsD sm)), some (.val (.dic true (kv (nt ls.length) (shF o ls)))), some (.val (bestD (gC o ls sm) (am (gC o ls sm) u))), y6, y7, y8, y9]) (gl ls.length (s + 1)) ⟨_, _, _, _, rfl⟩ ?_ ?_
  · rintro u x v ρ he ⟨y6, y7, y8, y9, rfl⟩ kk hkk
    have hx : x ∈ gl ls.length (s + 1) := by rw [he]; simp
    obtain ⟨hx1, hx2, hx3⟩ := gl_mem.mp hx
    unfold gT gD
    simp only [wipeE, WCs, mkEnv, fnEnds, WS_raise, WS_try, WS_frz, WS_set, WS_setT, WS_par2, WS_par3, WS_aug, WS_expr, WS_ret, WS_retv, WS_retN, WS_if, WS_for, WS_while, WS_brk, WS_cont, WS_pass, WS_doc, WS_append, WS_extend, WS_popx, WS_setix, WS_augix, WS_setd, WS_rvs, WS_popset, WS_insert, extW_l, extW_t, insW_2, WE, WAs, WLs, WT, argK, argW, opW, opI, biW, Sl_v, Sl_o, csD, slW, ownW, if_true, if_false, addW_i, addW_l, addW_t, subW_i, mulW_i, mulW_l, mulW_t, fdivW_i, modW_i, powW_i, shlW_i, shrW_i, bitW_i, iaddW_i, imulW_i, ifdivW_i, ltW_i, leW_i, gtW_i, geW_i, eqW_i, neW_i, isW_n, isntW_n, isW_b, isntW_b, idxW_l, idxW_t, optW_s, optP_s, lenW_l, lenW_t, lenW_s, lenW_d, intW_i, intW_b, absW_i, maxW_i, minW_i, negW_i, listW_l, listW_t, tupleW_l, tupleW_t, sliceW_l, sliceW_t, isiW_1, optI_n, optI_s, truW_b, truW_i, truW_l, truW_t, truW_n, itW_l, itW_t, itW_r1, itW_r2, itW_r3, strW_i, itW_el, itW_et, itW_zl, itW_zt, itW_vl, itW_vt, tgW_n, tgW_t, setAll_c, setAll_n, List.map_cons, List.map_nil, List.cons_append, List.nil_append, List.append_nil, List.getElem?_cons_succ, List.getElem?_cons_zero, List.length_cons, List.length_nil, Nat.reduceAdd, Nat.reduceSub, List.replicate, List.set_cons_succ, List.set_cons_zero, mtW, mtTy, getW, bkW, dicW, revW, Sl_od, inW_d, notinW_d]
    refine ⟨trivial, ?_⟩
    ((first | (with_reducible refine Box.mk ?_) | skip); show WSs _ (_ :: _) _ _; rw [WSs_cB]; simp only [wipeE, WCs, mkEnv, fnEnds, WS_raise, WS_try, WS_frz, WS_set, WS_setT, WS_par2, WS_par3, WS_aug, WS_expr, WS_ret, WS_retv, WS_retN, WS_if, WS_for, WS_while, WS_brk, WS_cont, WS_pass, WS_doc, WS_append, WS_extend, WS_popx, WS_setix, WS_augix, WS_setd, WS_rvs, WS_popset, WS_insert, extW_l, extW_t, insW_2, WE, WAs, WLs, WT, argK, argW, opW, opI, biW, Sl_v, Sl_o, csD, slW, ownW, if_true, if_false, addW_i, addW_l, addW_t, subW_i, mulW_i, mulW_l, mulW_t, fdivW_i, modW_i, powW_i, shlW_i, shrW_i, bitW_i, iaddW_i, imulW_i, ifdivW_i, ltW_i, leW_i, gtW_i, geW_i, eqW_i, neW_i, isW_n, isntW_n, isW_b, isntW_b, idxW_l, idxW_t, optW_s, optP_s, lenW_l, lenW_t, lenW_s, lenW_d, intW_i, intW_b, absW_i, maxW_i, minW_i, negW_i, listW_l, listW_t, tupleW_l, tupleW_t, sliceW_l, sliceW_t, isiW_1, optI_n, optI_s, truW_b, truW_i, truW_l, truW_t, truW_n, itW_l, itW_t, itW_r1, itW_r2, itW_r3, strW_i, itW_el, itW_et, itW_zl, itW_zt, itW_vl, itW_vt, tgW_n, tgW_t, setAll_c, setAll_n, List.map_cons, List.map_nil, List.cons_append, List.nil_append, List.append_nil, List.getElem?_cons_succ, List.getElem?_cons_zero, List.length_cons, List.length_nil, Nat.reduceAdd, Nat.reduceSub, List.replicate, List.set_cons_succ, List.set_cons_zero, mtW, mtTy, getW, bkW, dicW, revW, Sl_od, inW_d, notinW_d])
    refine ⟨by decide, ?_⟩
    refine kv_idx (q := (x.2.1, x.2.2)) (nt_mem.mpr ⟨hx3, hx2⟩) ?_
    unfold shF
    refine fnW_mk rfl ⟨_, sm, x.1, C, rfl, hc x.1 x.2.1 x.2.2 (by omega) hx2 hx3, ?_⟩
    rw [shp_len (h _ hx3).a1]
    simp only [wipeE, WCs, mkEnv, fnEnds, WS_raise, WS_try, WS_frz, WS_set, WS_setT, WS_par2, WS_par3, WS_aug, WS_expr, WS_ret, WS_retv, WS_retN, WS_if, WS_for, WS_while, WS_brk, WS_cont, WS_pass, WS_doc, WS_append, WS_extend, WS_popx, WS_setix, WS_augix, WS_setd, WS_rvs, WS_popset, WS_insert, extW_l, extW_t, insW_2, WE, WAs, WLs, WT, argK, argW, opW, opI, biW, Sl_v, Sl_o, csD, slW, ownW, if_true, if_false, addW_i, addW_l, addW_t, subW_i, mulW_i, mulW_l, mulW_t, fdivW_i, modW_i, powW_i, shlW_i, shrW_i, bitW_i, iaddW_i, imulW_i, ifdivW_i, ltW_i, leW_i, gtW_i, geW_i, eqW_i, neW_i, isW_n, isntW_n, isW_b, isntW_b, idxW_l, idxW_t, optW_s, optP_s, lenW_l, lenW_t, lenW_s, lenW_d, intW_i, intW_b, absW_i, maxW_i, minW_i, negW_i, listW_l, listW_t, tupleW_l, tupleW_t, sliceW_l, sliceW_t, isiW_1, optI_n, optI_s, truW_b, truW_i, truW_l, truW_t, truW_n, itW_l, itW_t, itW_r1, itW_r2, itW_r3, strW_i, itW_el, itW_et, itW_zl, itW_zt, itW_vl, itW_vt, tgW_n, tgW_t, setAll_c, setAll_n, List.map_cons, List.map_nil, List.cons_append, List.nil_append, List.append_nil, List.getElem?_cons_succ, List.getElem?_cons_zero, List.length_cons, List.length_nil, Nat.reduceAdd, Nat.reduceSub, List.replicate, List.set_cons_succ, List.set_cons_zero, mtW, mtTy, getW, bkW, dicW, revW, Sl_od, inW_d, notinW_d]
    refine ⟨by decide, by decide, ?_⟩
    rw [show csum (shp o (ls.getD x.2.2 []) x.2.1) sm x.1 o.length = gC o ls sm x from rfl, show D.tup [.int (x.1 : Nat), .int (x.2.1 : Nat), .int (x.2.2 : Nat)] = gT x from rfl]
    have es := am_s (C := gC o ls sm) (u := u) (g := x)
    cases ha : am (gC o ls sm) u with
    | none =>
      rw [ha] at es
      ((first | (with_reducible refine Box.mk ?_) | skip); show WSs _ (_ :: _) _ _; rw [WSs_cB]; simp only [wipeE, WCs, mkEnv, fnEnds, WS_raise, WS_try, WS_frz, WS_set, WS_setT, WS_par2, WS_par3, WS_aug, WS_expr, WS_ret, WS_retv, WS_retN, WS_if, WS_for, WS_while, WS_brk, WS_cont, WS_pass, WS_doc, WS_append, WS_extend, WS_popx, WS_setix, WS_augix, WS_setd, WS_rvs, WS_popset, WS_insert, extW_l, extW_t, insW_2, WE, WAs, WLs, WT, argK, argW, opW, opI, biW, Sl_v, Sl_o, csD, slW, ownW, if_true, if_false, addW_i, addW_l, addW_t, subW_i, mulW_i, mulW_l, mulW_t, fdivW_i, modW_i, powW_i, shlW_i, shrW_i, bitW_i, iaddW_i, imulW_i, ifdivW_i, ltW_i, leW_i, gtW_i, geW_i, eqW_i, neW_i, isW_n, isntW_n, isW_b, isntW_b, idxW_l, idxW_t, optW_s, optP_s, lenW_l, lenW_t, lenW_s, lenW_d, intW_i, intW_b, absW_i, maxW_i, minW_i, negW_i, listW_l, listW_t, tupleW_l, tupleW_t, sliceW_l, sliceW_t, isiW_1, optI_n, optI_s, truW_b, truW_i, truW_l, truW_t, truW_n, itW_l, itW_t, itW_r1, itW_r2, itW_r3, strW_i, itW_el, itW_et, itW_zl, itW_zt, itW_vl, itW_vt, tgW_n, tgW_t, setAll_c, setAll_n, List.map_cons, List.map_nil, List.cons_append, List.nil_append, List.append_nil, List.getElem?_cons_succ, List.getElem?_cons_zero, List.length_cons, List.length_nil, Nat.reduceAdd, Nat.reduceSub, List.replicate, List.set_cons_succ, List.set_cons_zero, mtW, mtTy, getW, bkW, dicW, revW, Sl_od, inW_d, notinW_d])
      refine ite_t rfl ?_
      ((first | (with_reducible refine Box.mk ?_) | skip); show WSs _ (_ :: _) _ _; rw [WSs_cB]; simp only [wipeE, WCs, mkEnv, fnEnds, WS_raise, WS_try, WS_frz, WS_set, WS_setT, WS_par2, WS_par3, WS_aug, WS_expr, WS_ret, WS_retv, WS_retN, WS_if, WS_for, WS_while, WS_brk, WS_cont, WS_pass, WS_doc, WS_append, WS_extend, WS_popx, WS_setix, WS_augix, WS_setd, WS_rvs, WS_popset, WS_insert, extW_l, extW_t, insW_2, WE, WAs, WLs, WT, argK, argW, opW, opI, biW, Sl_v, Sl_o, csD, slW, ownW, if_true, if_false, addW_i, addW_l, addW_t, subW_i, mulW_i, mulW_l, mulW_t, fdivW_i, modW_i, powW_i, shlW_i, shrW_i, bitW_i, iaddW_i, imulW_i, ifdivW_i, ltW_i, leW_i, gtW_i, geW_i, eqW_i, neW_i, isW_n, isntW_n, isW_b, isntW_b, idxW_l, idxW_t, optW_s, optP_s, lenW_l, lenW_t, lenW_s, lenW_d, intW_i, intW_b, absW_i, maxW_i, minW_i, negW_i, listW_l, listW_t, tupleW_l, tupleW_t, sliceW_l, sliceW_t, isiW_1, optI_n, optI_s, truW_b, truW_i, truW_l, truW_t, truW_n, itW_l, itW_t, itW_r1, itW_r2, itW_r3, strW_i, itW_el, itW_et, itW_zl, itW_zt, itW_vl, itW_vt, tgW_n, tgW_t, setAll_c, setAll_n, List.map_cons, List.map_nil, List.cons_append, List.nil_append, List.append_nil, List.getElem?_cons_succ, List.getElem?_cons_zero, List.length_cons, List.length_nil, Nat.reduceAdd, Nat.reduceSub, List.replicate, List.set_cons_succ, List.set_cons_zero, mtW, mtTy, getW, bkW, dicW, revW, Sl_od, inW_d, notinW_d])
      ((first | (with_reducible refine Box.mk ?_) | skip); show WSs _ _ _ _; rw [WSs_n])
      ((first | (with_reducible refine Box.mk ?_) | skip); show WSs _ _ _ _; rw [WSs_n])
      exact hkk _ ⟨_, _, _, _, by rw [es]; rfl⟩
    | some b =>
      rw [ha] at es
      ((first | (with_reducible refine Box.mk ?_) | skip); show WSs _ (_ :: _) _ _; rw [WSs_cB]; simp only [wipeE, WCs, mkEnv, fnEnds, WS_raise, WS_try, WS_frz, WS_set, WS_setT, WS_par2, WS_par3, WS_aug, WS_expr, WS_ret, WS_retv, WS_retN, WS_if, WS_for, WS_while, WS_brk, WS_cont, WS_pass, WS_doc, WS_append, WS_extend, WS_popx, WS_setix, WS_augix, WS_setd, WS_rvs, WS_popset, WS_insert, extW_l, extW_t, insW_2, WE, WAs, WLs, WT, argK, argW, opW, opI, biW, Sl_v, Sl_o, csD, slW, ownW, if_true, if_false, addW_i, addW_l, addW_t, subW_i, mulW_i, mulW_l, mulW_t, fdivW_i, modW_i, powW_i, shlW_i, shrW_i, bitW_i, iaddW_i, imulW_i, ifdivW_i, ltW_i, leW_i, gtW_i, geW_i, eqW_i, neW_i, isW_n, isntW_n, isW_b, isntW_b, idxW_l, idxW_t, optW_s, optP_s, lenW_l, lenW_t, lenW_s, lenW_d, intW_i, intW_b, absW_i, maxW_i, minW_i, negW_i, listW_l, listW_t, tupleW_l, tupleW_t, sliceW_l, sliceW_t, isiW_1, optI_n, optI_s, truW_b, truW_i, truW_l, truW_t, truW_n, itW_l, itW_t, itW_r1, itW_r2, itW_r3, strW_i, itW_el, itW_et, itW_zl, itW_zt, itW_vl, itW_vt, tgW_n, tgW_t, setAll_c, setAll_n, List.map_cons, List.map_nil, List.cons_append, List.nil_append, List.append_nil, List.getElem?_cons_succ, List.getElem?_cons_zero, List.length_cons, List.length_nil, Nat.reduceAdd, Nat.reduceSub, List.replicate, List.set_cons_succ, List.set_cons_zero, mtW, mtTy, getW, bkW, dicW, revW, Sl_od, inW_d, notinW_d])
      refine ite_f rfl ?_
      refine ltW_cg (asc_in he (am_in ha)) ?_
      simp only [wipeE, WCs, mkEnv, fnEnds, WS_raise, WS_try, WS_frz, WS_set, WS_setT, WS_par2, WS_par3, WS_aug, WS_expr, WS_ret, WS_retv, WS_retN, WS_if, WS_for, WS_while, WS_brk, WS_cont, WS_pass, WS_doc, WS_append, WS_extend, WS_popx, WS_setix, WS_augix, WS_setd, WS_rvs, WS_popset, WS_insert, extW_l, extW_t, insW_2, WE, WAs, WLs, WT, argK, argW, opW, opI, biW, Sl_v, Sl_o, csD, slW, ownW, if_true, if_false, addW_i, addW_l, addW_t, subW_i, mulW_i, mulW_l, mulW_t, fdivW_i, modW_i, powW_i, shlW_i, shrW_i, bitW_i, iaddW_i, imulW_i, ifdivW_i, ltW_i, leW_i, gtW_i, geW_i, eqW_i, neW_i, isW_n, isntW_n, isW_b, isntW_b, idxW_l, idxW_t, optW_s, optP_s, lenW_l, lenW_t, lenW_s, lenW_d, intW_i, intW_b, absW_i, maxW_i, minW_i, negW_i, listW_l, listW_t, tupleW_l, tupleW_t, sliceW_l, sliceW_t, isiW_1, optI_n, optI_s, truW_b, truW_i, truW_l, truW_t, truW_n, itW_l, itW_t, itW_r1, itW_r2, itW_r3, strW_i, itW_el, itW_et, itW_zl, itW_zt, itW_vl, itW_vt, tgW_n, tgW_t, setAll_c, setAll_n, List.map_cons, List.map_nil, List.cons_append, List.nil_append, List.append_nil, List.getElem?_cons_succ, List.getElem?_cons_zero, List.length_cons, List.length_nil, Nat.reduceAdd, Nat.reduceSub, List.replicate, List.set_cons_succ, List.set_cons_zero, mtW, mtTy, getW, bkW, dicW, revW, Sl_od, inW_d, notinW_d]
      by_cases hlt : gC o ls sm x < gC o ls sm b
      · refine ite_t (decide_eq_true hlt) ?_
        ((first | (with_reducible refine Box.mk ?_) | skip); show WSs _ (_ :: _) _ _; rw [WSs_cB]; simp only [wipeE, WCs, mkEnv, fnEnds, WS_raise, WS_try, WS_frz, WS_set, WS_setT, WS_par2, WS_par3, WS_aug, WS_expr, WS_ret, WS_retv, WS_retN, WS_if, WS_for, WS_while, WS_brk, WS_cont, WS_pass, WS_doc, WS_append, WS_extend, WS_popx, WS_setix, WS_augix, WS_setd, WS_rvs, WS_popset, WS_insert, extW_l, extW_t, insW_2, WE, WAs, WLs, WT, argK, argW, opW, opI, biW, Sl_v, Sl_o, csD, slW, ownW, if_true, if_false, addW_i, addW_l, addW_t, subW_i, mulW_i, mulW_l, mulW_t, fdivW_i, modW_i, powW_i, shlW_i, shrW_i, bitW_i, iaddW_i, imulW_i, ifdivW_i, ltW_i, leW_i, gtW_i, geW_i, eqW_i, neW_i, isW_n, isntW_n, isW_b, isntW_b, idxW_l, idxW_t, optW_s, optP_s, lenW_l, lenW_t, lenW_s, lenW_d, intW_i, intW_b, absW_i, maxW_i, minW_i, negW_i, listW_l, listW_t, tupleW_l, tupleW_t, sliceW_l, sliceW_t, isiW_1, optI_n, optI_s, truW_b, truW_i, truW_l, truW_t, truW_n, itW_l, itW_t, itW_r1, itW_r2, itW_r3, strW_i, itW_el, itW_et, itW_zl, itW_zt, itW_vl, itW_vt, tgW_n, tgW_t, setAll_c, setAll_n, List.map_cons, List.map_nil, List.cons_append, List.nil_append, List.append_nil, List.getElem?_cons_succ, List.getElem?_cons_zero, List.length_cons, List.length_nil, Nat.reduceAdd, Nat.reduceSub, List.replicate, List.set_cons_succ, List.set_cons_zero, mtW, mtTy, getW, bkW, dicW, revW, Sl_od, inW_d, notinW_d])
        ((first | (with_reducible refine Box.mk ?_) | skip); show WSs _ _ _ _; rw [WSs_n])
        ((first | (with_reducible refine Box.mk ?_) | skip); show WSs _ _ _ _; rw [WSs_n])
        have e2 : amS (gC o ls sm) (some b) x = some x := by unfold amS; simp only; rw [if_pos hlt]
        exact hkk _ ⟨_, _, _, _, by rw [es, e2]; rfl⟩
      · refine ite_f (decide_eq_false hlt) ?_
        ((first | (with_reducible refine Box.mk ?_) | skip); show WSs _ _ _ _; rw [WSs_n])
        ((first | (with_reducible refine Box.mk ?_) | skip); show WSs _ _ _ _; rw [WSs_n])
        have e2 : amS (gC o ls sm) (some b) x = some b := by unfold amS; simp only; rw [if_neg hlt]
        exact hkk _ ⟨_, _, _, _, by rw [es, e2]; rfl⟩
  · rintro ρ ⟨y6, y7, y8, y9, rfl⟩
    have hne : gl ls.length (s + 1) ≠ [] := fun z => by
      have : ((0, 0, 0) : Tri) ∈ gl ls.length (s + 1) := gl_mem.mpr ⟨by simp, by simp, by simp; omega⟩
      rw [z] at this
      cases this
    obtain ⟨b, hb⟩ := am_ne (C := gC o ls sm) hne
    rw [hb]
    ((first | (with_reducible refine Box.mk ?_) | skip); show WSs _ (_ :: _) _ _; rw [WSs_cB]; simp only [wipeE, WCs, mkEnv, fnEnds, WS_raise, WS_try, WS_frz, WS_set, WS_setT, WS_par2, WS_par3, WS_aug, WS_expr, WS_ret, WS_retv, WS_retN, WS_if, WS_for, WS_while, WS_brk, WS_cont, WS_pass, WS_doc, WS_append, WS_extend, WS_popx, WS_setix, WS_augix, WS_setd, WS_rvs, WS_popset, WS_insert, extW_l, extW_t, insW_2, WE, WAs, WLs, WT, argK, argW, opW, opI, biW, Sl_v, Sl_o, csD, slW, ownW, if_true, if_false, addW_i, addW_l, addW_t, subW_i, mulW_i, mulW_l, mulW_t, fdivW_i, modW_i, powW_i, shlW_i, shrW_i, bitW_i, iaddW_i, imulW_i, ifdivW_i, ltW_i, leW_i, gtW_i, geW_i, eqW_i, neW_i, isW_n, isntW_n, isW_b, isntW_b, idxW_l, idxW_t, optW_s, optP_s, lenW_l, lenW_t, lenW_s, lenW_d, intW_i, intW_b, absW_i, maxW_i, minW_i, negW_i, listW_l, listW_t, tupleW_l, tupleW_t, sliceW_l, sliceW_t, isiW_1, optI_n, optI_s, truW_b, truW_i, truW_l, truW_t, truW_n, itW_l, itW_t, itW_r1, itW_r2, itW_r3, strW_i, itW_el, itW_et, itW_zl, itW_zt, itW_vl, itW_vt, tgW_n, tgW_t, setAll_c, setAll_n, List.map_cons, List.map_nil, List.cons_append, List.nil_append, List.append_nil, List.getElem?_cons_succ, List.getElem?_cons_zero, List.length_cons, List.length_nil, Nat.reduceAdd, Nat.reduceSub, List.replicate, List.set_cons_succ, List.set_cons_zero, mtW, mtTy, getW, bkW, dicW, revW, Sl_od, inW_d, notinW_d])
    exact hq b hb
end PL.K47

namespace PL.K47
open PySem PySem.Spec PyProof.Rows L2 PL
/-! what repr shows -/
theorem big_small {i : Int} (h1 : -BIG ≤ i) (h2 : i ≤ BIG) : i.natAbs < 2 ^ 1000 := (bsm h1 h2).lt
theorem rd_pt {n : Nat} {x : P} (h : bd BIG x) : RD (n + 1) 2100 (ptD x) := by
  obtain ⟨⟨a1, a2⟩, a3, a4⟩ := h
  exact .up (.tup (.cons (.int (big_small a1 a2)) (.cons (.int (big_small a3 a4)) .nil))) (by decide)
theorem rd_pts {n : Nat} {a : List P} (h : ∀ x ∈ a, bd BIG x) : RDs (n + 1) (a.length * 2102) (ptsD a) := by
  have := RDs.all (n := n + 1) (a := 2100) (xs := ptsD a) fun y hy => by
    obtain ⟨x, hx, rfl⟩ := List.mem_map.mp hy
    exact rd_pt (h x hx)
  rw [pts_len] at this
  exact this
theorem so_line2 : PyData.strOk (reprText ("line" : Str)) = true := by decide +kernel
theorem le_line : (reprText ("line" : Str)).length ≤ 6 := by decide +kernel
theorem rd_line {n : Nat} {a : List P} (h : ∀ x ∈ a, bd BIG x) (hl : a.length ≤ 1000) : RD (n + 3) 3000000 (lineD a) :=
  .up (.tup (.cons (.str so_line so_line2 le_line) (.cons (.tup (rd_pts h)) .nil))) (by omega)
theorem rd_sms {n : Nat} {s : List (Option P)} (h : SB s BIG) : RDs (n + 1) (s.length * 2102) (s.map smD) := by
  have := RDs.all (n := n + 1) (a := 2100) (xs := s.map smD) fun y hy => by
    obtain ⟨x, hx, rfl⟩ := List.mem_map.mp hy
    cases x with
    | none => exact .up .non (by decide)
    | some x => exact rd_pt (h x hx)
  rw [List.length_map] at this
  exact this
def allD (o : List P) (ls : List (List P)) (s : List (Option P)) : List D := [.tup (ptsD o), lnsD ls, smsD s]
theorem rd_all {o : List P} {ls : List (List P)} {s : List (Option P)} (ho : ∀ x ∈ o, bd BIG x) (hs : SB s BIG) (hl : ∀ a ∈ ls, a.length ≤ 1000 ∧ ∀ x ∈ a, bd BIG x) (h1 : o.length ≤ 1000) (h2 : ls.length ≤ 3) (h3 : s.length ≤ 1000) : RD 5 16000000 (.lst (allD o ls s)) := by
  have r1 : RD 4 (o.length * 2102 + 3) (.tup (ptsD o)) := .tup (rd_pts (n := 2) ho)
  have r2 : RD 4 (s.length * 2102 + 3) (smsD s) := .lst (rd_sms (n := 2) hs)
  have r3 : RD 4 (ls.length * 3000002 + 3) (lnsD ls) := by
    refine .lst ?_
    have := RDs.all (n := 3) (a := 3000000) (xs := ls.map lineD) fun y hy => by
      obtain ⟨a, ha, rfl⟩ := List.mem_map.mp hy
      exact rd_line (n := 0) (hl a ha).2 (hl a ha).1
    rw [List.length_map] at this
    exact this
  exact .up (.lst (.cons r1 (.cons r3 (.cons r2 .nil)))) (by omega)
def sp_law : FSp := fun ds Q _ => ∃ ns : List Int, ds = [.scr ns] ∧ ns.length ≤ 1000 ∧ Q (.val (.bl true))
abbrev G_law : Tab := tabOf [("_law_arrival", sp_law_arrival), ("_law_cost", sp_law_cost), ("_law_draw", spDraw), ("_law_guesses", sp_law_guesses), ("_law_line", sp_law_line), ("_law_opening", sp_law_opening), ("_law_pick", spPick), ("_law_point", sp_law_point), ("_law_shapes", sp_law_shapes), ("_law_state", spState), ("find", sp_find)] ["len", "max", "min", "range", "repr"] [] [] []
theorem bd50 {x : P} (h : bd 50 x) : bd BIG x := bd_up h (by unfold BIG; decide)
theorem noL_pts : ∀ a : List P, noLs (ptsD a) = true
  | [] => by simp [ptsD, noLs]
  | x :: a => by
    have := noL_pts a
    unfold ptsD at this ⊢
    rw [List.map_cons, noLs, this]
    simp [ptD, noL, noLs]
theorem noL_line {a : List P} : noL (lineD a) = true := by
  simp [lineD, noL, noLs, noL_pts]
theorem eq_gT (g h : Tri) : eqD (gT g) (gT g) = true := eqD_self 1 _ rfl
theorem clear_bd {w : List P} {p n : Nat} (h : ∀ x ∈ w, bd 1200 x) : ∀ x ∈ arr w p n, bd 1200 x := by
  intro x hx
  rcases List.mem_append.mp (List.mem_of_mem_take hx) with h' | h'
  · rcases List.mem_append.mp h' with h' | h'
    · rw [(List.mem_replicate.mp h').2]; exact bd_0 (by decide)
    · exact h x h'
  · rw [(List.mem_replicate.mp h').2]; exact bd_0 (by decide)
theorem sb_set {s : List (Option P)} {e : Option P} {B : Int} {j : Nat} (h : SB s B) (he : ∀ x, e = some x → bd B x) : SB (s.set j e) B := fun x hx => by
  rcases List.mem_or_eq_of_mem_set hx with g | g
  · exact h x g
  · exact he x g.symm
theorem sg_set {s : List (Option P)} {e : Option P} {j k : Nat} (h : j ≠ k) : sg (s.set j e) k = sg s k := by
  unfold sg
  rw [List.getD_eq_getElem?_getD, List.getD_eq_getElem?_getD, List.getElem?_set_ne h]
theorem sms_set {s : List (Option P)} {e : Option P} {j : Nat} : (s.map smD).set j (smD e) = (s.set j e).map smD := by rw [List.map_set]
theorem pure_law : ∀ ds Q X, sp_law ds Q X → ds.length = 1 ∧ WSs G_law ms_law (mkEnv 20 ds) (fnEnds Q X) := by
  rintro ds Q X ⟨ns, rfl, hl, hq⟩
  refine ⟨rfl, ?_⟩
  simp only [ms_law, mkEnv, fnEnds, List.map_cons, List.map_nil, List.length_cons, List.length_nil, Nat.reduceAdd, Nat.reduceSub, List.replicate, List.cons_append, List.nil_append]
  ((first | (with_reducible refine Box.mk ?_) | skip); show WSs _ (_ :: _) _ _; rw [WSs_cB]; simp only [wipeE, WCs, mkEnv, fnEnds, WS_raise, WS_try, WS_frz, WS_set, WS_setT, WS_par2, WS_par3, WS_aug, WS_expr, WS_ret, WS_retv, WS_retN, WS_if, WS_for, WS_while, WS_brk, WS_cont, WS_pass, WS_doc, WS_append, WS_extend, WS_popx, WS_setix, WS_augix, WS_setd, WS_rvs, WS_popset, WS_insert, extW_l, extW_t, insW_2, WE, WAs, WLs, WT, argK, argW, opW, opI, biW, Sl_v, Sl_o, csD, slW, ownW, if_true, if_false, addW_i, addW_l, addW_t, subW_i, mulW_i, mulW_l, mulW_t, fdivW_i, modW_i, powW_i, shlW_i, shrW_i, bitW_i, iaddW_i, imulW_i, ifdivW_i, ltW_i, leW_i, gtW_i, geW_i, eqW_i, neW_i, isW_n, isntW_n, isW_b, isntW_b, idxW_l, idxW_t, optW_s, optP_s, lenW_l, lenW_t, lenW_s, lenW_d, intW_i, intW_b, absW_i, maxW_i, minW_i, negW_i, listW_l, listW_t, tupleW_l, tupleW_t, sliceW_l, sliceW_t, isiW_1, optI_n, optI_s, truW_b, truW_i, truW_l, truW_t, truW_n, itW_l, itW_t, itW_r1, itW_r2, itW_r3, strW_i, itW_el, itW_et, itW_zl, itW_zt, itW_vl, itW_vt, tgW_n, tgW_t, setAll_c, setAll_n, List.map_cons, List.map_nil, List.cons_append, List.nil_append, List.append_nil, List.getElem?_cons_succ, List.getElem?_cons_zero, List.length_cons, List.length_nil, Nat.reduceAdd, Nat.reduceSub, List.replicate, List.set_cons_succ, List.set_cons_zero, mtW, mtTy, getW, bkW, dicW, revW, Sl_od, inW_d, notinW_d])
  refine fnW_mk rfl ⟨ns, rfl, hl, fun i => ?_⟩
  ((first | (with_reducible refine Box.mk ?_) | skip); show WSs _ (_ :: _) _ _; rw [WSs_cB]; simp only [wipeE, WCs, mkEnv, fnEnds, WS_raise, WS_try, WS_frz, WS_set, WS_setT, WS_par2, WS_par3, WS_aug, WS_expr, WS_ret, WS_retv, WS_retN, WS_if, WS_for, WS_while, WS_brk, WS_cont, WS_pass, WS_doc, WS_append, WS_extend, WS_popx, WS_setix, WS_augix, WS_setd, WS_rvs, WS_popset, WS_insert, extW_l, extW_t, insW_2, WE, WAs, WLs, WT, argK, argW, opW, opI, biW, Sl_v, Sl_o, csD, slW, ownW, if_true, if_false, addW_i, addW_l, addW_t, subW_i, mulW_i, mulW_l, mulW_t, fdivW_i, modW_i, powW_i, shlW_i, shrW_i, bitW_i, iaddW_i, imulW_i, ifdivW_i, ltW_i, leW_i, gtW_i, geW_i, eqW_i, neW_i, isW_n, isntW_n, isW_b, isntW_b, idxW_l, idxW_t, optW_s, optP_s, lenW_l, lenW_t, lenW_s, lenW_d, intW_i, intW_b, absW_i, maxW_i, minW_i, negW_i, listW_l, listW_t, tupleW_l, tupleW_t, sliceW_l, sliceW_t, isiW_1, optI_n, optI_s, truW_b, truW_i, truW_l, truW_t, truW_n, itW_l, itW_t, itW_r1, itW_r2, itW_r3, strW_i, itW_el, itW_et, itW_zl, itW_zt, itW_vl, itW_vt, tgW_n, tgW_t, setAll_c, setAll_n, List.map_cons, List.map_nil, List.cons_append, List.nil_append, List.append_nil, List.getElem?_cons_succ, List.getElem?_cons_zero, List.length_cons, List.length_nil, Nat.reduceAdd, Nat.reduceSub, List.replicate, List.set_cons_succ, List.set_cons_zero, mtW, mtTy, getW, bkW, dicW, revW, Sl_od, inW_d, notinW_d])
  ((first | (with_reducible refine Box.mk ?_) | skip); show WSs _ (_ :: _) _ _; rw [WSs_cB]; simp only [wipeE, WCs, mkEnv, fnEnds, WS_raise, WS_try, WS_frz, WS_set, WS_setT, WS_par2, WS_par3, WS_aug, WS_expr, WS_ret, WS_retv, WS_retN, WS_if, WS_for, WS_while, WS_brk, WS_cont, WS_pass, WS_doc, WS_append, WS_extend, WS_popx, WS_setix, WS_augix, WS_setd, WS_rvs, WS_popset, WS_insert, extW_l, extW_t, insW_2, WE, WAs, WLs, WT, argK, argW, opW, opI, biW, Sl_v, Sl_o, csD, slW, ownW, if_true, if_false, addW_i, addW_l, addW_t, subW_i, mulW_i, mulW_l, mulW_t, fdivW_i, modW_i, powW_i, shlW_i, shrW_i, bitW_i, iaddW_i, imulW_i, ifdivW_i, ltW_i, leW_i, gtW_i, geW_i, eqW_i, neW_i, isW_n, isntW_n, isW_b, isntW_b, idxW_l, idxW_t, optW_s, optP_s, lenW_l, lenW_t, lenW_s, lenW_d, intW_i, intW_b, absW_i, maxW_i, minW_i, negW_i, listW_l, listW_t, tupleW_l, tupleW_t, sliceW_l, sliceW_t, isiW_1, optI_n, optI_s, truW_b, truW_i, truW_l, truW_t, truW_n, itW_l, itW_t, itW_r1, itW_r2, itW_r3, strW_i, itW_el, itW_et, itW_zl, itW_zt, itW_vl, itW_vt, tgW_n, tgW_t, setAll_c, setAll_n, List.map_cons, List.map_nil, List.cons_append, List.nil_append, List.append_nil, List.getElem?_cons_succ, List.getElem?_cons_zero, List.length_cons, List.length_nil, Nat.reduceAdd, Nat.reduceSub, List.replicate, List.set_cons_succ, List.set_cons_zero, mtW, mtTy, getW, bkW, dicW, revW, Sl_od, inW_d, notinW_d])
  refine ⟨by unfold B62; omega, ?_⟩
  rw [rgD_0]
  refine forW_rg (fun _ ρ => ∃ y2 y3 y4 y5 y6 y7 y8 y9 y10 y11 y12 y13 y14 y15 y16 y17 y18 y19 : Option Sl, ρ = [some (.val (.scr ns)), some (.val (.g i 0)), y2, y3, y4, y5, y6, y7, y8, y9, y10, y11, y12, y13, y14, y15, y16, y17, y18, y19]) 0 _ ⟨_, _, _, _, _, _, _, _, _, _, _, _, _, _, _, _, _, _, rfl⟩ ?_ ?_
  case refine_2 =>
    rintro ρ ⟨y2, y3, y4, y5, y6, y7, y8, y9, y10, y11, y12, y13, y14, y15, y16, y17, y18, y19, rfl⟩
    ((first | (with_reducible refine Box.mk ?_) | skip); show WSs _ (_ :: _) _ _; rw [WSs_cB]; simp only [wipeE, WCs, mkEnv, fnEnds, WS_raise, WS_try, WS_frz, WS_set, WS_setT, WS_par2, WS_par3, WS_aug, WS_expr, WS_ret, WS_retv, WS_retN, WS_if, WS_for, WS_while, WS_brk, WS_cont, WS_pass, WS_doc, WS_append, WS_extend, WS_popx, WS_setix, WS_augix, WS_setd, WS_rvs, WS_popset, WS_insert, extW_l, extW_t, insW_2, WE, WAs, WLs, WT, argK, argW, opW, opI, biW, Sl_v, Sl_o, csD, slW, ownW, if_true, if_false, addW_i, addW_l, addW_t, subW_i, mulW_i, mulW_l, mulW_t, fdivW_i, modW_i, powW_i, shlW_i, shrW_i, bitW_i, iaddW_i, imulW_i, ifdivW_i, ltW_i, leW_i, gtW_i, geW_i, eqW_i, neW_i, isW_n, isntW_n, isW_b, isntW_b, idxW_l, idxW_t, optW_s, optP_s, lenW_l, lenW_t, lenW_s, lenW_d, intW_i, intW_b, absW_i, maxW_i, minW_i, negW_i, listW_l, listW_t, tupleW_l, tupleW_t, sliceW_l, sliceW_t, isiW_1, optI_n, optI_s, truW_b, truW_i, truW_l, truW_t, truW_n, itW_l, itW_t, itW_r1, itW_r2, itW_r3, strW_i, itW_el, itW_et, itW_zl, itW_zt, itW_vl, itW_vt, tgW_n, tgW_t, setAll_c, setAll_n, List.map_cons, List.map_nil, List.cons_append, List.nil_append, List.append_nil, List.getElem?_cons_succ, List.getElem?_cons_zero, List.length_cons, List.length_nil, Nat.reduceAdd, Nat.reduceSub, List.replicate, List.set_cons_succ, List.set_cons_zero, mtW, mtTy, getW, bkW, dicW, revW, Sl_od, inW_d, notinW_d])
    exact hq
  rintro _ ρ _ _ ⟨y2, y3, y4, y5, y6, y7, y8, y9, y10, y11, y12, y13, y14, y15, y16, y17, y18, y19, rfl⟩ kk hkk
  simp only [wipeE, WCs, mkEnv, fnEnds, WS_raise, WS_try, WS_frz, WS_set, WS_setT, WS_par2, WS_par3, WS_aug, WS_expr, WS_ret, WS_retv, WS_retN, WS_if, WS_for, WS_while, WS_brk, WS_cont, WS_pass, WS_doc, WS_append, WS_extend, WS_popx, WS_setix, WS_augix, WS_setd, WS_rvs, WS_popset, WS_insert, extW_l, extW_t, insW_2, WE, WAs, WLs, WT, argK, argW, opW, opI, biW, Sl_v, Sl_o, csD, slW, ownW, if_true, if_false, addW_i, addW_l, addW_t, subW_i, mulW_i, mulW_l, mulW_t, fdivW_i, modW_i, powW_i, shlW_i, shrW_i, bitW_i, iaddW_i, imulW_i, ifdivW_i, ltW_i, leW_i, gtW_i, geW_i, eqW_i, neW_i, isW_n, isntW_n, isW_b, isntW_b, idxW_l, idxW_t, optW_s, optP_s, lenW_l, lenW_t, lenW_s, lenW_d, intW_i, intW_b, absW_i, maxW_i, minW_i, negW_i, listW_l, listW_t, tupleW_l, tupleW_t, sliceW_l, sliceW_t, isiW_1, optI_n, optI_s, truW_b, truW_i, truW_l, truW_t, truW_n, itW_l, itW_t, itW_r1, itW_r2, itW_r3, strW_i, itW_el, itW_et, itW_zl, itW_zt, itW_vl, itW_vt, tgW_n, tgW_t, setAll_c, setAll_n, List.map_cons, List.map_nil, List.cons_append, List.nil_append, List.append_nil, List.getElem?_cons_succ, List.getElem?_cons_zero, List.length_cons, List.length_nil, Nat.reduceAdd, Nat.reduceSub, List.replicate, List.set_cons_succ, List.set_cons_zero, mtW, mtTy, getW, bkW, dicW, revW, Sl_od, inW_d, notinW_d]
  ((first | (with_reducible refine Box.mk ?_) | skip); show WSs _ (_ :: _) _ _; rw [WSs_cB]; simp only [wipeE, WCs, mkEnv, fnEnds, WS_raise, WS_try, WS_frz, WS_set, WS_setT, WS_par2, WS_par3, WS_aug, WS_expr, WS_ret, WS_retv, WS_retN, WS_if, WS_for, WS_while, WS_brk, WS_cont, WS_pass, WS_doc, WS_append, WS_extend, WS_popx, WS_setix, WS_augix, WS_setd, WS_rvs, WS_popset, WS_insert, extW_l, extW_t, insW_2, WE, WAs, WLs, WT, argK, argW, opW, opI, biW, Sl_v, Sl_o, csD, slW, ownW, if_true, if_false, addW_i, addW_l, addW_t, subW_i, mulW_i, mulW_l, mulW_t, fdivW_i, modW_i, powW_i, shlW_i, shrW_i, bitW_i, iaddW_i, imulW_i, ifdivW_i, ltW_i, leW_i, gtW_i, geW_i, eqW_i, neW_i, isW_n, isntW_n, isW_b, isntW_b, idxW_l, idxW_t, optW_s, optP_s, lenW_l, lenW_t, lenW_s, lenW_d, intW_i, intW_b, absW_i, maxW_i, minW_i, negW_i, listW_l, listW_t, tupleW_l, tupleW_t, sliceW_l, sliceW_t, isiW_1, optI_n, optI_s, truW_b, truW_i, truW_l, truW_t, truW_n, itW_l, itW_t, itW_r1, itW_r2, itW_r3, strW_i, itW_el, itW_et, itW_zl, itW_zt, itW_vl, itW_vt, tgW_n, tgW_t, setAll_c, setAll_n, List.map_cons, List.map_nil, List.cons_append, List.nil_append, List.append_nil, List.getElem?_cons_succ, List.getElem?_cons_zero, List.length_cons, List.length_nil, Nat.reduceAdd, Nat.reduceSub, List.replicate, List.set_cons_succ, List.set_cons_zero, mtW, mtTy, getW, bkW, dicW, revW, Sl_od, inW_d, notinW_d])
  refine fnW_mk rfl ⟨i, 6, rfl, by decide, fun o o12 ob on => ?_⟩
  obtain ⟨o1, o2⟩ := o12
  ((first | (with_reducible refine Box.mk ?_) | skip); show WSs _ (_ :: _) _ _; rw [WSs_cB]; simp only [wipeE, WCs, mkEnv, fnEnds, WS_raise, WS_try, WS_frz, WS_set, WS_setT, WS_par2, WS_par3, WS_aug, WS_expr, WS_ret, WS_retv, WS_retN, WS_if, WS_for, WS_while, WS_brk, WS_cont, WS_pass, WS_doc, WS_append, WS_extend, WS_popx, WS_setix, WS_augix, WS_setd, WS_rvs, WS_popset, WS_insert, extW_l, extW_t, insW_2, WE, WAs, WLs, WT, argK, argW, opW, opI, biW, Sl_v, Sl_o, csD, slW, ownW, if_true, if_false, addW_i, addW_l, addW_t, subW_i, mulW_i, mulW_l, mulW_t, fdivW_i, modW_i, powW_i, shlW_i, shrW_i, bitW_i, iaddW_i, imulW_i, ifdivW_i, ltW_i, leW_i, gtW_i, geW_i, eqW_i, neW_i, isW_n, isntW_n, isW_b, isntW_b, idxW_l, idxW_t, optW_s, optP_s, lenW_l, lenW_t, lenW_s, lenW_d, intW_i, intW_b, absW_i, maxW_i, minW_i, negW_i, listW_l, listW_t, tupleW_l, tupleW_t, sliceW_l, sliceW_t, isiW_1, optI_n, optI_s, truW_b, truW_i, truW_l, truW_t, truW_n, itW_l, itW_t, itW_r1, itW_r2, itW_r3, strW_i, itW_el, itW_et, itW_zl, itW_zt, itW_vl, itW_vt, tgW_n, tgW_t, setAll_c, setAll_n, List.map_cons, List.map_nil, List.cons_append, List.nil_append, List.append_nil, List.getElem?_cons_succ, List.getElem?_cons_zero, List.length_cons, List.length_nil, Nat.reduceAdd, Nat.reduceSub, List.replicate, List.set_cons_succ, List.set_cons_zero, mtW, mtTy, getW, bkW, dicW, revW, Sl_od, inW_d, notinW_d])
  refine fnW_mk rfl ⟨i, 2, rfl, by decide, smi (by decide) (by decide), fun a a0 a1 => ?_⟩
  simp only [wipeE, WCs, mkEnv, fnEnds, WS_raise, WS_try, WS_frz, WS_set, WS_setT, WS_par2, WS_par3, WS_aug, WS_expr, WS_ret, WS_retv, WS_retN, WS_if, WS_for, WS_while, WS_brk, WS_cont, WS_pass, WS_doc, WS_append, WS_extend, WS_popx, WS_setix, WS_augix, WS_setd, WS_rvs, WS_popset, WS_insert, extW_l, extW_t, insW_2, WE, WAs, WLs, WT, argK, argW, opW, opI, biW, Sl_v, Sl_o, csD, slW, ownW, if_true, if_false, addW_i, addW_l, addW_t, subW_i, mulW_i, mulW_l, mulW_t, fdivW_i, modW_i, powW_i, shlW_i, shrW_i, bitW_i, iaddW_i, imulW_i, ifdivW_i, ltW_i, leW_i, gtW_i, geW_i, eqW_i, neW_i, isW_n, isntW_n, isW_b, isntW_b, idxW_l, idxW_t, optW_s, optP_s, lenW_l, lenW_t, lenW_s, lenW_d, intW_i, intW_b, absW_i, maxW_i, minW_i, negW_i, listW_l, listW_t, tupleW_l, tupleW_t, sliceW_l, sliceW_t, isiW_1, optI_n, optI_s, truW_b, truW_i, truW_l, truW_t, truW_n, itW_l, itW_t, itW_r1, itW_r2, itW_r3, strW_i, itW_el, itW_et, itW_zl, itW_zt, itW_vl, itW_vt, tgW_n, tgW_t, setAll_c, setAll_n, List.map_cons, List.map_nil, List.cons_append, List.nil_append, List.append_nil, List.getElem?_cons_succ, List.getElem?_cons_zero, List.length_cons, List.length_nil, Nat.reduceAdd, Nat.reduceSub, List.replicate, List.set_cons_succ, List.set_cons_zero, mtW, mtTy, getW, bkW, dicW, revW, Sl_od, inW_d, notinW_d]
  refine ⟨by unfold B62; omega, ?_⟩
  obtain ⟨n, hn⟩ : ∃ n : Nat, (1 + a).toNat = n := ⟨_, rfl⟩
  rw [hn, rgD_0]
  refine lcW_gen lineD (fun a : List P => (1 ≤ a.length ∧ a.length ≤ 4) ∧ ∀ x ∈ a, bd 50 x) _ [] (by simp; unfold LIM; omega) (fun d hd kz hkz => ?_) fun ls0 hz0 hp0 => ?_
  · try simp only [wipeE, WCs, wipeE, WCs, mkEnv, fnEnds, WS_raise, WS_try, WS_frz, WS_set, WS_setT, WS_par2, WS_par3, WS_aug, WS_expr, WS_ret, WS_retv, WS_retN, WS_if, WS_for, WS_while, WS_brk, WS_cont, WS_pass, WS_doc, WS_append, WS_extend, WS_popx, WS_setix, WS_augix, WS_setd, WS_rvs, WS_popset, WS_insert, extW_l, extW_t, insW_2, WE, WAs, WLs, WT, argK, argW, opW, opI, biW, Sl_v, Sl_o, csD, slW, ownW, if_true, if_false, addW_i, addW_l, addW_t, subW_i, mulW_i, mulW_l, mulW_t, fdivW_i, modW_i, powW_i, shlW_i, shrW_i, bitW_i, iaddW_i, imulW_i, ifdivW_i, ltW_i, leW_i, gtW_i, geW_i, eqW_i, neW_i, isW_n, isntW_n, isW_b, isntW_b, idxW_l, idxW_t, optW_s, optP_s, lenW_l, lenW_t, lenW_s, lenW_d, intW_i, intW_b, absW_i, maxW_i, minW_i, negW_i, listW_l, listW_t, tupleW_l, tupleW_t, sliceW_l, sliceW_t, isiW_1, optI_n, optI_s, truW_b, truW_i, truW_l, truW_t, truW_n, itW_l, itW_t, itW_r1, itW_r2, itW_r3, strW_i, itW_el, itW_et, itW_zl, itW_zt, itW_vl, itW_vt, tgW_n, tgW_t, setAll_c, setAll_n, List.map_cons, List.map_nil, List.cons_append, List.nil_append, List.append_nil, List.getElem?_cons_succ, List.getElem?_cons_zero, List.length_cons, List.length_nil, Nat.reduceAdd, Nat.reduceSub, List.replicate, List.set_cons_succ, List.set_cons_zero, mtW, mtTy, getW, bkW, dicW, revW, Sl_od, inW_d, notinW_d]
    exact fnW_mk rfl ⟨i, rfl, fun a h1 h2 h3 => hkz a ⟨h1, h2⟩⟩
  rw [List.nil_append]
  have hz0 : ls0.length = n := by simpa using hz0
  generalize hE : (PEnds.mk kk Q _ kk _) = E
  have core : ∀ (ls : List (List P)) (y2 : Option Sl), 1 ≤ ls.length → ls.length ≤ 3 → (∀ a ∈ ls, (1 ≤ a.length ∧ a.length ≤ 4) ∧ ∀ x ∈ a, bd 50 x) → WSs G_law ms_law_b8_3 [some (.val (.scr ns)), some (.val (.g i 0)), y2, some (.val (.tup (ptsD o))), some (.own (ls.map lineD)), y5, y6, y7, y8, y9, y10, y11, y12, y13, y14, y15, y16, y17, y18, y19] E := by
    intro ls y2 l1 l3 hp
    have hL : ∀ k, k < ls.length → OL o (ls.getD k []) 3 := fun k hk => by
      have hm : ls.getD k [] ∈ ls := by
        rw [List.getD_eq_getElem?_getD, List.getElem?_eq_getElem hk]
        exact List.getElem_mem hk
      obtain ⟨⟨q1, q2⟩, q3⟩ := hp _ hm
      exact ⟨o1, by omega, q1, by omega, q3, ob, by decide, by unfold BIG; decide⟩
    have hL4 : ∀ k, k < ls.length → (ls.getD k []).length ≤ 4 := fun k hk => by
      have hm : ls.getD k [] ∈ ls := by
        rw [List.getD_eq_getElem?_getD, List.getElem?_eq_getElem hk]
        exact List.getElem_mem hk
      exact (hp _ hm).1.2
    ((first | (with_reducible refine Box.mk ?_) | skip); show WSs _ (_ :: _) _ _; rw [WSs_cB]; simp only [wipeE, WCs, mkEnv, fnEnds, WS_raise, WS_try, WS_frz, WS_set, WS_setT, WS_par2, WS_par3, WS_aug, WS_expr, WS_ret, WS_retv, WS_retN, WS_if, WS_for, WS_while, WS_brk, WS_cont, WS_pass, WS_doc, WS_append, WS_extend, WS_popx, WS_setix, WS_augix, WS_setd, WS_rvs, WS_popset, WS_insert, extW_l, extW_t, insW_2, WE, WAs, WLs, WT, argK, argW, opW, opI, biW, Sl_v, Sl_o, csD, slW, ownW, if_true, if_false, addW_i, addW_l, addW_t, subW_i, mulW_i, mulW_l, mulW_t, fdivW_i, modW_i, powW_i, shlW_i, shrW_i, bitW_i, iaddW_i, imulW_i, ifdivW_i, ltW_i, leW_i, gtW_i, geW_i, eqW_i, neW_i, isW_n, isntW_n, isW_b, isntW_b, idxW_l, idxW_t, optW_s, optP_s, lenW_l, lenW_t, lenW_s, lenW_d, intW_i, intW_b, absW_i, maxW_i, minW_i, negW_i, listW_l, listW_t, tupleW_l, tupleW_t, sliceW_l, sliceW_t, isiW_1, optI_n, optI_s, truW_b, truW_i, truW_l, truW_t, truW_n, itW_l, itW_t, itW_r1, itW_r2, itW_r3, strW_i, itW_el, itW_et, itW_zl, itW_zt, itW_vl, itW_vt, tgW_n, tgW_t, setAll_c, setAll_n, List.map_cons, List.map_nil, List.cons_append, List.nil_append, List.append_nil, List.getElem?_cons_succ, List.getElem?_cons_zero, List.length_cons, List.length_nil, Nat.reduceAdd, Nat.reduceSub, List.replicate, List.set_cons_succ, List.set_cons_zero, mtW, mtTy, getW, bkW, dicW, revW, Sl_od, inW_d, notinW_d])
    refine fnW_mk rfl ⟨i, 6, rfl, by decide, smi (by decide) (by decide), fun s s0 s1 => ?_⟩
    obtain ⟨s, rfl⟩ := Int.eq_ofNat_of_zero_le s0
    ((first | (with_reducible refine Box.mk ?_) | skip); show WSs _ (_ :: _) _ _; rw [WSs_cB]; simp only [wipeE, WCs, mkEnv, fnEnds, WS_raise, WS_try, WS_frz, WS_set, WS_setT, WS_par2, WS_par3, WS_aug, WS_expr, WS_ret, WS_retv, WS_retN, WS_if, WS_for, WS_while, WS_brk, WS_cont, WS_pass, WS_doc, WS_append, WS_extend, WS_popx, WS_setix, WS_augix, WS_setd, WS_rvs, WS_popset, WS_insert, extW_l, extW_t, insW_2, WE, WAs, WLs, WT, argK, argW, opW, opI, biW, Sl_v, Sl_o, csD, slW, ownW, if_true, if_false, addW_i, addW_l, addW_t, subW_i, mulW_i, mulW_l, mulW_t, fdivW_i, modW_i, powW_i, shlW_i, shrW_i, bitW_i, iaddW_i, imulW_i, ifdivW_i, ltW_i, leW_i, gtW_i, geW_i, eqW_i, neW_i, isW_n, isntW_n, isW_b, isntW_b, idxW_l, idxW_t, optW_s, optP_s, lenW_l, lenW_t, lenW_s, lenW_d, intW_i, intW_b, absW_i, maxW_i, minW_i, negW_i, listW_l, listW_t, tupleW_l, tupleW_t, sliceW_l, sliceW_t, isiW_1, optI_n, optI_s, truW_b, truW_i, truW_l, truW_t, truW_n, itW_l, itW_t, itW_r1, itW_r2, itW_r3, strW_i, itW_el, itW_et, itW_zl, itW_zt, itW_vl, itW_vt, tgW_n, tgW_t, setAll_c, setAll_n, List.map_cons, List.map_nil, List.cons_append, List.nil_append, List.append_nil, List.getElem?_cons_succ, List.getElem?_cons_zero, List.length_cons, List.length_nil, Nat.reduceAdd, Nat.reduceSub, List.replicate, List.set_cons_succ, List.set_cons_zero, mtW, mtTy, getW, bkW, dicW, revW, Sl_od, inW_d, notinW_d])
    rw [show D.lst (ls.map lineD) = lnsD ls from rfl]
    have gll := gs_len (n := ls.length) (s + 1)
    have gb : (s + 1) * (4 * ls.length) ≤ 6 * (4 * 10) := Nat.mul_le_mul (by omega) (by omega)
    have gp : 1 ≤ (gs ls.length (s + 1)).length := by
      rw [gll]
      exact Nat.mul_pos (by omega) (by omega)
    ((first | (with_reducible refine Box.mk ?_) | skip); show WSs _ (_ :: _) _ _; rw [WSs_cB]; simp only [wipeE, WCs, mkEnv, fnEnds, WS_raise, WS_try, WS_frz, WS_set, WS_setT, WS_par2, WS_par3, WS_aug, WS_expr, WS_ret, WS_retv, WS_retN, WS_if, WS_for, WS_while, WS_brk, WS_cont, WS_pass, WS_doc, WS_append, WS_extend, WS_popx, WS_setix, WS_augix, WS_setd, WS_rvs, WS_popset, WS_insert, extW_l, extW_t, insW_2, WE, WAs, WLs, WT, argK, argW, opW, opI, biW, Sl_v, Sl_o, csD, slW, ownW, if_true, if_false, addW_i, addW_l, addW_t, subW_i, mulW_i, mulW_l, mulW_t, fdivW_i, modW_i, powW_i, shlW_i, shrW_i, bitW_i, iaddW_i, imulW_i, ifdivW_i, ltW_i, leW_i, gtW_i, geW_i, eqW_i, neW_i, isW_n, isntW_n, isW_b, isntW_b, idxW_l, idxW_t, optW_s, optP_s, lenW_l, lenW_t, lenW_s, lenW_d, intW_i, intW_b, absW_i, maxW_i, minW_i, negW_i, listW_l, listW_t, tupleW_l, tupleW_t, sliceW_l, sliceW_t, isiW_1, optI_n, optI_s, truW_b, truW_i, truW_l, truW_t, truW_n, itW_l, itW_t, itW_r1, itW_r2, itW_r3, strW_i, itW_el, itW_et, itW_zl, itW_zt, itW_vl, itW_vt, tgW_n, tgW_t, setAll_c, setAll_n, List.map_cons, List.map_nil, List.cons_append, List.nil_append, List.append_nil, List.getElem?_cons_succ, List.getElem?_cons_zero, List.length_cons, List.length_nil, Nat.reduceAdd, Nat.reduceSub, List.replicate, List.set_cons_succ, List.set_cons_zero, mtW, mtTy, getW, bkW, dicW, revW, Sl_od, inW_d, notinW_d])
    refine fnW_mk rfl ⟨ls, s, rfl, by omega, by omega, ?_⟩
    refine fnW_mk rfl ⟨i, _, rfl, ⟨gp, by omega⟩, fun g hg => ?_⟩
    obtain ⟨p, t, k, hp1, ht1, hk1, rfl⟩ := gs_mem.mp hg
    unfold gD
    rw [Sl_v, tp3_set]
    refine ⟨rfl, ?_⟩
    ((first | (with_reducible refine Box.mk ?_) | skip); show WSs _ (_ :: _) _ _; rw [WSs_cB]; simp only [wipeE, WCs, mkEnv, fnEnds, WS_raise, WS_try, WS_frz, WS_set, WS_setT, WS_par2, WS_par3, WS_aug, WS_expr, WS_ret, WS_retv, WS_retN, WS_if, WS_for, WS_while, WS_brk, WS_cont, WS_pass, WS_doc, WS_append, WS_extend, WS_popx, WS_setix, WS_augix, WS_setd, WS_rvs, WS_popset, WS_insert, extW_l, extW_t, insW_2, WE, WAs, WLs, WT, argK, argW, opW, opI, biW, Sl_v, Sl_o, csD, slW, ownW, if_true, if_false, addW_i, addW_l, addW_t, subW_i, mulW_i, mulW_l, mulW_t, fdivW_i, modW_i, powW_i, shlW_i, shrW_i, bitW_i, iaddW_i, imulW_i, ifdivW_i, ltW_i, leW_i, gtW_i, geW_i, eqW_i, neW_i, isW_n, isntW_n, isW_b, isntW_b, idxW_l, idxW_t, optW_s, optP_s, lenW_l, lenW_t, lenW_s, lenW_d, intW_i, intW_b, absW_i, maxW_i, minW_i, negW_i, listW_l, listW_t, tupleW_l, tupleW_t, sliceW_l, sliceW_t, isiW_1, optI_n, optI_s, truW_b, truW_i, truW_l, truW_t, truW_n, itW_l, itW_t, itW_r1, itW_r2, itW_r3, strW_i, itW_el, itW_et, itW_zl, itW_zt, itW_vl, itW_vt, tgW_n, tgW_t, setAll_c, setAll_n, List.map_cons, List.map_nil, List.cons_append, List.nil_append, List.append_nil, List.getElem?_cons_succ, List.getElem?_cons_zero, List.length_cons, List.length_nil, Nat.reduceAdd, Nat.reduceSub, List.replicate, List.set_cons_succ, List.set_cons_zero, mtW, mtTy, getW, bkW, dicW, revW, Sl_od, inW_d, notinW_d])
    refine lns_idx lnsD_is hk1 ?_
    refine fnW_mk rfl ⟨o, _, 3, t, p, s, rfl, ht1, by omega, hL k hk1, ?_⟩
    have h4k := hL4 k hk1
    have clb := clear_bd (p := p) (n := s + o.length) fun x hx => bd_up (wh_bd (t := t) (hL k hk1) x hx) (by omega)
    have cll : (arr (wh o (ls.getD k []) t) p (s + o.length)).length = s + o.length := arr_len
    generalize arr (wh o (ls.getD k []) t) p (s + o.length) = clear at clb cll ⊢
    ((first | (with_reducible refine Box.mk ?_) | skip); show WSs _ (_ :: _) _ _; rw [WSs_cB]; simp only [wipeE, WCs, mkEnv, fnEnds, WS_raise, WS_try, WS_frz, WS_set, WS_setT, WS_par2, WS_par3, WS_aug, WS_expr, WS_ret, WS_retv, WS_retN, WS_if, WS_for, WS_while, WS_brk, WS_cont, WS_pass, WS_doc, WS_append, WS_extend, WS_popx, WS_setix, WS_augix, WS_setd, WS_rvs, WS_popset, WS_insert, extW_l, extW_t, insW_2, WE, WAs, WLs, WT, argK, argW, opW, opI, biW, Sl_v, Sl_o, csD, slW, ownW, if_true, if_false, addW_i, addW_l, addW_t, subW_i, mulW_i, mulW_l, mulW_t, fdivW_i, modW_i, powW_i, shlW_i, shrW_i, bitW_i, iaddW_i, imulW_i, ifdivW_i, ltW_i, leW_i, gtW_i, geW_i, eqW_i, neW_i, isW_n, isntW_n, isW_b, isntW_b, idxW_l, idxW_t, optW_s, optP_s, lenW_l, lenW_t, lenW_s, lenW_d, intW_i, intW_b, absW_i, maxW_i, minW_i, negW_i, listW_l, listW_t, tupleW_l, tupleW_t, sliceW_l, sliceW_t, isiW_1, optI_n, optI_s, truW_b, truW_i, truW_l, truW_t, truW_n, itW_l, itW_t, itW_r1, itW_r2, itW_r3, strW_i, itW_el, itW_et, itW_zl, itW_zt, itW_vl, itW_vt, tgW_n, tgW_t, setAll_c, setAll_n, List.map_cons, List.map_nil, List.cons_append, List.nil_append, List.append_nil, List.getElem?_cons_succ, List.getElem?_cons_zero, List.length_cons, List.length_nil, Nat.reduceAdd, Nat.reduceSub, List.replicate, List.set_cons_succ, List.set_cons_zero, mtW, mtTy, getW, bkW, dicW, revW, Sl_od, inW_d, notinW_d])
    refine ⟨by decide, ?_⟩
    refine fnW_mk rfl ⟨i, _, rfl, by decide, fun w hw => ?_⟩
    obtain ⟨w, rfl, w0, w1⟩ : ∃ v : Int, w = .int v ∧ 0 ≤ v ∧ v ≤ 5 := by
      simp only [List.mem_cons, List.not_mem_nil, or_false] at hw
      rcases hw with rfl | rfl | rfl | rfl <;> exact ⟨_, rfl, by decide, by decide⟩
    ((first | (with_reducible refine Box.mk ?_) | skip); show WSs _ (_ :: _) _ _; rw [WSs_cB]; simp only [wipeE, WCs, mkEnv, fnEnds, WS_raise, WS_try, WS_frz, WS_set, WS_setT, WS_par2, WS_par3, WS_aug, WS_expr, WS_ret, WS_retv, WS_retN, WS_if, WS_for, WS_while, WS_brk, WS_cont, WS_pass, WS_doc, WS_append, WS_extend, WS_popx, WS_setix, WS_augix, WS_setd, WS_rvs, WS_popset, WS_insert, extW_l, extW_t, insW_2, WE, WAs, WLs, WT, argK, argW, opW, opI, biW, Sl_v, Sl_o, csD, slW, ownW, if_true, if_false, addW_i, addW_l, addW_t, subW_i, mulW_i, mulW_l, mulW_t, fdivW_i, modW_i, powW_i, shlW_i, shrW_i, bitW_i, iaddW_i, imulW_i, ifdivW_i, ltW_i, leW_i, gtW_i, geW_i, eqW_i, neW_i, isW_n, isntW_n, isW_b, isntW_b, idxW_l, idxW_t, optW_s, optP_s, lenW_l, lenW_t, lenW_s, lenW_d, intW_i, intW_b, absW_i, maxW_i, minW_i, negW_i, listW_l, listW_t, tupleW_l, tupleW_t, sliceW_l, sliceW_t, isiW_1, optI_n, optI_s, truW_b, truW_i, truW_l, truW_t, truW_n, itW_l, itW_t, itW_r1, itW_r2, itW_r3, strW_i, itW_el, itW_et, itW_zl, itW_zt, itW_vl, itW_vt, tgW_n, tgW_t, setAll_c, setAll_n, List.map_cons, List.map_nil, List.cons_append, List.nil_append, List.append_nil, List.getElem?_cons_succ, List.getElem?_cons_zero, List.length_cons, List.length_nil, Nat.reduceAdd, Nat.reduceSub, List.replicate, List.set_cons_succ, List.set_cons_zero, mtW, mtTy, getW, bkW, dicW, revW, Sl_od, inW_d, notinW_d])
    simp only [pts_len]
    refine ⟨by unfold B62; omega, ?_⟩
    rw [Int.toNat_natCast, rgD_0, cll]
    have last : ∀ (sm : List (Option P)) (y8 y17 y18 : Option Sl), sm.length = s + o.length → SB sm 2000 → WSs G_law ms_law_b8_10 [some (.val (.scr ns)), some (.val (.g i 0)), y2, some (.val (.tup (ptsD o))), some (.val (lnsD ls)), some (.val (.int (s : Nat))), some (.own (sm.map smD)), some (.val (.int w)), y8, y9, y10, y11, y12, some (.val (.int (p : Nat))), some (.val (.int (t : Nat))), some (.val (.int (k : Nat))), y16, y17, y18, y19] E := by
      intro sm y8 y17 y18 sl sb
      have hcs : ∀ p t n, p ≤ s → t < 4 → n < ls.length → CS (shp o (ls.getD n []) t) sm p SMALL := by
        intro p t n hp ht hn
        have hwb := wh_bd (t := t) (hL n hn)
        have h4 := hL4 n hn
        refine ⟨⟨?_, by omega⟩, fun x hx => bd_up (hwb x (List.mem_of_mem_take hx)) (by unfold SMALL; omega), fun x hx => bd_up (sb x hx) (by unfold SMALL; decide), by unfold SMALL BIG; decide⟩
        rw [shp_len (hL n hn).a1]
        omega
      ((first | (with_reducible refine Box.mk ?_) | skip); show WSs _ (_ :: _) _ _; rw [WSs_cB]; simp only [wipeE, WCs, mkEnv, fnEnds, WS_raise, WS_try, WS_frz, WS_set, WS_setT, WS_par2, WS_par3, WS_aug, WS_expr, WS_ret, WS_retv, WS_retN, WS_if, WS_for, WS_while, WS_brk, WS_cont, WS_pass, WS_doc, WS_append, WS_extend, WS_popx, WS_setix, WS_augix, WS_setd, WS_rvs, WS_popset, WS_insert, extW_l, extW_t, insW_2, WE, WAs, WLs, WT, argK, argW, opW, opI, biW, Sl_v, Sl_o, csD, slW, ownW, if_true, if_false, addW_i, addW_l, addW_t, subW_i, mulW_i, mulW_l, mulW_t, fdivW_i, modW_i, powW_i, shlW_i, shrW_i, bitW_i, iaddW_i, imulW_i, ifdivW_i, ltW_i, leW_i, gtW_i, geW_i, eqW_i, neW_i, isW_n, isntW_n, isW_b, isntW_b, idxW_l, idxW_t, optW_s, optP_s, lenW_l, lenW_t, lenW_s, lenW_d, intW_i, intW_b, absW_i, maxW_i, minW_i, negW_i, listW_l, listW_t, tupleW_l, tupleW_t, sliceW_l, sliceW_t, isiW_1, optI_n, optI_s, truW_b, truW_i, truW_l, truW_t, truW_n, itW_l, itW_t, itW_r1, itW_r2, itW_r3, strW_i, itW_el, itW_et, itW_zl, itW_zt, itW_vl, itW_vt, tgW_n, tgW_t, setAll_c, setAll_n, List.map_cons, List.map_nil, List.cons_append, List.nil_append, List.append_nil, List.getElem?_cons_succ, List.getElem?_cons_zero, List.length_cons, List.length_nil, Nat.reduceAdd, Nat.reduceSub, List.replicate, List.set_cons_succ, List.set_cons_zero, mtW, mtTy, getW, bkW, dicW, revW, Sl_od, inW_d, notinW_d])
      ((first | (with_reducible refine Box.mk ?_) | skip); show WSs _ (_ :: _) _ _; rw [WSs_cB]; simp only [wipeE, WCs, mkEnv, fnEnds, WS_raise, WS_try, WS_frz, WS_set, WS_setT, WS_par2, WS_par3, WS_aug, WS_expr, WS_ret, WS_retv, WS_retN, WS_if, WS_for, WS_while, WS_brk, WS_cont, WS_pass, WS_doc, WS_append, WS_extend, WS_popx, WS_setix, WS_augix, WS_setd, WS_rvs, WS_popset, WS_insert, extW_l, extW_t, insW_2, WE, WAs, WLs, WT, argK, argW, opW, opI, biW, Sl_v, Sl_o, csD, slW, ownW, if_true, if_false, addW_i, addW_l, addW_t, subW_i, mulW_i, mulW_l, mulW_t, fdivW_i, modW_i, powW_i, shlW_i, shrW_i, bitW_i, iaddW_i, imulW_i, ifdivW_i, ltW_i, leW_i, gtW_i, geW_i, eqW_i, neW_i, isW_n, isntW_n, isW_b, isntW_b, idxW_l, idxW_t, optW_s, optP_s, lenW_l, lenW_t, lenW_s, lenW_d, intW_i, intW_b, absW_i, maxW_i, minW_i, negW_i, listW_l, listW_t, tupleW_l, tupleW_t, sliceW_l, sliceW_t, isiW_1, optI_n, optI_s, truW_b, truW_i, truW_l, truW_t, truW_n, itW_l, itW_t, itW_r1, itW_r2, itW_r3, strW_i, itW_el, itW_et, itW_zl, itW_zt, itW_vl, itW_vt, tgW_n, tgW_t, setAll_c, setAll_n, List.map_cons, List.map_nil, List.cons_append, List.nil_append, List.append_nil, List.getElem?_cons_succ, List.getElem?_cons_zero, List.length_cons, List.length_nil, Nat.reduceAdd, Nat.reduceSub, List.replicate, List.set_cons_succ, List.set_cons_zero, mtW, mtTy, getW, bkW, dicW, revW, Sl_od, inW_d, notinW_d])
      refine fnW_mk rfl ⟨o, ls, 3, rfl, by omega, hL, ?_⟩
      ((first | (with_reducible refine Box.mk ?_) | skip); show WSs _ (_ :: _) _ _; rw [WSs_cB]; simp only [wipeE, WCs, mkEnv, fnEnds, WS_raise, WS_try, WS_frz, WS_set, WS_setT, WS_par2, WS_par3, WS_aug, WS_expr, WS_ret, WS_retv, WS_retN, WS_if, WS_for, WS_while, WS_brk, WS_cont, WS_pass, WS_doc, WS_append, WS_extend, WS_popx, WS_setix, WS_augix, WS_setd, WS_rvs, WS_popset, WS_insert, extW_l, extW_t, insW_2, WE, WAs, WLs, WT, argK, argW, opW, opI, biW, Sl_v, Sl_o, csD, slW, ownW, if_true, if_false, addW_i, addW_l, addW_t, subW_i, mulW_i, mulW_l, mulW_t, fdivW_i, modW_i, powW_i, shlW_i, shrW_i, bitW_i, iaddW_i, imulW_i, ifdivW_i, ltW_i, leW_i, gtW_i, geW_i, eqW_i, neW_i, isW_n, isntW_n, isW_b, isntW_b, idxW_l, idxW_t, optW_s, optP_s, lenW_l, lenW_t, lenW_s, lenW_d, intW_i, intW_b, absW_i, maxW_i, minW_i, negW_i, listW_l, listW_t, tupleW_l, tupleW_t, sliceW_l, sliceW_t, isiW_1, optI_n, optI_s, truW_b, truW_i, truW_l, truW_t, truW_n, itW_l, itW_t, itW_r1, itW_r2, itW_r3, strW_i, itW_el, itW_et, itW_zl, itW_zt, itW_vl, itW_vt, tgW_n, tgW_t, setAll_c, setAll_n, List.map_cons, List.map_nil, List.cons_append, List.nil_append, List.append_nil, List.getElem?_cons_succ, List.getElem?_cons_zero, List.length_cons, List.length_nil, Nat.reduceAdd, Nat.reduceSub, List.replicate, List.set_cons_succ, List.set_cons_zero, mtW, mtTy, getW, bkW, dicW, revW, Sl_od, inW_d, notinW_d])
      ((first | (with_reducible refine Box.mk ?_) | skip); show WSs _ (_ :: _) _ _; rw [WSs_cB]; simp only [wipeE, WCs, mkEnv, fnEnds, WS_raise, WS_try, WS_frz, WS_set, WS_setT, WS_par2, WS_par3, WS_aug, WS_expr, WS_ret, WS_retv, WS_retN, WS_if, WS_for, WS_while, WS_brk, WS_cont, WS_pass, WS_doc, WS_append, WS_extend, WS_popx, WS_setix, WS_augix, WS_setd, WS_rvs, WS_popset, WS_insert, extW_l, extW_t, insW_2, WE, WAs, WLs, WT, argK, argW, opW, opI, biW, Sl_v, Sl_o, csD, slW, ownW, if_true, if_false, addW_i, addW_l, addW_t, subW_i, mulW_i, mulW_l, mulW_t, fdivW_i, modW_i, powW_i, shlW_i, shrW_i, bitW_i, iaddW_i, imulW_i, ifdivW_i, ltW_i, leW_i, gtW_i, geW_i, eqW_i, neW_i, isW_n, isntW_n, isW_b, isntW_b, idxW_l, idxW_t, optW_s, optP_s, lenW_l, lenW_t, lenW_s, lenW_d, intW_i, intW_b, absW_i, maxW_i, minW_i, negW_i, listW_l, listW_t, tupleW_l, tupleW_t, sliceW_l, sliceW_t, isiW_1, optI_n, optI_s, truW_b, truW_i, truW_l, truW_t, truW_n, itW_l, itW_t, itW_r1, itW_r2, itW_r3, strW_i, itW_el, itW_et, itW_zl, itW_zt, itW_vl, itW_vt, tgW_n, tgW_t, setAll_c, setAll_n, List.map_cons, List.map_nil, List.cons_append, List.nil_append, List.append_nil, List.getElem?_cons_succ, List.getElem?_cons_zero, List.length_cons, List.length_nil, Nat.reduceAdd, Nat.reduceSub, List.replicate, List.set_cons_succ, List.set_cons_zero, mtW, mtTy, getW, bkW, dicW, revW, Sl_od, inW_d, notinW_d])
      ((first | (with_reducible refine Box.mk ?_) | skip); show WSs _ (_ :: _) _ _; rw [WSs_cB]; simp only [wipeE, WCs, mkEnv, fnEnds, WS_raise, WS_try, WS_frz, WS_set, WS_setT, WS_par2, WS_par3, WS_aug, WS_expr, WS_ret, WS_retv, WS_retN, WS_if, WS_for, WS_while, WS_brk, WS_cont, WS_pass, WS_doc, WS_append, WS_extend, WS_popx, WS_setix, WS_augix, WS_setd, WS_rvs, WS_popset, WS_insert, extW_l, extW_t, insW_2, WE, WAs, WLs, WT, argK, argW, opW, opI, biW, Sl_v, Sl_o, csD, slW, ownW, if_true, if_false, addW_i, addW_l, addW_t, subW_i, mulW_i, mulW_l, mulW_t, fdivW_i, modW_i, powW_i, shlW_i, shrW_i, bitW_i, iaddW_i, imulW_i, ifdivW_i, ltW_i, leW_i, gtW_i, geW_i, eqW_i, neW_i, isW_n, isntW_n, isW_b, isntW_b, idxW_l, idxW_t, optW_s, optP_s, lenW_l, lenW_t, lenW_s, lenW_d, intW_i, intW_b, absW_i, maxW_i, minW_i, negW_i, listW_l, listW_t, tupleW_l, tupleW_t, sliceW_l, sliceW_t, isiW_1, optI_n, optI_s, truW_b, truW_i, truW_l, truW_t, truW_n, itW_l, itW_t, itW_r1, itW_r2, itW_r3, strW_i, itW_el, itW_et, itW_zl, itW_zt, itW_vl, itW_vt, tgW_n, tgW_t, setAll_c, setAll_n, List.map_cons, List.map_nil, List.cons_append, List.nil_append, List.append_nil, List.getElem?_cons_succ, List.getElem?_cons_zero, List.length_cons, List.length_nil, Nat.reduceAdd, Nat.reduceSub, List.replicate, List.set_cons_succ, List.set_cons_zero, mtW, mtTy, getW, bkW, dicW, revW, Sl_od, inW_d, notinW_d])
      ((first | (with_reducible refine Box.mk ?_) | skip); show WSs _ (_ :: _) _ _; rw [WSs_cB]; simp only [wipeE, WCs, mkEnv, fnEnds, WS_raise, WS_try, WS_frz, WS_set, WS_setT, WS_par2, WS_par3, WS_aug, WS_expr, WS_ret, WS_retv, WS_retN, WS_if, WS_for, WS_while, WS_brk, WS_cont, WS_pass, WS_doc, WS_append, WS_extend, WS_popx, WS_setix, WS_augix, WS_setd, WS_rvs, WS_popset, WS_insert, extW_l, extW_t, insW_2, WE, WAs, WLs, WT, argK, argW, opW, opI, biW, Sl_v, Sl_o, csD, slW, ownW, if_true, if_false, addW_i, addW_l, addW_t, subW_i, mulW_i, mulW_l, mulW_t, fdivW_i, modW_i, powW_i, shlW_i, shrW_i, bitW_i, iaddW_i, imulW_i, ifdivW_i, ltW_i, leW_i, gtW_i, geW_i, eqW_i, neW_i, isW_n, isntW_n, isW_b, isntW_b, idxW_l, idxW_t, optW_s, optP_s, lenW_l, lenW_t, lenW_s, lenW_d, intW_i, intW_b, absW_i, maxW_i, minW_i, negW_i, listW_l, listW_t, tupleW_l, tupleW_t, sliceW_l, sliceW_t, isiW_1, optI_n, optI_s, truW_b, truW_i, truW_l, truW_t, truW_n, itW_l, itW_t, itW_r1, itW_r2, itW_r3, strW_i, itW_el, itW_et, itW_zl, itW_zt, itW_vl, itW_vt, tgW_n, tgW_t, setAll_c, setAll_n, List.map_cons, List.map_nil, List.cons_append, List.nil_append, List.append_nil, List.getElem?_cons_succ, List.getElem?_cons_zero, List.length_cons, List.length_nil, Nat.reduceAdd, Nat.reduceSub, List.replicate, List.set_cons_succ, List.set_cons_zero, mtW, mtTy, getW, bkW, dicW, revW, Sl_od, inW_d, notinW_d])
      refine fnW_mk rfl ⟨ls, s, rfl, by omega, by omega, ?_⟩
      simp only [wipeE, WCs, mkEnv, fnEnds, WS_raise, WS_try, WS_frz, WS_set, WS_setT, WS_par2, WS_par3, WS_aug, WS_expr, WS_ret, WS_retv, WS_retN, WS_if, WS_for, WS_while, WS_brk, WS_cont, WS_pass, WS_doc, WS_append, WS_extend, WS_popx, WS_setix, WS_augix, WS_setd, WS_rvs, WS_popset, WS_insert, extW_l, extW_t, insW_2, WE, WAs, WLs, WT, argK, argW, opW, opI, biW, Sl_v, Sl_o, csD, slW, ownW, if_true, if_false, addW_i, addW_l, addW_t, subW_i, mulW_i, mulW_l, mulW_t, fdivW_i, modW_i, powW_i, shlW_i, shrW_i, bitW_i, iaddW_i, imulW_i, ifdivW_i, ltW_i, leW_i, gtW_i, geW_i, eqW_i, neW_i, isW_n, isntW_n, isW_b, isntW_b, idxW_l, idxW_t, optW_s, optP_s, lenW_l, lenW_t, lenW_s, lenW_d, intW_i, intW_b, absW_i, maxW_i, minW_i, negW_i, listW_l, listW_t, tupleW_l, tupleW_t, sliceW_l, sliceW_t, isiW_1, optI_n, optI_s, truW_b, truW_i, truW_l, truW_t, truW_n, itW_l, itW_t, itW_r1, itW_r2, itW_r3, strW_i, itW_el, itW_et, itW_zl, itW_zt, itW_vl, itW_vt, tgW_n, tgW_t, setAll_c, setAll_n, List.map_cons, List.map_nil, List.cons_append, List.nil_append, List.append_nil, List.getElem?_cons_succ, List.getElem?_cons_zero, List.length_cons, List.length_nil, Nat.reduceAdd, Nat.reduceSub, List.replicate, List.set_cons_succ, List.set_cons_zero, mtW, mtTy, getW, bkW, dicW, revW, Sl_od, inW_d, notinW_d]
      rw [gs_gl]
      refine forW_of (f := gT) (fun u _ ρ => ∃ (y6 : Sl) (y11 y16 : Option Sl), y6.d = smsD sm ∧ ρ = [some (.val (.scr ns)), some (.val (.g i 0)), y2, some (.val (.tup (ptsD o))), some (.val (lnsD ls)), some (.val (.int (s : Nat))), some y6, some (.val (.int w)), y8, some (.val (.dic true (kv (tn ls.length 4) (shF o ls)))), some (.val (bestD (gC o ls sm) (am (gC o ls sm) u))), y11, y12, some (.val (.int (p : Nat))), some (.val (.int (t : Nat))), some (.val (.int (k : Nat))), y16, y17, y18, y19]) (gl ls.length (s + 1)) ⟨_, _, _, rfl, rfl⟩ ?_ ?_
      · rintro u x v ρ he ⟨y6, y11, y16, h6, rfl⟩ k2 hk2
        have hx : x ∈ gl ls.length (s + 1) := by rw [he]; simp
        obtain ⟨hx1, hx2, hx3⟩ := gl_mem.mp hx
        simp only [wipeE, WCs, mkEnv, fnEnds, WS_raise, WS_try, WS_frz, WS_set, WS_setT, WS_par2, WS_par3, WS_aug, WS_expr, WS_ret, WS_retv, WS_retN, WS_if, WS_for, WS_while, WS_brk, WS_cont, WS_pass, WS_doc, WS_append, WS_extend, WS_popx, WS_setix, WS_augix, WS_setd, WS_rvs, WS_popset, WS_insert, extW_l, extW_t, insW_2, WE, WAs, WLs, WT, argK, argW, opW, opI, biW, Sl_v, Sl_o, csD, slW, ownW, if_true, if_false, addW_i, addW_l, addW_t, subW_i, mulW_i, mulW_l, mulW_t, fdivW_i, modW_i, powW_i, shlW_i, shrW_i, bitW_i, iaddW_i, imulW_i, ifdivW_i, ltW_i, leW_i, gtW_i, geW_i, eqW_i, neW_i, isW_n, isntW_n, isW_b, isntW_b, idxW_l, idxW_t, optW_s, optP_s, lenW_l, lenW_t, lenW_s, lenW_d, intW_i, intW_b, absW_i, maxW_i, minW_i, negW_i, listW_l, listW_t, tupleW_l, tupleW_t, sliceW_l, sliceW_t, isiW_1, optI_n, optI_s, truW_b, truW_i, truW_l, truW_t, truW_n, itW_l, itW_t, itW_r1, itW_r2, itW_r3, strW_i, itW_el, itW_et, itW_zl, itW_zt, itW_vl, itW_vt, tgW_n, tgW_t, setAll_c, setAll_n, List.map_cons, List.map_nil, List.cons_append, List.nil_append, List.append_nil, List.getElem?_cons_succ, List.getElem?_cons_zero, List.length_cons, List.length_nil, Nat.reduceAdd, Nat.reduceSub, List.replicate, List.set_cons_succ, List.set_cons_zero, mtW, mtTy, getW, bkW, dicW, revW, Sl_od, inW_d, notinW_d]
        ((first | (with_reducible refine Box.mk ?_) | skip); show WSs _ (_ :: _) _ _; rw [WSs_cB]; simp only [wipeE, WCs, mkEnv, fnEnds, WS_raise, WS_try, WS_frz, WS_set, WS_setT, WS_par2, WS_par3, WS_aug, WS_expr, WS_ret, WS_retv, WS_retN, WS_if, WS_for, WS_while, WS_brk, WS_cont, WS_pass, WS_doc, WS_append, WS_extend, WS_popx, WS_setix, WS_augix, WS_setd, WS_rvs, WS_popset, WS_insert, extW_l, extW_t, insW_2, WE, WAs, WLs, WT, argK, argW, opW, opI, biW, Sl_v, Sl_o, csD, slW, ownW, if_true, if_false, addW_i, addW_l, addW_t, subW_i, mulW_i, mulW_l, mulW_t, fdivW_i, modW_i, powW_i, shlW_i, shrW_i, bitW_i, iaddW_i, imulW_i, ifdivW_i, ltW_i, leW_i, gtW_i, geW_i, eqW_i, neW_i, isW_n, isntW_n, isW_b, isntW_b, idxW_l, idxW_t, optW_s, optP_s, lenW_l, lenW_t, lenW_s, lenW_d, intW_i, intW_b, absW_i, maxW_i, minW_i, negW_i, listW_l, listW_t, tupleW_l, tupleW_t, sliceW_l, sliceW_t, isiW_1, optI_n, optI_s, truW_b, truW_i, truW_l, truW_t, truW_n, itW_l, itW_t, itW_r1, itW_r2, itW_r3, strW_i, itW_el, itW_et, itW_zl, itW_zt, itW_vl, itW_vt, tgW_n, tgW_t, setAll_c, setAll_n, List.map_cons, List.map_nil, List.cons_append, List.nil_append, List.append_nil, List.getElem?_cons_succ, List.getElem?_cons_zero, List.length_cons, List.length_nil, Nat.reduceAdd, Nat.reduceSub, List.replicate, List.set_cons_succ, List.set_cons_zero, mtW, mtTy, getW, bkW, dicW, revW, Sl_od, inW_d, notinW_d])
        rw [h6]
        ((first | (with_reducible refine Box.mk ?_) | skip); show WSs _ (_ :: _) _ _; rw [WSs_cB]; simp only [wipeE, WCs, mkEnv, fnEnds, WS_raise, WS_try, WS_frz, WS_set, WS_setT, WS_par2, WS_par3, WS_aug, WS_expr, WS_ret, WS_retv, WS_retN, WS_if, WS_for, WS_while, WS_brk, WS_cont, WS_pass, WS_doc, WS_append, WS_extend, WS_popx, WS_setix, WS_augix, WS_setd, WS_rvs, WS_popset, WS_insert, extW_l, extW_t, insW_2, WE, WAs, WLs, WT, argK, argW, opW, opI, biW, Sl_v, Sl_o, csD, slW, ownW, if_true, if_false, addW_i, addW_l, addW_t, subW_i, mulW_i, mulW_l, mulW_t, fdivW_i, modW_i, powW_i, shlW_i, shrW_i, bitW_i, iaddW_i, imulW_i, ifdivW_i, ltW_i, leW_i, gtW_i, geW_i, eqW_i, neW_i, isW_n, isntW_n, isW_b, isntW_b, idxW_l, idxW_t, optW_s, optP_s, lenW_l, lenW_t, lenW_s, lenW_d, intW_i, intW_b, absW_i, maxW_i, minW_i, negW_i, listW_l, listW_t, tupleW_l, tupleW_t, sliceW_l, sliceW_t, isiW_1, optI_n, optI_s, truW_b, truW_i, truW_l, truW_t, truW_n, itW_l, itW_t, itW_r1, itW_r2, itW_r3, strW_i, itW_el, itW_et, itW_zl, itW_zt, itW_vl, itW_vt, tgW_n, tgW_t, setAll_c, setAll_n, List.map_cons, List.map_nil, List.cons_append, List.nil_append, List.append_nil, List.getElem?_cons_succ, List.getElem?_cons_zero, List.length_cons, List.length_nil, Nat.reduceAdd, Nat.reduceSub, List.replicate, List.set_cons_succ, List.set_cons_zero, mtW, mtTy, getW, bkW, dicW, revW, Sl_od, inW_d, notinW_d])
        unfold gT gD
        simp only [wipeE, WCs, mkEnv, fnEnds, WS_raise, WS_try, WS_frz, WS_set, WS_setT, WS_par2, WS_par3, WS_aug, WS_expr, WS_ret, WS_retv, WS_retN, WS_if, WS_for, WS_while, WS_brk, WS_cont, WS_pass, WS_doc, WS_append, WS_extend, WS_popx, WS_setix, WS_augix, WS_setd, WS_rvs, WS_popset, WS_insert, extW_l, extW_t, insW_2, WE, WAs, WLs, WT, argK, argW, opW, opI, biW, Sl_v, Sl_o, csD, slW, ownW, if_true, if_false, addW_i, addW_l, addW_t, subW_i, mulW_i, mulW_l, mulW_t, fdivW_i, modW_i, powW_i, shlW_i, shrW_i, bitW_i, iaddW_i, imulW_i, ifdivW_i, ltW_i, leW_i, gtW_i, geW_i, eqW_i, neW_i, isW_n, isntW_n, isW_b, isntW_b, idxW_l, idxW_t, optW_s, optP_s, lenW_l, lenW_t, lenW_s, lenW_d, intW_i, intW_b, absW_i, maxW_i, minW_i, negW_i, listW_l, listW_t, tupleW_l, tupleW_t, sliceW_l, sliceW_t, isiW_1, optI_n, optI_s, truW_b, truW_i, truW_l, truW_t, truW_n, itW_l, itW_t, itW_r1, itW_r2, itW_r3, strW_i, itW_el, itW_et, itW_zl, itW_zt, itW_vl, itW_vt, tgW_n, tgW_t, setAll_c, setAll_n, List.map_cons, List.map_nil, List.cons_append, List.nil_append, List.append_nil, List.getElem?_cons_succ, List.getElem?_cons_zero, List.length_cons, List.length_nil, Nat.reduceAdd, Nat.reduceSub, List.replicate, List.set_cons_succ, List.set_cons_zero, mtW, mtTy, getW, bkW, dicW, revW, Sl_od, inW_d, notinW_d]
        have ec : cutD [D.int (x.1 : Nat), .int (x.2.1 : Nat), .int (x.2.2 : Nat)] (some 1) none = [.int (x.2.1 : Nat), .int (x.2.2 : Nat)] := cut_from (k := 1)
        rw [ec]
        refine kv_idx (q := (x.2.1, x.2.2)) (tn_mem.mpr ⟨hx2, hx3⟩) ?_
        unfold shF
        rw [Sl_v]
        refine optA (n := 0) rfl ?_
        refine fnW_mk rfl ⟨_, sm, x.1, rfl, hcs x.1 x.2.1 x.2.2 (by omega) hx2 hx3, ?_⟩
        rw [shp_len (hL _ hx3).a1]
        rw [show csum (shp o (ls.getD x.2.2 []) x.2.1) sm x.1 o.length = gC o ls sm x from rfl, show D.tup [.int (x.1 : Nat), .int (x.2.1 : Nat), .int (x.2.2 : Nat)] = gT x from rfl]
        have es := am_s (C := gC o ls sm) (u := u) (g := x)
        cases ha : am (gC o ls sm) u with
        | none =>
          rw [ha] at es
          ((first | (with_reducible refine Box.mk ?_) | skip); show WSs _ (_ :: _) _ _; rw [WSs_cB]; simp only [wipeE, WCs, mkEnv, fnEnds, WS_raise, WS_try, WS_frz, WS_set, WS_setT, WS_par2, WS_par3, WS_aug, WS_expr, WS_ret, WS_retv, WS_retN, WS_if, WS_for, WS_while, WS_brk, WS_cont, WS_pass, WS_doc, WS_append, WS_extend, WS_popx, WS_setix, WS_augix, WS_setd, WS_rvs, WS_popset, WS_insert, extW_l, extW_t, insW_2, WE, WAs, WLs, WT, argK, argW, opW, opI, biW, Sl_v, Sl_o, csD, slW, ownW, if_true, if_false, addW_i, addW_l, addW_t, subW_i, mulW_i, mulW_l, mulW_t, fdivW_i, modW_i, powW_i, shlW_i, shrW_i, bitW_i, iaddW_i, imulW_i, ifdivW_i, ltW_i, leW_i, gtW_i, geW_i, eqW_i, neW_i, isW_n, isntW_n, isW_b, isntW_b, idxW_l, idxW_t, optW_s, optP_s, lenW_l, lenW_t, lenW_s, lenW_d, intW_i, intW_b, absW_i, maxW_i, minW_i, negW_i, listW_l, listW_t, tupleW_l, tupleW_t, sliceW_l, sliceW_t, isiW_1, optI_n, optI_s, truW_b, truW_i, truW_l, truW_t, truW_n, itW_l, itW_t, itW_r1, itW_r2, itW_r3, strW_i, itW_el, itW_et, itW_zl, itW_zt, itW_vl, itW_vt, tgW_n, tgW_t, setAll_c, setAll_n, List.map_cons, List.map_nil, List.cons_append, List.nil_append, List.append_nil, List.getElem?_cons_succ, List.getElem?_cons_zero, List.length_cons, List.length_nil, Nat.reduceAdd, Nat.reduceSub, List.replicate, List.set_cons_succ, List.set_cons_zero, mtW, mtTy, getW, bkW, dicW, revW, Sl_od, inW_d, notinW_d])
          refine ite_t rfl ?_
          ((first | (with_reducible refine Box.mk ?_) | skip); show WSs _ (_ :: _) _ _; rw [WSs_cB]; simp only [wipeE, WCs, mkEnv, fnEnds, WS_raise, WS_try, WS_frz, WS_set, WS_setT, WS_par2, WS_par3, WS_aug, WS_expr, WS_ret, WS_retv, WS_retN, WS_if, WS_for, WS_while, WS_brk, WS_cont, WS_pass, WS_doc, WS_append, WS_extend, WS_popx, WS_setix, WS_augix, WS_setd, WS_rvs, WS_popset, WS_insert, extW_l, extW_t, insW_2, WE, WAs, WLs, WT, argK, argW, opW, opI, biW, Sl_v, Sl_o, csD, slW, ownW, if_true, if_false, addW_i, addW_l, addW_t, subW_i, mulW_i, mulW_l, mulW_t, fdivW_i, modW_i, powW_i, shlW_i, shrW_i, bitW_i, iaddW_i, imulW_i, ifdivW_i, ltW_i, leW_i, gtW_i, geW_i, eqW_i, neW_i, isW_n, isntW_n, isW_b, isntW_b, idxW_l, idxW_t, optW_s, optP_s, lenW_l, lenW_t, lenW_s, lenW_d, intW_i, intW_b, absW_i, maxW_i, minW_i, negW_i, listW_l, listW_t, tupleW_l, tupleW_t, sliceW_l, sliceW_t, isiW_1, optI_n, optI_s, truW_b, truW_i, truW_l, truW_t, truW_n, itW_l, itW_t, itW_r1, itW_r2, itW_r3, strW_i, itW_el, itW_et, itW_zl, itW_zt, itW_vl, itW_vt, tgW_n, tgW_t, setAll_c, setAll_n, List.map_cons, List.map_nil, List.cons_append, List.nil_append, List.append_nil, List.getElem?_cons_succ, List.getElem?_cons_zero, List.length_cons, List.length_nil, Nat.reduceAdd, Nat.reduceSub, List.replicate, List.set_cons_succ, List.set_cons_zero, mtW, mtTy, getW, bkW, dicW, revW, Sl_od, inW_d, notinW_d])
          refine ⟨by decide, ?_⟩
          ((first | (with_reducible refine Box.mk ?_) | skip); show WSs _ _ _ _; rw [WSs_n])
          ((first | (with_reducible refine Box.mk ?_) | skip); show WSs _ _ _ _; rw [WSs_n])
          exact hk2 _ ⟨_, _, _, rfl, by rw [es]; rfl⟩
        | some b =>
          rw [ha] at es
          ((first | (with_reducible refine Box.mk ?_) | skip); show WSs _ (_ :: _) _ _; rw [WSs_cB]; simp only [wipeE, WCs, mkEnv, fnEnds, WS_raise, WS_try, WS_frz, WS_set, WS_setT, WS_par2, WS_par3, WS_aug, WS_expr, WS_ret, WS_retv, WS_retN, WS_if, WS_for, WS_while, WS_brk, WS_cont, WS_pass, WS_doc, WS_append, WS_extend, WS_popx, WS_setix, WS_augix, WS_setd, WS_rvs, WS_popset, WS_insert, extW_l, extW_t, insW_2, WE, WAs, WLs, WT, argK, argW, opW, opI, biW, Sl_v, Sl_o, csD, slW, ownW, if_true, if_false, addW_i, addW_l, addW_t, subW_i, mulW_i, mulW_l, mulW_t, fdivW_i, modW_i, powW_i, shlW_i, shrW_i, bitW_i, iaddW_i, imulW_i, ifdivW_i, ltW_i, leW_i, gtW_i, geW_i, eqW_i, neW_i, isW_n, isntW_n, isW_b, isntW_b, idxW_l, idxW_t, optW_s, optP_s, lenW_l, lenW_t, lenW_s, lenW_d, intW_i, intW_b, absW_i, maxW_i, minW_i, negW_i, listW_l, listW_t, tupleW_l, tupleW_t, sliceW_l, sliceW_t, isiW_1, optI_n, optI_s, truW_b, truW_i, truW_l, truW_t, truW_n, itW_l, itW_t, itW_r1, itW_r2, itW_r3, strW_i, itW_el, itW_et, itW_zl, itW_zt, itW_vl, itW_vt, tgW_n, tgW_t, setAll_c, setAll_n, List.map_cons, List.map_nil, List.cons_append, List.nil_append, List.append_nil, List.getElem?_cons_succ, List.getElem?_cons_zero, List.length_cons, List.length_nil, Nat.reduceAdd, Nat.reduceSub, List.replicate, List.set_cons_succ, List.set_cons_zero, mtW, mtTy, getW, bkW, dicW, revW, Sl_od, inW_d, notinW_d])
          refine ite_f rfl ?_
          refine idxW_tn (n := 0) rfl ?_
          simp only [wipeE, WCs, mkEnv, fnEnds, WS_raise, WS_try, WS_frz, WS_set, WS_setT, WS_par2, WS_par3, WS_aug, WS_expr, WS_ret, WS_retv, WS_retN, WS_if, WS_for, WS_while, WS_brk, WS_cont, WS_pass, WS_doc, WS_append, WS_extend, WS_popx, WS_setix, WS_augix, WS_setd, WS_rvs, WS_popset, WS_insert, extW_l, extW_t, insW_2, WE, WAs, WLs, WT, argK, argW, opW, opI, biW, Sl_v, Sl_o, csD, slW, ownW, if_true, if_false, addW_i, addW_l, addW_t, subW_i, mulW_i, mulW_l, mulW_t, fdivW_i, modW_i, powW_i, shlW_i, shrW_i, bitW_i, iaddW_i, imulW_i, ifdivW_i, ltW_i, leW_i, gtW_i, geW_i, eqW_i, neW_i, isW_n, isntW_n, isW_b, isntW_b, idxW_l, idxW_t, optW_s, optP_s, lenW_l, lenW_t, lenW_s, lenW_d, intW_i, intW_b, absW_i, maxW_i, minW_i, negW_i, listW_l, listW_t, tupleW_l, tupleW_t, sliceW_l, sliceW_t, isiW_1, optI_n, optI_s, truW_b, truW_i, truW_l, truW_t, truW_n, itW_l, itW_t, itW_r1, itW_r2, itW_r3, strW_i, itW_el, itW_et, itW_zl, itW_zt, itW_vl, itW_vt, tgW_n, tgW_t, setAll_c, setAll_n, List.map_cons, List.map_nil, List.cons_append, List.nil_append, List.append_nil, List.getElem?_cons_succ, List.getElem?_cons_zero, List.length_cons, List.length_nil, Nat.reduceAdd, Nat.reduceSub, List.replicate, List.set_cons_succ, List.set_cons_zero, mtW, mtTy, getW, bkW, dicW, revW, Sl_od, inW_d, notinW_d]
          by_cases hlt : gC o ls sm x < gC o ls sm b
          · refine ite_t (decide_eq_true hlt) ?_
            ((first | (with_reducible refine Box.mk ?_) | skip); show WSs _ (_ :: _) _ _; rw [WSs_cB]; simp only [wipeE, WCs, mkEnv, fnEnds, WS_raise, WS_try, WS_frz, WS_set, WS_setT, WS_par2, WS_par3, WS_aug, WS_expr, WS_ret, WS_retv, WS_retN, WS_if, WS_for, WS_while, WS_brk, WS_cont, WS_pass, WS_doc, WS_append, WS_extend, WS_popx, WS_setix, WS_augix, WS_setd, WS_rvs, WS_popset, WS_insert, extW_l, extW_t, insW_2, WE, WAs, WLs, WT, argK, argW, opW, opI, biW, Sl_v, Sl_o, csD, slW, ownW, if_true, if_false, addW_i, addW_l, addW_t, subW_i, mulW_i, mulW_l, mulW_t, fdivW_i, modW_i, powW_i, shlW_i, shrW_i, bitW_i, iaddW_i, imulW_i, ifdivW_i, ltW_i, leW_i, gtW_i, geW_i, eqW_i, neW_i, isW_n, isntW_n, isW_b, isntW_b, idxW_l, idxW_t, optW_s, optP_s, lenW_l, lenW_t, lenW_s, lenW_d, intW_i, intW_b, absW_i, maxW_i, minW_i, negW_i, listW_l, listW_t, tupleW_l, tupleW_t, sliceW_l, sliceW_t, isiW_1, optI_n, optI_s, truW_b, truW_i, truW_l, truW_t, truW_n, itW_l, itW_t, itW_r1, itW_r2, itW_r3, strW_i, itW_el, itW_et, itW_zl, itW_zt, itW_vl, itW_vt, tgW_n, tgW_t, setAll_c, setAll_n, List.map_cons, List.map_nil, List.cons_append, List.nil_append, List.append_nil, List.getElem?_cons_succ, List.getElem?_cons_zero, List.length_cons, List.length_nil, Nat.reduceAdd, Nat.reduceSub, List.replicate, List.set_cons_succ, List.set_cons_zero, mtW, mtTy, getW, bkW, dicW, revW, Sl_od, inW_d, notinW_d])
            refine ⟨by decide, ?_⟩
            ((first | (with_reducible refine Box.mk ?_) | skip); show WSs _ _ _ _; rw [WSs_n])
            ((first | (with_reducible refine Box.mk ?_) | skip); show WSs _ _ _ _; rw [WSs_n])
            have e2 : amS (gC o ls sm) (some b) x = some x := by unfold amS; simp only; rw [if_pos hlt]
            exact hk2 _ ⟨_, _, _, rfl, by rw [es, e2]; rfl⟩
          · refine ite_f (decide_eq_false hlt) ?_
            ((first | (with_reducible refine Box.mk ?_) | skip); show WSs _ _ _ _; rw [WSs_n])
            ((first | (with_reducible refine Box.mk ?_) | skip); show WSs _ _ _ _; rw [WSs_n])
            have e2 : amS (gC o ls sm) (some b) x = some b := by unfold amS; simp only; rw [if_neg hlt]
            exact hk2 _ ⟨_, _, _, rfl, by rw [es, e2]; rfl⟩
      · rintro ρ ⟨y6, y11, y16, h6, rfl⟩
        have hne : gl ls.length (s + 1) ≠ [] := fun z => by
          have : ((0, 0, 0) : Tri) ∈ gl ls.length (s + 1) := gl_mem.mpr ⟨by simp, by simp, by simp; omega⟩
          rw [z] at this
          cases this
        obtain ⟨b, hb⟩ := am_ne (C := gC o ls sm) hne
        have hr : RD 5 16000000 (.lst (allD o ls sm)) := rd_all (fun x hx => bd_up (ob x hx) (by unfold BIG; decide)) (fun x hx => bd_up (sb x hx) (by unfold BIG; decide)) (fun a ha => ⟨by have := (hp a ha).1.2; omega, fun x hx => bd50 ((hp a ha).2 x hx)⟩) (by omega) l3 (by omega)
        ((first | (with_reducible refine Box.mk ?_) | skip); show WSs _ (_ :: _) _ _; rw [WSs_cB]; simp only [wipeE, WCs, mkEnv, fnEnds, WS_raise, WS_try, WS_frz, WS_set, WS_setT, WS_par2, WS_par3, WS_aug, WS_expr, WS_ret, WS_retv, WS_retN, WS_if, WS_for, WS_while, WS_brk, WS_cont, WS_pass, WS_doc, WS_append, WS_extend, WS_popx, WS_setix, WS_augix, WS_setd, WS_rvs, WS_popset, WS_insert, extW_l, extW_t, insW_2, WE, WAs, WLs, WT, argK, argW, opW, opI, biW, Sl_v, Sl_o, csD, slW, ownW, if_true, if_false, addW_i, addW_l, addW_t, subW_i, mulW_i, mulW_l, mulW_t, fdivW_i, modW_i, powW_i, shlW_i, shrW_i, bitW_i, iaddW_i, imulW_i, ifdivW_i, ltW_i, leW_i, gtW_i, geW_i, eqW_i, neW_i, isW_n, isntW_n, isW_b, isntW_b, idxW_l, idxW_t, optW_s, optP_s, lenW_l, lenW_t, lenW_s, lenW_d, intW_i, intW_b, absW_i, maxW_i, minW_i, negW_i, listW_l, listW_t, tupleW_l, tupleW_t, sliceW_l, sliceW_t, isiW_1, optI_n, optI_s, truW_b, truW_i, truW_l, truW_t, truW_n, itW_l, itW_t, itW_r1, itW_r2, itW_r3, strW_i, itW_el, itW_et, itW_zl, itW_zt, itW_vl, itW_vt, tgW_n, tgW_t, setAll_c, setAll_n, List.map_cons, List.map_nil, List.cons_append, List.nil_append, List.append_nil, List.getElem?_cons_succ, List.getElem?_cons_zero, List.length_cons, List.length_nil, Nat.reduceAdd, Nat.reduceSub, List.replicate, List.set_cons_succ, List.set_cons_zero, mtW, mtTy, getW, bkW, dicW, revW, Sl_od, inW_d, notinW_d])
        ((first | (with_reducible refine Box.mk ?_) | skip); show WSs _ (_ :: _) _ _; rw [WSs_cB]; simp only [wipeE, WCs, mkEnv, fnEnds, WS_raise, WS_try, WS_frz, WS_set, WS_setT, WS_par2, WS_par3, WS_aug, WS_expr, WS_ret, WS_retv, WS_retN, WS_if, WS_for, WS_while, WS_brk, WS_cont, WS_pass, WS_doc, WS_append, WS_extend, WS_popx, WS_setix, WS_augix, WS_setd, WS_rvs, WS_popset, WS_insert, extW_l, extW_t, insW_2, WE, WAs, WLs, WT, argK, argW, opW, opI, biW, Sl_v, Sl_o, csD, slW, ownW, if_true, if_false, addW_i, addW_l, addW_t, subW_i, mulW_i, mulW_l, mulW_t, fdivW_i, modW_i, powW_i, shlW_i, shrW_i, bitW_i, iaddW_i, imulW_i, ifdivW_i, ltW_i, leW_i, gtW_i, geW_i, eqW_i, neW_i, isW_n, isntW_n, isW_b, isntW_b, idxW_l, idxW_t, optW_s, optP_s, lenW_l, lenW_t, lenW_s, lenW_d, intW_i, intW_b, absW_i, maxW_i, minW_i, negW_i, listW_l, listW_t, tupleW_l, tupleW_t, sliceW_l, sliceW_t, isiW_1, optI_n, optI_s, truW_b, truW_i, truW_l, truW_t, truW_n, itW_l, itW_t, itW_r1, itW_r2, itW_r3, strW_i, itW_el, itW_et, itW_zl, itW_zt, itW_vl, itW_vt, tgW_n, tgW_t, setAll_c, setAll_n, List.map_cons, List.map_nil, List.cons_append, List.nil_append, List.append_nil, List.getElem?_cons_succ, List.getElem?_cons_zero, List.length_cons, List.length_nil, Nat.reduceAdd, Nat.reduceSub, List.replicate, List.set_cons_succ, List.set_cons_zero, mtW, mtTy, getW, bkW, dicW, revW, Sl_od, inW_d, notinW_d])
        rw [h6]
        ((first | (with_reducible refine Box.mk ?_) | skip); show WSs _ (_ :: _) _ _; rw [WSs_cB]; simp only [wipeE, WCs, mkEnv, fnEnds, WS_raise, WS_try, WS_frz, WS_set, WS_setT, WS_par2, WS_par3, WS_aug, WS_expr, WS_ret, WS_retv, WS_retN, WS_if, WS_for, WS_while, WS_brk, WS_cont, WS_pass, WS_doc, WS_append, WS_extend, WS_popx, WS_setix, WS_augix, WS_setd, WS_rvs, WS_popset, WS_insert, extW_l, extW_t, insW_2, WE, WAs, WLs, WT, argK, argW, opW, opI, biW, Sl_v, Sl_o, csD, slW, ownW, if_true, if_false, addW_i, addW_l, addW_t, subW_i, mulW_i, mulW_l, mulW_t, fdivW_i, modW_i, powW_i, shlW_i, shrW_i, bitW_i, iaddW_i, imulW_i, ifdivW_i, ltW_i, leW_i, gtW_i, geW_i, eqW_i, neW_i, isW_n, isntW_n, isW_b, isntW_b, idxW_l, idxW_t, optW_s, optP_s, lenW_l, lenW_t, lenW_s, lenW_d, intW_i, intW_b, absW_i, maxW_i, minW_i, negW_i, listW_l, listW_t, tupleW_l, tupleW_t, sliceW_l, sliceW_t, isiW_1, optI_n, optI_s, truW_b, truW_i, truW_l, truW_t, truW_n, itW_l, itW_t, itW_r1, itW_r2, itW_r3, strW_i, itW_el, itW_et, itW_zl, itW_zt, itW_vl, itW_vt, tgW_n, tgW_t, setAll_c, setAll_n, List.map_cons, List.map_nil, List.cons_append, List.nil_append, List.append_nil, List.getElem?_cons_succ, List.getElem?_cons_zero, List.length_cons, List.length_nil, Nat.reduceAdd, Nat.reduceSub, List.replicate, List.set_cons_succ, List.set_cons_zero, mtW, mtTy, getW, bkW, dicW, revW, Sl_od, inW_d, notinW_d])
        refine ⟨by decide, ?_⟩
        refine reprW_of hr ?_
        ((first | (with_reducible refine Box.mk ?_) | skip); show WSs _ (_ :: _) _ _; rw [WSs_cB]; simp only [wipeE, WCs, mkEnv, fnEnds, WS_raise, WS_try, WS_frz, WS_set, WS_setT, WS_par2, WS_par3, WS_aug, WS_expr, WS_ret, WS_retv, WS_retN, WS_if, WS_for, WS_while, WS_brk, WS_cont, WS_pass, WS_doc, WS_append, WS_extend, WS_popx, WS_setix, WS_augix, WS_setd, WS_rvs, WS_popset, WS_insert, extW_l, extW_t, insW_2, WE, WAs, WLs, WT, argK, argW, opW, opI, biW, Sl_v, Sl_o, csD, slW, ownW, if_true, if_false, addW_i, addW_l, addW_t, subW_i, mulW_i, mulW_l, mulW_t, fdivW_i, modW_i, powW_i, shlW_i, shrW_i, bitW_i, iaddW_i, imulW_i, ifdivW_i, ltW_i, leW_i, gtW_i, geW_i, eqW_i, neW_i, isW_n, isntW_n, isW_b, isntW_b, idxW_l, idxW_t, optW_s, optP_s, lenW_l, lenW_t, lenW_s, lenW_d, intW_i, intW_b, absW_i, maxW_i, minW_i, negW_i, listW_l, listW_t, tupleW_l, tupleW_t, sliceW_l, sliceW_t, isiW_1, optI_n, optI_s, truW_b, truW_i, truW_l, truW_t, truW_n, itW_l, itW_t, itW_r1, itW_r2, itW_r3, strW_i, itW_el, itW_et, itW_zl, itW_zt, itW_vl, itW_vt, tgW_n, tgW_t, setAll_c, setAll_n, List.map_cons, List.map_nil, List.cons_append, List.nil_append, List.append_nil, List.getElem?_cons_succ, List.getElem?_cons_zero, List.length_cons, List.length_nil, Nat.reduceAdd, Nat.reduceSub, List.replicate, List.set_cons_succ, List.set_cons_zero, mtW, mtTy, getW, bkW, dicW, revW, Sl_od, inW_d, notinW_d])
        ((first | (with_reducible refine Box.mk ?_) | skip); show WSs _ (_ :: _) _ _; rw [WSs_cB]; simp only [wipeE, WCs, mkEnv, fnEnds, WS_raise, WS_try, WS_frz, WS_set, WS_setT, WS_par2, WS_par3, WS_aug, WS_expr, WS_ret, WS_retv, WS_retN, WS_if, WS_for, WS_while, WS_brk, WS_cont, WS_pass, WS_doc, WS_append, WS_extend, WS_popx, WS_setix, WS_augix, WS_setd, WS_rvs, WS_popset, WS_insert, extW_l, extW_t, insW_2, WE, WAs, WLs, WT, argK, argW, opW, opI, biW, Sl_v, Sl_o, csD, slW, ownW, if_true, if_false, addW_i, addW_l, addW_t, subW_i, mulW_i, mulW_l, mulW_t, fdivW_i, modW_i, powW_i, shlW_i, shrW_i, bitW_i, iaddW_i, imulW_i, ifdivW_i, ltW_i, leW_i, gtW_i, geW_i, eqW_i, neW_i, isW_n, isntW_n, isW_b, isntW_b, idxW_l, idxW_t, optW_s, optP_s, lenW_l, lenW_t, lenW_s, lenW_d, intW_i, intW_b, absW_i, maxW_i, minW_i, negW_i, listW_l, listW_t, tupleW_l, tupleW_t, sliceW_l, sliceW_t, isiW_1, optI_n, optI_s, truW_b, truW_i, truW_l, truW_t, truW_n, itW_l, itW_t, itW_r1, itW_r2, itW_r3, strW_i, itW_el, itW_et, itW_zl, itW_zt, itW_vl, itW_vt, tgW_n, tgW_t, setAll_c, setAll_n, List.map_cons, List.map_nil, List.cons_append, List.nil_append, List.append_nil, List.getElem?_cons_succ, List.getElem?_cons_zero, List.length_cons, List.length_nil, Nat.reduceAdd, Nat.reduceSub, List.replicate, List.set_cons_succ, List.set_cons_zero, mtW, mtTy, getW, bkW, dicW, revW, Sl_od, inW_d, notinW_d])
        ((first | (with_reducible refine Box.mk ?_) | skip); show WSs _ (_ :: _) _ _; rw [WSs_cB]; simp only [wipeE, WCs, mkEnv, fnEnds, WS_raise, WS_try, WS_frz, WS_set, WS_setT, WS_par2, WS_par3, WS_aug, WS_expr, WS_ret, WS_retv, WS_retN, WS_if, WS_for, WS_while, WS_brk, WS_cont, WS_pass, WS_doc, WS_append, WS_extend, WS_popx, WS_setix, WS_augix, WS_setd, WS_rvs, WS_popset, WS_insert, extW_l, extW_t, insW_2, WE, WAs, WLs, WT, argK, argW, opW, opI, biW, Sl_v, Sl_o, csD, slW, ownW, if_true, if_false, addW_i, addW_l, addW_t, subW_i, mulW_i, mulW_l, mulW_t, fdivW_i, modW_i, powW_i, shlW_i, shrW_i, bitW_i, iaddW_i, imulW_i, ifdivW_i, ltW_i, leW_i, gtW_i, geW_i, eqW_i, neW_i, isW_n, isntW_n, isW_b, isntW_b, idxW_l, idxW_t, optW_s, optP_s, lenW_l, lenW_t, lenW_s, lenW_d, intW_i, intW_b, absW_i, maxW_i, minW_i, negW_i, listW_l, listW_t, tupleW_l, tupleW_t, sliceW_l, sliceW_t, isiW_1, optI_n, optI_s, truW_b, truW_i, truW_l, truW_t, truW_n, itW_l, itW_t, itW_r1, itW_r2, itW_r3, strW_i, itW_el, itW_et, itW_zl, itW_zt, itW_vl, itW_vt, tgW_n, tgW_t, setAll_c, setAll_n, List.map_cons, List.map_nil, List.cons_append, List.nil_append, List.append_nil, List.getElem?_cons_succ, List.getElem?_cons_zero, List.length_cons, List.length_nil, Nat.reduceAdd, Nat.reduceSub, List.replicate, List.set_cons_succ, List.set_cons_zero, mtW, mtTy, getW, bkW, dicW, revW, Sl_od, inW_d, notinW_d])
        refine fnW_mk rfl ⟨o, lnsD ls, ls, s, sm, 3, SMALL, rfl, lnsD_is, ⟨l1, by omega⟩, by omega, hL, hcs, fun b' hb' => ?_⟩
        rw [hb] at hb'
        cases hb'
        rw [hb]
        refine idxW_tn (n := 1) rfl ?_
        refine neW_same 1 rfl ?_
        simp only [wipeE, WCs, mkEnv, fnEnds, WS_raise, WS_try, WS_frz, WS_set, WS_setT, WS_par2, WS_par3, WS_aug, WS_expr, WS_ret, WS_retv, WS_retN, WS_if, WS_for, WS_while, WS_brk, WS_cont, WS_pass, WS_doc, WS_append, WS_extend, WS_popx, WS_setix, WS_augix, WS_setd, WS_rvs, WS_popset, WS_insert, extW_l, extW_t, insW_2, WE, WAs, WLs, WT, argK, argW, opW, opI, biW, Sl_v, Sl_o, csD, slW, ownW, if_true, if_false, addW_i, addW_l, addW_t, subW_i, mulW_i, mulW_l, mulW_t, fdivW_i, modW_i, powW_i, shlW_i, shrW_i, bitW_i, iaddW_i, imulW_i, ifdivW_i, ltW_i, leW_i, gtW_i, geW_i, eqW_i, neW_i, isW_n, isntW_n, isW_b, isntW_b, idxW_l, idxW_t, optW_s, optP_s, lenW_l, lenW_t, lenW_s, lenW_d, intW_i, intW_b, absW_i, maxW_i, minW_i, negW_i, listW_l, listW_t, tupleW_l, tupleW_t, sliceW_l, sliceW_t, isiW_1, optI_n, optI_s, truW_b, truW_i, truW_l, truW_t, truW_n, itW_l, itW_t, itW_r1, itW_r2, itW_r3, strW_i, itW_el, itW_et, itW_zl, itW_zt, itW_vl, itW_vt, tgW_n, tgW_t, setAll_c, setAll_n, List.map_cons, List.map_nil, List.cons_append, List.nil_append, List.append_nil, List.getElem?_cons_succ, List.getElem?_cons_zero, List.length_cons, List.length_nil, Nat.reduceAdd, Nat.reduceSub, List.replicate, List.set_cons_succ, List.set_cons_zero, mtW, mtTy, getW, bkW, dicW, revW, Sl_od, inW_d, notinW_d, Bool.false_eq_true]
        refine ⟨by decide, ?_⟩
        refine reprW_of hr ?_
        refine neW_same 1 (a := .str (reprD (.lst (allD o ls sm)))) (by rw [plB]; exact hr.so) ?_
        simp only [wipeE, WCs, mkEnv, fnEnds, WS_raise, WS_try, WS_frz, WS_set, WS_setT, WS_par2, WS_par3, WS_aug, WS_expr, WS_ret, WS_retv, WS_retN, WS_if, WS_for, WS_while, WS_brk, WS_cont, WS_pass, WS_doc, WS_append, WS_extend, WS_popx, WS_setix, WS_augix, WS_setd, WS_rvs, WS_popset, WS_insert, extW_l, extW_t, insW_2, WE, WAs, WLs, WT, argK, argW, opW, opI, biW, Sl_v, Sl_o, csD, slW, ownW, if_true, if_false, addW_i, addW_l, addW_t, subW_i, mulW_i, mulW_l, mulW_t, fdivW_i, modW_i, powW_i, shlW_i, shrW_i, bitW_i, iaddW_i, imulW_i, ifdivW_i, ltW_i, leW_i, gtW_i, geW_i, eqW_i, neW_i, isW_n, isntW_n, isW_b, isntW_b, idxW_l, idxW_t, optW_s, optP_s, lenW_l, lenW_t, lenW_s, lenW_d, intW_i, intW_b, absW_i, maxW_i, minW_i, negW_i, listW_l, listW_t, tupleW_l, tupleW_t, sliceW_l, sliceW_t, isiW_1, optI_n, optI_s, truW_b, truW_i, truW_l, truW_t, truW_n, itW_l, itW_t, itW_r1, itW_r2, itW_r3, strW_i, itW_el, itW_et, itW_zl, itW_zt, itW_vl, itW_vt, tgW_n, tgW_t, setAll_c, setAll_n, List.map_cons, List.map_nil, List.cons_append, List.nil_append, List.append_nil, List.getElem?_cons_succ, List.getElem?_cons_zero, List.length_cons, List.length_nil, Nat.reduceAdd, Nat.reduceSub, List.replicate, List.set_cons_succ, List.set_cons_zero, mtW, mtTy, getW, bkW, dicW, revW, Sl_od, inW_d, notinW_d, Bool.false_eq_true]
        ((first | (with_reducible refine Box.mk ?_) | skip); show WSs _ _ _ _; rw [WSs_n])
        ((first | (with_reducible refine Box.mk ?_) | skip); show WSs _ _ _ _; rw [WSs_n])
        subst hE
        exact hkk _ ⟨_, _, _, _, _, _, _, _, _, _, _, _, _, _, _, _, _, _, rfl⟩
    refine forW_rg (fun j ρ => ∃ (sm : List (Option P)) (y8 y17 y18 : Option Sl), (sm.length = s + o.length ∧ SB sm 2000 ∧ ∀ m, j ≤ m → m < s + o.length → sg sm m = some (co clear m)) ∧ ρ = [some (.val (.scr ns)), some (.val (.g i 0)), y2, some (.val (.tup (ptsD o))), some (.val (lnsD ls)), some (.val (.int (s : Nat))), some (.own (sm.map smD)), some (.val (.int w)), y8, y9, y10, y11, y12, some (.val (.int (p : Nat))), some (.val (.int (t : Nat))), some (.val (.int (k : Nat))), y16, y17, y18, y19]) 0 (s + o.length) ⟨clear.map some, y8, y17, y18, ⟨by rw [List.length_map, cll], fun x hx => ?_, fun m _ hm => ?_⟩, ?_⟩ ?_ ?_
    · obtain ⟨y, hy, e⟩ := List.mem_map.mp hx
      cases e
      exact bd_up (clb x hy) (by decide)
    · unfold sg
      rw [List.getD_eq_getElem?_getD, List.getElem?_map, co_get (by omega)]
      rfl
    · have e : (clear.map some).map smD = ptsD clear := by
        rw [List.map_map]
        rfl
      rw [e]
    · rintro j ρ _ hj ⟨sm, y8, y17, y18, ⟨sl, sb, sa⟩, rfl⟩ k2 hk2
      have hj : j < s + o.length := by omega
      have ej := sa j (Nat.le_refl _) hj
      have gj := sms_get (s := sm) (n := j) (by omega)
      rw [ej] at gj
      simp only [wipeE, WCs, mkEnv, fnEnds, WS_raise, WS_try, WS_frz, WS_set, WS_setT, WS_par2, WS_par3, WS_aug, WS_expr, WS_ret, WS_retv, WS_retN, WS_if, WS_for, WS_while, WS_brk, WS_cont, WS_pass, WS_doc, WS_append, WS_extend, WS_popx, WS_setix, WS_augix, WS_setd, WS_rvs, WS_popset, WS_insert, extW_l, extW_t, insW_2, WE, WAs, WLs, WT, argK, argW, opW, opI, biW, Sl_v, Sl_o, csD, slW, ownW, if_true, if_false, addW_i, addW_l, addW_t, subW_i, mulW_i, mulW_l, mulW_t, fdivW_i, modW_i, powW_i, shlW_i, shrW_i, bitW_i, iaddW_i, imulW_i, ifdivW_i, ltW_i, leW_i, gtW_i, geW_i, eqW_i, neW_i, isW_n, isntW_n, isW_b, isntW_b, idxW_l, idxW_t, optW_s, optP_s, lenW_l, lenW_t, lenW_s, lenW_d, intW_i, intW_b, absW_i, maxW_i, minW_i, negW_i, listW_l, listW_t, tupleW_l, tupleW_t, sliceW_l, sliceW_t, isiW_1, optI_n, optI_s, truW_b, truW_i, truW_l, truW_t, truW_n, itW_l, itW_t, itW_r1, itW_r2, itW_r3, strW_i, itW_el, itW_et, itW_zl, itW_zt, itW_vl, itW_vt, tgW_n, tgW_t, setAll_c, setAll_n, List.map_cons, List.map_nil, List.cons_append, List.nil_append, List.append_nil, List.getElem?_cons_succ, List.getElem?_cons_zero, List.length_cons, List.length_nil, Nat.reduceAdd, Nat.reduceSub, List.replicate, List.set_cons_succ, List.set_cons_zero, mtW, mtTy, getW, bkW, dicW, revW, Sl_od, inW_d, notinW_d]
      ((first | (with_reducible refine Box.mk ?_) | skip); show WSs _ (_ :: _) _ _; rw [WSs_cB]; simp only [wipeE, WCs, mkEnv, fnEnds, WS_raise, WS_try, WS_frz, WS_set, WS_setT, WS_par2, WS_par3, WS_aug, WS_expr, WS_ret, WS_retv, WS_retN, WS_if, WS_for, WS_while, WS_brk, WS_cont, WS_pass, WS_doc, WS_append, WS_extend, WS_popx, WS_setix, WS_augix, WS_setd, WS_rvs, WS_popset, WS_insert, extW_l, extW_t, insW_2, WE, WAs, WLs, WT, argK, argW, opW, opI, biW, Sl_v, Sl_o, csD, slW, ownW, if_true, if_false, addW_i, addW_l, addW_t, subW_i, mulW_i, mulW_l, mulW_t, fdivW_i, modW_i, powW_i, shlW_i, shrW_i, bitW_i, iaddW_i, imulW_i, ifdivW_i, ltW_i, leW_i, gtW_i, geW_i, eqW_i, neW_i, isW_n, isntW_n, isW_b, isntW_b, idxW_l, idxW_t, optW_s, optP_s, lenW_l, lenW_t, lenW_s, lenW_d, intW_i, intW_b, absW_i, maxW_i, minW_i, negW_i, listW_l, listW_t, tupleW_l, tupleW_t, sliceW_l, sliceW_t, isiW_1, optI_n, optI_s, truW_b, truW_i, truW_l, truW_t, truW_n, itW_l, itW_t, itW_r1, itW_r2, itW_r3, strW_i, itW_el, itW_et, itW_zl, itW_zt, itW_vl, itW_vt, tgW_n, tgW_t, setAll_c, setAll_n, List.map_cons, List.map_nil, List.cons_append, List.nil_append, List.append_nil, List.getElem?_cons_succ, List.getElem?_cons_zero, List.length_cons, List.length_nil, Nat.reduceAdd, Nat.reduceSub, List.replicate, List.set_cons_succ, List.set_cons_zero, mtW, mtTy, getW, bkW, dicW, revW, Sl_od, inW_d, notinW_d])
      refine fnW_mk rfl ⟨i, w, rfl, ⟨w0, by omega⟩, fun e he => ?_⟩
      simp only [pt_set, wipeE, WCs, mkEnv, fnEnds, WS_raise, WS_try, WS_frz, WS_set, WS_setT, WS_par2, WS_par3, WS_aug, WS_expr, WS_ret, WS_retv, WS_retN, WS_if, WS_for, WS_while, WS_brk, WS_cont, WS_pass, WS_doc, WS_append, WS_extend, WS_popx, WS_setix, WS_augix, WS_setd, WS_rvs, WS_popset, WS_insert, extW_l, extW_t, insW_2, WE, WAs, WLs, WT, argK, argW, opW, opI, biW, Sl_v, Sl_o, csD, slW, ownW, if_true, if_false, addW_i, addW_l, addW_t, subW_i, mulW_i, mulW_l, mulW_t, fdivW_i, modW_i, powW_i, shlW_i, shrW_i, bitW_i, iaddW_i, imulW_i, ifdivW_i, ltW_i, leW_i, gtW_i, geW_i, eqW_i, neW_i, isW_n, isntW_n, isW_b, isntW_b, idxW_l, idxW_t, optW_s, optP_s, lenW_l, lenW_t, lenW_s, lenW_d, intW_i, intW_b, absW_i, maxW_i, minW_i, negW_i, listW_l, listW_t, tupleW_l, tupleW_t, sliceW_l, sliceW_t, isiW_1, optI_n, optI_s, truW_b, truW_i, truW_l, truW_t, truW_n, itW_l, itW_t, itW_r1, itW_r2, itW_r3, strW_i, itW_el, itW_et, itW_zl, itW_zt, itW_vl, itW_vt, tgW_n, tgW_t, setAll_c, setAll_n, List.map_cons, List.map_nil, List.cons_append, List.nil_append, List.append_nil, List.getElem?_cons_succ, List.getElem?_cons_zero, List.length_cons, List.length_nil, Nat.reduceAdd, Nat.reduceSub, List.replicate, List.set_cons_succ, List.set_cons_zero, mtW, mtTy, getW, bkW, dicW, revW, Sl_od, inW_d, notinW_d]
      refine ⟨trivial, ?_⟩
      ((first | (with_reducible refine Box.mk ?_) | skip); show WSs _ (_ :: _) _ _; rw [WSs_cB]; simp only [wipeE, WCs, mkEnv, fnEnds, WS_raise, WS_try, WS_frz, WS_set, WS_setT, WS_par2, WS_par3, WS_aug, WS_expr, WS_ret, WS_retv, WS_retN, WS_if, WS_for, WS_while, WS_brk, WS_cont, WS_pass, WS_doc, WS_append, WS_extend, WS_popx, WS_setix, WS_augix, WS_setd, WS_rvs, WS_popset, WS_insert, extW_l, extW_t, insW_2, WE, WAs, WLs, WT, argK, argW, opW, opI, biW, Sl_v, Sl_o, csD, slW, ownW, if_true, if_false, addW_i, addW_l, addW_t, subW_i, mulW_i, mulW_l, mulW_t, fdivW_i, modW_i, powW_i, shlW_i, shrW_i, bitW_i, iaddW_i, imulW_i, ifdivW_i, ltW_i, leW_i, gtW_i, geW_i, eqW_i, neW_i, isW_n, isntW_n, isW_b, isntW_b, idxW_l, idxW_t, optW_s, optP_s, lenW_l, lenW_t, lenW_s, lenW_d, intW_i, intW_b, absW_i, maxW_i, minW_i, negW_i, listW_l, listW_t, tupleW_l, tupleW_t, sliceW_l, sliceW_t, isiW_1, optI_n, optI_s, truW_b, truW_i, truW_l, truW_t, truW_n, itW_l, itW_t, itW_r1, itW_r2, itW_r3, strW_i, itW_el, itW_et, itW_zl, itW_zt, itW_vl, itW_vt, tgW_n, tgW_t, setAll_c, setAll_n, List.map_cons, List.map_nil, List.cons_append, List.nil_append, List.append_nil, List.getElem?_cons_succ, List.getElem?_cons_zero, List.length_cons, List.length_nil, Nat.reduceAdd, Nat.reduceSub, List.replicate, List.set_cons_succ, List.set_cons_zero, mtW, mtTy, getW, bkW, dicW, revW, Sl_od, inW_d, notinW_d])
      refine optA gj ?_
      rw [Sl_v, show smD (some (co clear j)) = ptD (co clear j) from rfl, px0]
      simp only [wipeE, WCs, mkEnv, fnEnds, WS_raise, WS_try, WS_frz, WS_set, WS_setT, WS_par2, WS_par3, WS_aug, WS_expr, WS_ret, WS_retv, WS_retN, WS_if, WS_for, WS_while, WS_brk, WS_cont, WS_pass, WS_doc, WS_append, WS_extend, WS_popx, WS_setix, WS_augix, WS_setd, WS_rvs, WS_popset, WS_insert, extW_l, extW_t, insW_2, WE, WAs, WLs, WT, argK, argW, opW, opI, biW, Sl_v, Sl_o, csD, slW, ownW, if_true, if_false, addW_i, addW_l, addW_t, subW_i, mulW_i, mulW_l, mulW_t, fdivW_i, modW_i, powW_i, shlW_i, shrW_i, bitW_i, iaddW_i, imulW_i, ifdivW_i, ltW_i, leW_i, gtW_i, geW_i, eqW_i, neW_i, isW_n, isntW_n, isW_b, isntW_b, idxW_l, idxW_t, optW_s, optP_s, lenW_l, lenW_t, lenW_s, lenW_d, intW_i, intW_b, absW_i, maxW_i, minW_i, negW_i, listW_l, listW_t, tupleW_l, tupleW_t, sliceW_l, sliceW_t, isiW_1, optI_n, optI_s, truW_b, truW_i, truW_l, truW_t, truW_n, itW_l, itW_t, itW_r1, itW_r2, itW_r3, strW_i, itW_el, itW_et, itW_zl, itW_zt, itW_vl, itW_vt, tgW_n, tgW_t, setAll_c, setAll_n, List.map_cons, List.map_nil, List.cons_append, List.nil_append, List.append_nil, List.getElem?_cons_succ, List.getElem?_cons_zero, List.length_cons, List.length_nil, Nat.reduceAdd, Nat.reduceSub, List.replicate, List.set_cons_succ, List.set_cons_zero, mtW, mtTy, getW, bkW, dicW, revW, Sl_od, inW_d, notinW_d]
      refine optA gj ?_
      rw [Sl_v, show smD (some (co clear j)) = ptD (co clear j) from rfl, px1]
      simp only [wipeE, WCs, mkEnv, fnEnds, WS_raise, WS_try, WS_frz, WS_set, WS_setT, WS_par2, WS_par3, WS_aug, WS_expr, WS_ret, WS_retv, WS_retN, WS_if, WS_for, WS_while, WS_brk, WS_cont, WS_pass, WS_doc, WS_append, WS_extend, WS_popx, WS_setix, WS_augix, WS_setd, WS_rvs, WS_popset, WS_insert, extW_l, extW_t, insW_2, WE, WAs, WLs, WT, argK, argW, opW, opI, biW, Sl_v, Sl_o, csD, slW, ownW, if_true, if_false, addW_i, addW_l, addW_t, subW_i, mulW_i, mulW_l, mulW_t, fdivW_i, modW_i, powW_i, shlW_i, shrW_i, bitW_i, iaddW_i, imulW_i, ifdivW_i, ltW_i, leW_i, gtW_i, geW_i, eqW_i, neW_i, isW_n, isntW_n, isW_b, isntW_b, idxW_l, idxW_t, optW_s, optP_s, lenW_l, lenW_t, lenW_s, lenW_d, intW_i, intW_b, absW_i, maxW_i, minW_i, negW_i, listW_l, listW_t, tupleW_l, tupleW_t, sliceW_l, sliceW_t, isiW_1, optI_n, optI_s, truW_b, truW_i, truW_l, truW_t, truW_n, itW_l, itW_t, itW_r1, itW_r2, itW_r3, strW_i, itW_el, itW_et, itW_zl, itW_zt, itW_vl, itW_vt, tgW_n, tgW_t, setAll_c, setAll_n, List.map_cons, List.map_nil, List.cons_append, List.nil_append, List.append_nil, List.getElem?_cons_succ, List.getElem?_cons_zero, List.length_cons, List.length_nil, Nat.reduceAdd, Nat.reduceSub, List.replicate, List.set_cons_succ, List.set_cons_zero, mtW, mtTy, getW, bkW, dicW, revW, Sl_od, inW_d, notinW_d]
      refine ⟨by decide, ?_⟩
      refine ixW_nat (by rw [List.length_map]; omega) ?_
      rw [show D.tup [.int ((co clear j).1 + e.1), .int ((co clear j).2 + e.2)] = smD (some ((co clear j).1 + e.1, (co clear j).2 + e.2)) from rfl, sms_set]
      have hb1 : bd 2000 ((co clear j).1 + e.1, (co clear j).2 + e.2) := by
        obtain ⟨⟨a1, a2⟩, a3, a4⟩ := clb _ (co_mem (show j < clear.length by omega))
        obtain ⟨⟨b1, b2⟩, b3, b4⟩ := he
        unfold bd
        simp only
        omega
      have sb1 : SB (sm.set j (some ((co clear j).1 + e.1, (co clear j).2 + e.2))) 2000 := sb_set sb fun x q => by cases q; exact hb1
      have sa1 : ∀ (z : Option P) m, j + 1 ≤ m → m < s + o.length → sg (sm.set j z) m = some (co clear m) := fun z m h1 h2 => by
        rw [sg_set (by omega)]
        exact sa m (by omega) h2
      ((first | (with_reducible refine Box.mk ?_) | skip); show WSs _ (_ :: _) _ _; rw [WSs_cB]; simp only [wipeE, WCs, mkEnv, fnEnds, WS_raise, WS_try, WS_frz, WS_set, WS_setT, WS_par2, WS_par3, WS_aug, WS_expr, WS_ret, WS_retv, WS_retN, WS_if, WS_for, WS_while, WS_brk, WS_cont, WS_pass, WS_doc, WS_append, WS_extend, WS_popx, WS_setix, WS_augix, WS_setd, WS_rvs, WS_popset, WS_insert, extW_l, extW_t, insW_2, WE, WAs, WLs, WT, argK, argW, opW, opI, biW, Sl_v, Sl_o, csD, slW, ownW, if_true, if_false, addW_i, addW_l, addW_t, subW_i, mulW_i, mulW_l, mulW_t, fdivW_i, modW_i, powW_i, shlW_i, shrW_i, bitW_i, iaddW_i, imulW_i, ifdivW_i, ltW_i, leW_i, gtW_i, geW_i, eqW_i, neW_i, isW_n, isntW_n, isW_b, isntW_b, idxW_l, idxW_t, optW_s, optP_s, lenW_l, lenW_t, lenW_s, lenW_d, intW_i, intW_b, absW_i, maxW_i, minW_i, negW_i, listW_l, listW_t, tupleW_l, tupleW_t, sliceW_l, sliceW_t, isiW_1, optI_n, optI_s, truW_b, truW_i, truW_l, truW_t, truW_n, itW_l, itW_t, itW_r1, itW_r2, itW_r3, strW_i, itW_el, itW_et, itW_zl, itW_zt, itW_vl, itW_vt, tgW_n, tgW_t, setAll_c, setAll_n, List.map_cons, List.map_nil, List.cons_append, List.nil_append, List.append_nil, List.getElem?_cons_succ, List.getElem?_cons_zero, List.length_cons, List.length_nil, Nat.reduceAdd, Nat.reduceSub, List.replicate, List.set_cons_succ, List.set_cons_zero, mtW, mtTy, getW, bkW, dicW, revW, Sl_od, inW_d, notinW_d])
      refine fnW_mk rfl ⟨i, 9, rfl, by decide, smi (by decide) (by decide), fun z z0 z1 => ?_⟩
      simp only [wipeE, WCs, mkEnv, fnEnds, WS_raise, WS_try, WS_frz, WS_set, WS_setT, WS_par2, WS_par3, WS_aug, WS_expr, WS_ret, WS_retv, WS_retN, WS_if, WS_for, WS_while, WS_brk, WS_cont, WS_pass, WS_doc, WS_append, WS_extend, WS_popx, WS_setix, WS_augix, WS_setd, WS_rvs, WS_popset, WS_insert, extW_l, extW_t, insW_2, WE, WAs, WLs, WT, argK, argW, opW, opI, biW, Sl_v, Sl_o, csD, slW, ownW, if_true, if_false, addW_i, addW_l, addW_t, subW_i, mulW_i, mulW_l, mulW_t, fdivW_i, modW_i, powW_i, shlW_i, shrW_i, bitW_i, iaddW_i, imulW_i, ifdivW_i, ltW_i, leW_i, gtW_i, geW_i, eqW_i, neW_i, isW_n, isntW_n, isW_b, isntW_b, idxW_l, idxW_t, optW_s, optP_s, lenW_l, lenW_t, lenW_s, lenW_d, intW_i, intW_b, absW_i, maxW_i, minW_i, negW_i, listW_l, listW_t, tupleW_l, tupleW_t, sliceW_l, sliceW_t, isiW_1, optI_n, optI_s, truW_b, truW_i, truW_l, truW_t, truW_n, itW_l, itW_t, itW_r1, itW_r2, itW_r3, strW_i, itW_el, itW_et, itW_zl, itW_zt, itW_vl, itW_vt, tgW_n, tgW_t, setAll_c, setAll_n, List.map_cons, List.map_nil, List.cons_append, List.nil_append, List.append_nil, List.getElem?_cons_succ, List.getElem?_cons_zero, List.length_cons, List.length_nil, Nat.reduceAdd, Nat.reduceSub, List.replicate, List.set_cons_succ, List.set_cons_zero, mtW, mtTy, getW, bkW, dicW, revW, Sl_od, inW_d, notinW_d]
      by_cases hz : z = 0
      · refine ite_t (by rw [hz]; rfl) ?_
        ((first | (with_reducible refine Box.mk ?_) | skip); show WSs _ (_ :: _) _ _; rw [WSs_cB]; simp only [wipeE, WCs, mkEnv, fnEnds, WS_raise, WS_try, WS_frz, WS_set, WS_setT, WS_par2, WS_par3, WS_aug, WS_expr, WS_ret, WS_retv, WS_retN, WS_if, WS_for, WS_while, WS_brk, WS_cont, WS_pass, WS_doc, WS_append, WS_extend, WS_popx, WS_setix, WS_augix, WS_setd, WS_rvs, WS_popset, WS_insert, extW_l, extW_t, insW_2, WE, WAs, WLs, WT, argK, argW, opW, opI, biW, Sl_v, Sl_o, csD, slW, ownW, if_true, if_false, addW_i, addW_l, addW_t, subW_i, mulW_i, mulW_l, mulW_t, fdivW_i, modW_i, powW_i, shlW_i, shrW_i, bitW_i, iaddW_i, imulW_i, ifdivW_i, ltW_i, leW_i, gtW_i, geW_i, eqW_i, neW_i, isW_n, isntW_n, isW_b, isntW_b, idxW_l, idxW_t, optW_s, optP_s, lenW_l, lenW_t, lenW_s, lenW_d, intW_i, intW_b, absW_i, maxW_i, minW_i, negW_i, listW_l, listW_t, tupleW_l, tupleW_t, sliceW_l, sliceW_t, isiW_1, optI_n, optI_s, truW_b, truW_i, truW_l, truW_t, truW_n, itW_l, itW_t, itW_r1, itW_r2, itW_r3, strW_i, itW_el, itW_et, itW_zl, itW_zt, itW_vl, itW_vt, tgW_n, tgW_t, setAll_c, setAll_n, List.map_cons, List.map_nil, List.cons_append, List.nil_append, List.append_nil, List.getElem?_cons_succ, List.getElem?_cons_zero, List.length_cons, List.length_nil, Nat.reduceAdd, Nat.reduceSub, List.replicate, List.set_cons_succ, List.set_cons_zero, mtW, mtTy, getW, bkW, dicW, revW, Sl_od, inW_d, notinW_d])
        refine ixW_nat (by rw [List.length_map, List.length_set]; omega) ?_
        rw [show D.non = smD none from rfl, sms_set]
        ((first | (with_reducible refine Box.mk ?_) | skip); show WSs _ _ _ _; rw [WSs_n])
        ((first | (with_reducible refine Box.mk ?_) | skip); show WSs _ _ _ _; rw [WSs_n])
        exact hk2 _ ⟨(sm.set j (some ((co clear j).1 + e.1, (co clear j).2 + e.2))).set j none, _, _, _, ⟨by simp [sl], sb_set sb1 (fun _ q => nomatch q), fun m h1 h2 => by rw [sg_set (by omega)]; exact sa1 _ m h1 h2⟩, rfl⟩
      · refine ite_f (beq_false_of_ne hz) ?_
        ((first | (with_reducible refine Box.mk ?_) | skip); show WSs _ _ _ _; rw [WSs_n])
        ((first | (with_reducible refine Box.mk ?_) | skip); show WSs _ _ _ _; rw [WSs_n])
        exact hk2 _ ⟨sm.set j (some ((co clear j).1 + e.1, (co clear j).2 + e.2)), _, _, _, ⟨by simp [sl], sb1, sa1 _⟩, rfl⟩
    · rintro ρ ⟨sm, y8, y17, y18, ⟨sl, sb, sa⟩, rfl⟩
      ((first | (with_reducible refine Box.mk ?_) | skip); show WSs _ (_ :: _) _ _; rw [WSs_cB]; simp only [wipeE, WCs, mkEnv, fnEnds, WS_raise, WS_try, WS_frz, WS_set, WS_setT, WS_par2, WS_par3, WS_aug, WS_expr, WS_ret, WS_retv, WS_retN, WS_if, WS_for, WS_while, WS_brk, WS_cont, WS_pass, WS_doc, WS_append, WS_extend, WS_popx, WS_setix, WS_augix, WS_setd, WS_rvs, WS_popset, WS_insert, extW_l, extW_t, insW_2, WE, WAs, WLs, WT, argK, argW, opW, opI, biW, Sl_v, Sl_o, csD, slW, ownW, if_true, if_false, addW_i, addW_l, addW_t, subW_i, mulW_i, mulW_l, mulW_t, fdivW_i, modW_i, powW_i, shlW_i, shrW_i, bitW_i, iaddW_i, imulW_i, ifdivW_i, ltW_i, leW_i, gtW_i, geW_i, eqW_i, neW_i, isW_n, isntW_n, isW_b, isntW_b, idxW_l, idxW_t, optW_s, optP_s, lenW_l, lenW_t, lenW_s, lenW_d, intW_i, intW_b, absW_i, maxW_i, minW_i, negW_i, listW_l, listW_t, tupleW_l, tupleW_t, sliceW_l, sliceW_t, isiW_1, optI_n, optI_s, truW_b, truW_i, truW_l, truW_t, truW_n, itW_l, itW_t, itW_r1, itW_r2, itW_r3, strW_i, itW_el, itW_et, itW_zl, itW_zt, itW_vl, itW_vt, tgW_n, tgW_t, setAll_c, setAll_n, List.map_cons, List.map_nil, List.cons_append, List.nil_append, List.append_nil, List.getElem?_cons_succ, List.getElem?_cons_zero, List.length_cons, List.length_nil, Nat.reduceAdd, Nat.reduceSub, List.replicate, List.set_cons_succ, List.set_cons_zero, mtW, mtTy, getW, bkW, dicW, revW, Sl_od, inW_d, notinW_d])
      refine fnW_mk rfl ⟨i, 4, rfl, by decide, smi (by decide) (by decide), fun z z0 z1 => ?_⟩
      simp only [wipeE, WCs, mkEnv, fnEnds, WS_raise, WS_try, WS_frz, WS_set, WS_setT, WS_par2, WS_par3, WS_aug, WS_expr, WS_ret, WS_retv, WS_retN, WS_if, WS_for, WS_while, WS_brk, WS_cont, WS_pass, WS_doc, WS_append, WS_extend, WS_popx, WS_setix, WS_augix, WS_setd, WS_rvs, WS_popset, WS_insert, extW_l, extW_t, insW_2, WE, WAs, WLs, WT, argK, argW, opW, opI, biW, Sl_v, Sl_o, csD, slW, ownW, if_true, if_false, addW_i, addW_l, addW_t, subW_i, mulW_i, mulW_l, mulW_t, fdivW_i, modW_i, powW_i, shlW_i, shrW_i, bitW_i, iaddW_i, imulW_i, ifdivW_i, ltW_i, leW_i, gtW_i, geW_i, eqW_i, neW_i, isW_n, isntW_n, isW_b, isntW_b, idxW_l, idxW_t, optW_s, optP_s, lenW_l, lenW_t, lenW_s, lenW_d, intW_i, intW_b, absW_i, maxW_i, minW_i, negW_i, listW_l, listW_t, tupleW_l, tupleW_t, sliceW_l, sliceW_t, isiW_1, optI_n, optI_s, truW_b, truW_i, truW_l, truW_t, truW_n, itW_l, itW_t, itW_r1, itW_r2, itW_r3, strW_i, itW_el, itW_et, itW_zl, itW_zt, itW_vl, itW_vt, tgW_n, tgW_t, setAll_c, setAll_n, List.map_cons, List.map_nil, List.cons_append, List.nil_append, List.append_nil, List.getElem?_cons_succ, List.getElem?_cons_zero, List.length_cons, List.length_nil, Nat.reduceAdd, Nat.reduceSub, List.replicate, List.set_cons_succ, List.set_cons_zero, mtW, mtTy, getW, bkW, dicW, revW, Sl_od, inW_d, notinW_d]
      by_cases hz : z = 0
      · refine ite_t (by rw [hz]; rfl) ?_
        ((first | (with_reducible refine Box.mk ?_) | skip); show WSs _ (_ :: _) _ _; rw [WSs_cB]; simp only [wipeE, WCs, mkEnv, fnEnds, WS_raise, WS_try, WS_frz, WS_set, WS_setT, WS_par2, WS_par3, WS_aug, WS_expr, WS_ret, WS_retv, WS_retN, WS_if, WS_for, WS_while, WS_brk, WS_cont, WS_pass, WS_doc, WS_append, WS_extend, WS_popx, WS_setix, WS_augix, WS_setd, WS_rvs, WS_popset, WS_insert, extW_l, extW_t, insW_2, WE, WAs, WLs, WT, argK, argW, opW, opI, biW, Sl_v, Sl_o, csD, slW, ownW, if_true, if_false, addW_i, addW_l, addW_t, subW_i, mulW_i, mulW_l, mulW_t, fdivW_i, modW_i, powW_i, shlW_i, shrW_i, bitW_i, iaddW_i, imulW_i, ifdivW_i, ltW_i, leW_i, gtW_i, geW_i, eqW_i, neW_i, isW_n, isntW_n, isW_b, isntW_b, idxW_l, idxW_t, optW_s, optP_s, lenW_l, lenW_t, lenW_s, lenW_d, intW_i, intW_b, absW_i, maxW_i, minW_i, negW_i, listW_l, listW_t, tupleW_l, tupleW_t, sliceW_l, sliceW_t, isiW_1, optI_n, optI_s, truW_b, truW_i, truW_l, truW_t, truW_n, itW_l, itW_t, itW_r1, itW_r2, itW_r3, strW_i, itW_el, itW_et, itW_zl, itW_zt, itW_vl, itW_vt, tgW_n, tgW_t, setAll_c, setAll_n, List.map_cons, List.map_nil, List.cons_append, List.nil_append, List.append_nil, List.getElem?_cons_succ, List.getElem?_cons_zero, List.length_cons, List.length_nil, Nat.reduceAdd, Nat.reduceSub, List.replicate, List.set_cons_succ, List.set_cons_zero, mtW, mtTy, getW, bkW, dicW, revW, Sl_od, inW_d, notinW_d])
        refine lcW_gen (fun x : P => smD (some x)) (bd 1) _ [] (by simp [sl]; unfold LIM; omega) (fun d hd kz hkz => ?_) fun zs hzs hp2 => ?_
        · try simp only [wipeE, WCs, wipeE, WCs, mkEnv, fnEnds, WS_raise, WS_try, WS_frz, WS_set, WS_setT, WS_par2, WS_par3, WS_aug, WS_expr, WS_ret, WS_retv, WS_retN, WS_if, WS_for, WS_while, WS_brk, WS_cont, WS_pass, WS_doc, WS_append, WS_extend, WS_popx, WS_setix, WS_augix, WS_setd, WS_rvs, WS_popset, WS_insert, extW_l, extW_t, insW_2, WE, WAs, WLs, WT, argK, argW, opW, opI, biW, Sl_v, Sl_o, csD, slW, ownW, if_true, if_false, addW_i, addW_l, addW_t, subW_i, mulW_i, mulW_l, mulW_t, fdivW_i, modW_i, powW_i, shlW_i, shrW_i, bitW_i, iaddW_i, imulW_i, ifdivW_i, ltW_i, leW_i, gtW_i, geW_i, eqW_i, neW_i, isW_n, isntW_n, isW_b, isntW_b, idxW_l, idxW_t, optW_s, optP_s, lenW_l, lenW_t, lenW_s, lenW_d, intW_i, intW_b, absW_i, maxW_i, minW_i, negW_i, listW_l, listW_t, tupleW_l, tupleW_t, sliceW_l, sliceW_t, isiW_1, optI_n, optI_s, truW_b, truW_i, truW_l, truW_t, truW_n, itW_l, itW_t, itW_r1, itW_r2, itW_r3, strW_i, itW_el, itW_et, itW_zl, itW_zt, itW_vl, itW_vt, tgW_n, tgW_t, setAll_c, setAll_n, List.map_cons, List.map_nil, List.cons_append, List.nil_append, List.append_nil, List.getElem?_cons_succ, List.getElem?_cons_zero, List.length_cons, List.length_nil, Nat.reduceAdd, Nat.reduceSub, List.replicate, List.set_cons_succ, List.set_cons_zero, mtW, mtTy, getW, bkW, dicW, revW, Sl_od, inW_d, notinW_d]
          exact fnW_mk rfl ⟨i, 1, rfl, by decide, fun x hx => hkz x hx⟩
        rw [List.nil_append, show (zs.map fun x : P => smD (some x)) = (zs.map some).map smD by rw [List.map_map]; rfl]
        ((first | (with_reducible refine Box.mk ?_) | skip); show WSs _ _ _ _; rw [WSs_n])
        refine ⟨last (zs.map some) _ _ _ ?_ fun x hx => ?_⟩
        · rw [List.length_map, hzs, List.length_map, sl]
        · obtain ⟨y, hy, e⟩ := List.mem_map.mp hx
          cases e
          exact bd_up (hp2 x hy) (by decide)
      · refine ite_f (beq_false_of_ne hz) ?_
        ((first | (with_reducible refine Box.mk ?_) | skip); show WSs _ _ _ _; rw [WSs_n])
        exact ⟨last sm _ _ _ sl sb⟩
  subst hE
  ((first | (with_reducible refine Box.mk ?_) | skip); show WSs _ (_ :: _) _ _; rw [WSs_cB]; simp only [wipeE, WCs, mkEnv, fnEnds, WS_raise, WS_try, WS_frz, WS_set, WS_setT, WS_par2, WS_par3, WS_aug, WS_expr, WS_ret, WS_retv, WS_retN, WS_if, WS_for, WS_while, WS_brk, WS_cont, WS_pass, WS_doc, WS_append, WS_extend, WS_popx, WS_setix, WS_augix, WS_setd, WS_rvs, WS_popset, WS_insert, extW_l, extW_t, insW_2, WE, WAs, WLs, WT, argK, argW, opW, opI, biW, Sl_v, Sl_o, csD, slW, ownW, if_true, if_false, addW_i, addW_l, addW_t, subW_i, mulW_i, mulW_l, mulW_t, fdivW_i, modW_i, powW_i, shlW_i, shrW_i, bitW_i, iaddW_i, imulW_i, ifdivW_i, ltW_i, leW_i, gtW_i, geW_i, eqW_i, neW_i, isW_n, isntW_n, isW_b, isntW_b, idxW_l, idxW_t, optW_s, optP_s, lenW_l, lenW_t, lenW_s, lenW_d, intW_i, intW_b, absW_i, maxW_i, minW_i, negW_i, listW_l, listW_t, tupleW_l, tupleW_t, sliceW_l, sliceW_t, isiW_1, optI_n, optI_s, truW_b, truW_i, truW_l, truW_t, truW_n, itW_l, itW_t, itW_r1, itW_r2, itW_r3, strW_i, itW_el, itW_et, itW_zl, itW_zt, itW_vl, itW_vt, tgW_n, tgW_t, setAll_c, setAll_n, List.map_cons, List.map_nil, List.cons_append, List.nil_append, List.append_nil, List.getElem?_cons_succ, List.getElem?_cons_zero, List.length_cons, List.length_nil, Nat.reduceAdd, Nat.reduceSub, List.replicate, List.set_cons_succ, List.set_cons_zero, mtW, mtTy, getW, bkW, dicW, revW, Sl_od, inW_d, notinW_d])
  refine fnW_mk rfl ⟨i, 3, rfl, by decide, smi (by decide) (by decide), fun z z0 z1 => ?_⟩
  simp only [wipeE, WCs, mkEnv, fnEnds, WS_raise, WS_try, WS_frz, WS_set, WS_setT, WS_par2, WS_par3, WS_aug, WS_expr, WS_ret, WS_retv, WS_retN, WS_if, WS_for, WS_while, WS_brk, WS_cont, WS_pass, WS_doc, WS_append, WS_extend, WS_popx, WS_setix, WS_augix, WS_setd, WS_rvs, WS_popset, WS_insert, extW_l, extW_t, insW_2, WE, WAs, WLs, WT, argK, argW, opW, opI, biW, Sl_v, Sl_o, csD, slW, ownW, if_true, if_false, addW_i, addW_l, addW_t, subW_i, mulW_i, mulW_l, mulW_t, fdivW_i, modW_i, powW_i, shlW_i, shrW_i, bitW_i, iaddW_i, imulW_i, ifdivW_i, ltW_i, leW_i, gtW_i, geW_i, eqW_i, neW_i, isW_n, isntW_n, isW_b, isntW_b, idxW_l, idxW_t, optW_s, optP_s, lenW_l, lenW_t, lenW_s, lenW_d, intW_i, intW_b, absW_i, maxW_i, minW_i, negW_i, listW_l, listW_t, tupleW_l, tupleW_t, sliceW_l, sliceW_t, isiW_1, optI_n, optI_s, truW_b, truW_i, truW_l, truW_t, truW_n, itW_l, itW_t, itW_r1, itW_r2, itW_r3, strW_i, itW_el, itW_et, itW_zl, itW_zt, itW_vl, itW_vt, tgW_n, tgW_t, setAll_c, setAll_n, List.map_cons, List.map_nil, List.cons_append, List.nil_append, List.append_nil, List.getElem?_cons_succ, List.getElem?_cons_zero, List.length_cons, List.length_nil, Nat.reduceAdd, Nat.reduceSub, List.replicate, List.set_cons_succ, List.set_cons_zero, mtW, mtTy, getW, bkW, dicW, revW, Sl_od, inW_d, notinW_d]
  by_cases hz : z = 0
  · refine ite_t (by rw [hz]; rfl) ?_
    ((first | (with_reducible refine Box.mk ?_) | skip); show WSs _ (_ :: _) _ _; rw [WSs_cB]; simp only [wipeE, WCs, mkEnv, fnEnds, WS_raise, WS_try, WS_frz, WS_set, WS_setT, WS_par2, WS_par3, WS_aug, WS_expr, WS_ret, WS_retv, WS_retN, WS_if, WS_for, WS_while, WS_brk, WS_cont, WS_pass, WS_doc, WS_append, WS_extend, WS_popx, WS_setix, WS_augix, WS_setd, WS_rvs, WS_popset, WS_insert, extW_l, extW_t, insW_2, WE, WAs, WLs, WT, argK, argW, opW, opI, biW, Sl_v, Sl_o, csD, slW, ownW, if_true, if_false, addW_i, addW_l, addW_t, subW_i, mulW_i, mulW_l, mulW_t, fdivW_i, modW_i, powW_i, shlW_i, shrW_i, bitW_i, iaddW_i, imulW_i, ifdivW_i, ltW_i, leW_i, gtW_i, geW_i, eqW_i, neW_i, isW_n, isntW_n, isW_b, isntW_b, idxW_l, idxW_t, optW_s, optP_s, lenW_l, lenW_t, lenW_s, lenW_d, intW_i, intW_b, absW_i, maxW_i, minW_i, negW_i, listW_l, listW_t, tupleW_l, tupleW_t, sliceW_l, sliceW_t, isiW_1, optI_n, optI_s, truW_b, truW_i, truW_l, truW_t, truW_n, itW_l, itW_t, itW_r1, itW_r2, itW_r3, strW_i, itW_el, itW_et, itW_zl, itW_zt, itW_vl, itW_vt, tgW_n, tgW_t, setAll_c, setAll_n, List.map_cons, List.map_nil, List.cons_append, List.nil_append, List.append_nil, List.getElem?_cons_succ, List.getElem?_cons_zero, List.length_cons, List.length_nil, Nat.reduceAdd, Nat.reduceSub, List.replicate, List.set_cons_succ, List.set_cons_zero, mtW, mtTy, getW, bkW, dicW, revW, Sl_od, inW_d, notinW_d])
    refine fnW_mk rfl ⟨i, _, rfl, ⟨by rw [List.length_map]; omega, by rw [List.length_map]; omega⟩, fun x hx => ?_⟩
    obtain ⟨a, ha, rfl⟩ := List.mem_map.mp hx
    refine ⟨?_, ?_⟩
    · exact noL_line
    simp only [List.length_map, wipeE, WCs, mkEnv, fnEnds, WS_raise, WS_try, WS_frz, WS_set, WS_setT, WS_par2, WS_par3, WS_aug, WS_expr, WS_ret, WS_retv, WS_retN, WS_if, WS_for, WS_while, WS_brk, WS_cont, WS_pass, WS_doc, WS_append, WS_extend, WS_popx, WS_setix, WS_augix, WS_setd, WS_rvs, WS_popset, WS_insert, extW_l, extW_t, insW_2, WE, WAs, WLs, WT, argK, argW, opW, opI, biW, Sl_v, Sl_o, csD, slW, ownW, if_true, if_false, addW_i, addW_l, addW_t, subW_i, mulW_i, mulW_l, mulW_t, fdivW_i, modW_i, powW_i, shlW_i, shrW_i, bitW_i, iaddW_i, imulW_i, ifdivW_i, ltW_i, leW_i, gtW_i, geW_i, eqW_i, neW_i, isW_n, isntW_n, isW_b, isntW_b, idxW_l, idxW_t, optW_s, optP_s, lenW_l, lenW_t, lenW_s, lenW_d, intW_i, intW_b, absW_i, maxW_i, minW_i, negW_i, listW_l, listW_t, tupleW_l, tupleW_t, sliceW_l, sliceW_t, isiW_1, optI_n, optI_s, truW_b, truW_i, truW_l, truW_t, truW_n, itW_l, itW_t, itW_r1, itW_r2, itW_r3, strW_i, itW_el, itW_et, itW_zl, itW_zt, itW_vl, itW_vt, tgW_n, tgW_t, setAll_c, setAll_n, List.map_cons, List.map_nil, List.cons_append, List.nil_append, List.append_nil, List.getElem?_cons_succ, List.getElem?_cons_zero, List.length_cons, List.length_nil, Nat.reduceAdd, Nat.reduceSub, List.replicate, List.set_cons_succ, List.set_cons_zero, mtW, mtTy, getW, bkW, dicW, revW, Sl_od, inW_d, notinW_d]
    refine ⟨by unfold LIM; omega, ?_⟩
    ((first | (with_reducible refine Box.mk ?_) | skip); show WSs _ _ _ _; rw [WSs_n])
    have e : ls0.map lineD ++ [lineD a] = (ls0 ++ [a]).map lineD := by rw [List.map_append]; rfl
    rw [e]
    exact ⟨core (ls0 ++ [a]) _ (by simp) (by simp; omega) fun b hb => by
      rcases List.mem_append.mp hb with h | h
      · exact hp0 b h
      · rw [List.mem_singleton.mp h]; exact hp0 a ha⟩
  · refine ite_f (beq_false_of_ne hz) ?_
    ((first | (with_reducible refine Box.mk ?_) | skip); show WSs _ _ _ _; rw [WSs_n])
    exact ⟨core ls0 _ (by omega) (by omega) hp0⟩
end PL.K47

namespace PL.K47
open PySem PySem.Spec PyProof.Rows L2 PL
/-! ### the head -/
def top (i : Nat) : Stmt := PySem.Challenge.pw_heardtrue_k47_whole_openings_found.main.body.getD i (.Pass ⟨0, 0, 0, 0⟩)
def d_law_turned : He.DefD := ⟨("_law_turned", none), "_law_turned", "_law_turned", defArgs (top 23), defBody (top 23), defScope (top 23), [], []⟩
def d_law_whole : He.DefD := ⟨("_law_whole", none), "_law_whole", "_law_whole", defArgs (top 24), defBody (top 24), defScope (top 24), [], []⟩
def d_law_arrival : He.DefD := ⟨("_law_arrival", none), "_law_arrival", "_law_arrival", defArgs (top 25), defBody (top 25), defScope (top 25), [], []⟩
def d_law_cost : He.DefD := ⟨("_law_cost", none), "_law_cost", "_law_cost", defArgs (top 26), defBody (top 26), defScope (top 26), [], []⟩
def d_law_draw : He.DefD := ⟨("_law_draw", none), "_law_draw", "_law_draw", defArgs (top 18), defBody (top 18), defScope (top 18), [], []⟩
def d_law_guesses : He.DefD := ⟨("_law_guesses", none), "_law_guesses", "_law_guesses", defArgs (top 28), defBody (top 28), defScope (top 28), [], []⟩
def d_law_pick : He.DefD := ⟨("_law_pick", none), "_law_pick", "_law_pick", defArgs (top 19), defBody (top 19), defScope (top 19), [], []⟩
def d_law_point : He.DefD := ⟨("_law_point", none), "_law_point", "_law_point", defArgs (top 20), defBody (top 20), defScope (top 20), [], []⟩
def d_law_line : He.DefD := ⟨("_law_line", none), "_law_line", "_law_line", defArgs (top 22), defBody (top 22), defScope (top 22), [], []⟩
def d_law_opening : He.DefD := ⟨("_law_opening", none), "_law_opening", "_law_opening", defArgs (top 21), defBody (top 21), defScope (top 21), [], []⟩
def d_law_shapes : He.DefD := ⟨("_law_shapes", none), "_law_shapes", "_law_shapes", defArgs (top 27), defBody (top 27), defScope (top 27), [], []⟩
def d_law_state : He.DefD := ⟨("_law_state", none), "_law_state", "_law_state", defArgs (top 17), defBody (top 17), defScope (top 17), [], []⟩
def d_between : He.DefD := ⟨("between", none), "between", "between", defArgs (top 11), defBody (top 11), defScope (top 11), [], []⟩
def d_apart : He.DefD := ⟨("apart", none), "apart", "apart", defArgs (top 12), defBody (top 12), defScope (top 12), [], []⟩
def d_guesses : He.DefD := ⟨("guesses", none), "guesses", "guesses", defArgs (top 13), defBody (top 13), defScope (top 13), [], []⟩
def d_reach : He.DefD := ⟨("reach", none), "reach", "reach", defArgs (top 4), defBody (top 4), defScope (top 4), [], []⟩
def d_plus : He.DefD := ⟨("plus", none), "plus", "plus", defArgs (top 1), defBody (top 1), defScope (top 1), [], []⟩
def d_times : He.DefD := ⟨("times", none), "times", "times", defArgs (top 2), defBody (top 2), defScope (top 2), [], []⟩
def d_sample : He.DefD := ⟨("sample", none), "sample", "sample", defArgs (top 5), defBody (top 5), defScope (top 5), [], []⟩
def d_sent : He.DefD := ⟨("sent", none), "sent", "sent", defArgs (top 6), defBody (top 6), defScope (top 6), [], []⟩
def d_turned : He.DefD := ⟨("turned", none), "turned", "turned", defArgs (top 8), defBody (top 8), defScope (top 8), [], []⟩
def d_whole : He.DefD := ⟨("whole", none), "whole", "whole", defArgs (top 9), defBody (top 9), defScope (top 9), [], []⟩
def d_shape : He.DefD := ⟨("shape", none), "shape", "shape", defArgs (top 10), defBody (top 10), defScope (top 10), [], []⟩
def d_shapes_of : He.DefD := ⟨("shapes_of", none), "shapes_of", "shapes_of", defArgs (top 14), defBody (top 14), defScope (top 14), [], []⟩
def d_find : He.DefD := ⟨("find", none), "find", "find", defArgs (top 15), defBody (top 15), defScope (top 15), [], []⟩
def d_law : He.DefD := ⟨("law", none), "law", "law", defArgs (top 29), defBody (top 29), defScope (top 29), [], []⟩
def lGl : List Str := ["_law_turned", "_law_whole", "_law_arrival", "_law_cost", "_law_draw", "_law_guesses", "_law_pick", "_law_point", "_law_line", "_law_opening", "_law_shapes", "_law_state", "between", "apart", "guesses", "reach", "plus", "times", "sample", "sent", "turned", "whole", "shape", "shapes_of", "find", "law"]
def lFr : List Str := ["abs", "enumerate", "int", "len", "list", "max", "min", "range", "repr", "tuple"]
def lGi : List (Str × Int) := []
def lGt : List (Str × List Int) := []
def fb (K : PySem.W.Frag) : Bool := nmB K lGl lFr lGi lGt
def fn : List He.DefD := [d_law_turned, d_law_whole, d_law_arrival, d_law_cost, d_law_draw, d_law_guesses, d_law_pick, d_law_point, d_law_line, d_law_opening, d_law_shapes, d_law_state, d_between, d_apart, d_guesses, d_reach, d_plus, d_times, d_sample, d_sent, d_turned, d_whole, d_shape, d_shapes_of, d_find, d_law]
theorem ck_law_turned : chkSs G_law_turned ms_law_turned (fnC N_law_turned (defScope (top 23))) (defBody (top 23)) = true := by decide +kernel
theorem cs_law_turned : okSc N_law_turned ps_law_turned (defScope (top 23)) = true := by decide +kernel
theorem ck_law_whole : chkSs G_law_whole ms_law_whole (fnC N_law_whole (defScope (top 24))) (defBody (top 24)) = true := by decide +kernel
theorem cs_law_whole : okSc N_law_whole ps_law_whole (defScope (top 24)) = true := by decide +kernel
theorem ck_law_arrival : chkSs G_law_arrival ms_law_arrival (fnC N_law_arrival (defScope (top 25))) (defBody (top 25)) = true := by decide +kernel
theorem cs_law_arrival : okSc N_law_arrival ps_law_arrival (defScope (top 25)) = true := by decide +kernel
theorem ck_law_cost : chkSs G_law_cost ms_law_cost (fnC N_law_cost (defScope (top 26))) (defBody (top 26)) = true := by decide +kernel
theorem cs_law_cost : okSc N_law_cost ps_law_cost (defScope (top 26)) = true := by decide +kernel
theorem ck_law_guesses : chkSs G_law_guesses ms_law_guesses (fnC N_law_guesses (defScope (top 28))) (defBody (top 28)) = true := by decide +kernel
theorem cs_law_guesses : okSc N_law_guesses ps_law_guesses (defScope (top 28)) = true := by decide +kernel
theorem ck_law_pick : chkSs G_pick msPick (fnC NPick (defScope (top 19))) (defBody (top 19)) = true := by decide +kernel
theorem cs_law_pick : okSc NPick ["state", "row"] (defScope (top 19)) = true := by decide +kernel
theorem ck_law_point : chkSs G_law_point ms_law_point (fnC N_law_point (defScope (top 20))) (defBody (top 20)) = true := by decide +kernel
theorem cs_law_point : okSc N_law_point ps_law_point (defScope (top 20)) = true := by decide +kernel
theorem ck_law_line : chkSs G_law_line ms_law_line (fnC N_law_line (defScope (top 22))) (defBody (top 22)) = true := by decide +kernel
theorem cs_law_line : okSc N_law_line ps_law_line (defScope (top 22)) = true := by decide +kernel
theorem ck_law_opening : chkSs G_law_opening ms_law_opening (fnC N_law_opening (defScope (top 21))) (defBody (top 21)) = true := by decide +kernel
theorem cs_law_opening : okSc N_law_opening ps_law_opening (defScope (top 21)) = true := by decide +kernel
theorem ck_law_shapes : chkSs G_law_shapes ms_law_shapes (fnC N_law_shapes (defScope (top 27))) (defBody (top 27)) = true := by decide +kernel
theorem cs_law_shapes : okSc N_law_shapes ps_law_shapes (defScope (top 27)) = true := by decide +kernel
theorem ck_between : chkSs G_between ms_between (fnC N_between (defScope (top 11))) (defBody (top 11)) = true := by decide +kernel
theorem cs_between : okSc N_between ps_between (defScope (top 11)) = true := by decide +kernel
theorem ck_apart : chkSs G_apart ms_apart (fnC N_apart (defScope (top 12))) (defBody (top 12)) = true := by decide +kernel
theorem cs_apart : okSc N_apart ps_apart (defScope (top 12)) = true := by decide +kernel
theorem ck_guesses : chkSs G_guesses ms_guesses (fnC N_guesses (defScope (top 13))) (defBody (top 13)) = true := by decide +kernel
theorem cs_guesses : okSc N_guesses ps_guesses (defScope (top 13)) = true := by decide +kernel
theorem ck_reach : chkSs G_reach ms_reach (fnC N_reach (defScope (top 4))) (defBody (top 4)) = true := by decide +kernel
theorem cs_reach : okSc N_reach ps_reach (defScope (top 4)) = true := by decide +kernel
theorem ck_plus : chkSs G_plus ms_plus (fnC N_plus (defScope (top 1))) (defBody (top 1)) = true := by decide +kernel
theorem cs_plus : okSc N_plus ps_plus (defScope (top 1)) = true := by decide +kernel
theorem ck_times : chkSs G_times ms_times (fnC N_times (defScope (top 2))) (defBody (top 2)) = true := by decide +kernel
theorem cs_times : okSc N_times ps_times (defScope (top 2)) = true := by decide +kernel
theorem ck_sample : chkSs G_sample ms_sample (fnC N_sample (defScope (top 5))) (defBody (top 5)) = true := by decide +kernel
theorem cs_sample : okSc N_sample ps_sample (defScope (top 5)) = true := by decide +kernel
theorem ck_sent : chkSs G_sent ms_sent (fnC N_sent (defScope (top 6))) (defBody (top 6)) = true := by decide +kernel
theorem cs_sent : okSc N_sent ps_sent (defScope (top 6)) = true := by decide +kernel
theorem ck_turned : chkSs G_turned ms_turned (fnC N_turned (defScope (top 8))) (defBody (top 8)) = true := by decide +kernel
theorem cs_turned : okSc N_turned ps_turned (defScope (top 8)) = true := by decide +kernel
theorem ck_whole : chkSs G_whole ms_whole (fnC N_whole (defScope (top 9))) (defBody (top 9)) = true := by decide +kernel
theorem cs_whole : okSc N_whole ps_whole (defScope (top 9)) = true := by decide +kernel
theorem ck_shape : chkSs G_shape ms_shape (fnC N_shape (defScope (top 10))) (defBody (top 10)) = true := by decide +kernel
theorem cs_shape : okSc N_shape ps_shape (defScope (top 10)) = true := by decide +kernel
theorem ck_shapes_of : chkSs G_shapes_of ms_shapes_of (fnC N_shapes_of (defScope (top 14))) (defBody (top 14)) = true := by decide +kernel
theorem cs_shapes_of : okSc N_shapes_of ps_shapes_of (defScope (top 14)) = true := by decide +kernel
theorem ck_find : chkSs G_find ms_find (fnC N_find (defScope (top 15))) (defBody (top 15)) = true := by decide +kernel
theorem cs_find : okSc N_find ps_find (defScope (top 15)) = true := by decide +kernel
theorem ck_law : chkSs G_law ms_law (fnC N_law (defScope (top 29))) (defBody (top 29)) = true := by decide +kernel
theorem cs_law : okSc N_law ps_law (defScope (top 29)) = true := by decide +kernel
theorem facts {P : Program} {w : World} {K : PySem.W.Frag} {h : Heap} {mg : Str → Option Value} {f : Addr} (X : K.In h) (G : h.Ns mainGlobals mg) (hfa : mg ("law" : Str) = some (.ref f)) (c : SaysP fb fn K) :
    ∃ fd : FuncData, (∀ (s : Shared) (v : Value), BindsTo s fd ⟨[v], []⟩ [("script", v)]) ∧ ∀ base : Heap, K.In base → base.Ns mainGlobals mg → RunC P w K mg base 8 f fd "script" sp_law := by
  have c0 := c.fact0
  have c1 := c0
  obtain ⟨gl, n⟩ := nmB_ok X G c1
  obtain ⟨fd_law_turned, F_law_turned⟩ := c.def_ 0 (d := d_law_turned) rfl
  have b_law_turned : Binds K fd_law_turned ["point", "turn"] [] := FunD.bindsN F_law_turned fun _ _ _ _ _ _ us hl => match us, hl with | [_, _], _ => rfl
  obtain ⟨fd_law_whole, F_law_whole⟩ := c.def_ 1 (d := d_law_whole) rfl
  have b_law_whole : Binds K fd_law_whole ["opening", "line", "turn"] [] := FunD.bindsN F_law_whole fun _ _ _ _ _ _ us hl => match us, hl with | [_, _, _], _ => rfl
  obtain ⟨fd_law_arrival, F_law_arrival⟩ := c.def_ 2 (d := d_law_arrival) rfl
  have b_law_arrival : Binds K fd_law_arrival ["opening", "line", "turn", "place", "slack"] [] := FunD.bindsN F_law_arrival fun _ _ _ _ _ _ us hl => match us, hl with | [_, _, _, _, _], _ => rfl
  obtain ⟨fd_law_cost, F_law_cost⟩ := c.def_ 3 (d := d_law_cost) rfl
  have b_law_cost : Binds K fd_law_cost ["shape_v", "samples", "place"] [] := FunD.bindsN F_law_cost fun _ _ _ _ _ _ us hl => match us, hl with | [_, _, _], _ => rfl
  obtain ⟨fd_law_draw, F_law_draw⟩ := c.def_ 4 (d := d_law_draw) rfl
  have b_law_draw : Binds K fd_law_draw ["state", "many"] [] := FunD.bindsN F_law_draw fun _ _ _ _ _ _ us hl => match us, hl with | [_, _], _ => rfl
  obtain ⟨fd_law_guesses, F_law_guesses⟩ := c.def_ 5 (d := d_law_guesses) rfl
  have b_law_guesses : Binds K fd_law_guesses ["lines", "slack"] [] := FunD.bindsN F_law_guesses fun _ _ _ _ _ _ us hl => match us, hl with | [_, _], _ => rfl
  obtain ⟨fd_law_pick, F_law_pick⟩ := c.def_ 6 (d := d_law_pick) rfl
  have b_law_pick : Binds K fd_law_pick ["state", "row"] [] := FunD.bindsN F_law_pick fun _ _ _ _ _ _ us hl => match us, hl with | [_, _], _ => rfl
  obtain ⟨fd_law_point, F_law_point⟩ := c.def_ 7 (d := d_law_point) rfl
  have b_law_point : Binds K fd_law_point ["state", "wide"] [] := FunD.bindsN F_law_point fun _ _ _ _ _ _ us hl => match us, hl with | [_, _], _ => rfl
  obtain ⟨fd_law_line, F_law_line⟩ := c.def_ 8 (d := d_law_line) rfl
  have b_law_line : Binds K fd_law_line ["state"] [] := FunD.bindsN F_law_line fun _ _ _ _ _ _ us hl => match us, hl with | [_], _ => rfl
  obtain ⟨fd_law_opening, F_law_opening⟩ := c.def_ 9 (d := d_law_opening) rfl
  have b_law_opening : Binds K fd_law_opening ["state", "most"] [] := FunD.bindsN F_law_opening fun _ _ _ _ _ _ us hl => match us, hl with | [_, _], _ => rfl
  obtain ⟨fd_law_shapes, F_law_shapes⟩ := c.def_ 10 (d := d_law_shapes) rfl
  have b_law_shapes : Binds K fd_law_shapes ["opening", "lines"] [] := FunD.bindsN F_law_shapes fun _ _ _ _ _ _ us hl => match us, hl with | [_, _], _ => rfl
  obtain ⟨fd_law_state, F_law_state⟩ := c.def_ 11 (d := d_law_state) rfl
  have b_law_state : Binds K fd_law_state ["script"] [] := FunD.bindsN F_law_state fun _ _ _ _ _ _ us hl => match us, hl with | [_], _ => rfl
  obtain ⟨fd_between, F_between⟩ := c.def_ 12 (d := d_between) rfl
  have b_between : Binds K fd_between ["one", "other"] [] := FunD.bindsN F_between fun _ _ _ _ _ _ us hl => match us, hl with | [_, _], _ => rfl
  obtain ⟨fd_apart, F_apart⟩ := c.def_ 13 (d := d_apart) rfl
  have b_apart : Binds K fd_apart ["row", "samples", "place"] [] := FunD.bindsN F_apart fun _ _ _ _ _ _ us hl => match us, hl with | [_, _, _], _ => rfl
  obtain ⟨fd_guesses, F_guesses⟩ := c.def_ 14 (d := d_guesses) rfl
  have b_guesses : Binds K fd_guesses ["lines", "slack"] [] := FunD.bindsN F_guesses fun _ _ _ _ _ _ us hl => match us, hl with | [_, _], _ => rfl
  obtain ⟨fd_reach, F_reach⟩ := c.def_ 15 (d := d_reach) rfl
  have b_reach : Binds K fd_reach ["line"] [] := FunD.bindsN F_reach fun _ _ _ _ _ _ us hl => match us, hl with | [_], _ => rfl
  obtain ⟨fd_plus, F_plus⟩ := c.def_ 16 (d := d_plus) rfl
  have b_plus : Binds K fd_plus ["one", "other"] [] := FunD.bindsN F_plus fun _ _ _ _ _ _ us hl => match us, hl with | [_, _], _ => rfl
  obtain ⟨fd_times, F_times⟩ := c.def_ 17 (d := d_times) rfl
  have b_times : Binds K fd_times ["one", "other"] [] := FunD.bindsN F_times fun _ _ _ _ _ _ us hl => match us, hl with | [_, _], _ => rfl
  obtain ⟨fd_sample, F_sample⟩ := c.def_ 18 (d := d_sample) rfl
  have b_sample : Binds K fd_sample ["line", "points"] [] := FunD.bindsN F_sample fun _ _ _ _ _ _ us hl => match us, hl with | [_, _], _ => rfl
  obtain ⟨fd_sent, F_sent⟩ := c.def_ 19 (d := d_sent) rfl
  have b_sent : Binds K fd_sent ["line", "points"] [] := FunD.bindsN F_sent fun _ _ _ _ _ _ us hl => match us, hl with | [_, _], _ => rfl
  obtain ⟨fd_turned, F_turned⟩ := c.def_ 20 (d := d_turned) rfl
  have b_turned : Binds K fd_turned ["point", "turn"] [] := FunD.bindsN F_turned fun _ _ _ _ _ _ us hl => match us, hl with | [_, _], _ => rfl
  obtain ⟨fd_whole, F_whole⟩ := c.def_ 21 (d := d_whole) rfl
  have b_whole : Binds K fd_whole ["opening", "line", "turn"] [] := FunD.bindsN F_whole fun _ _ _ _ _ _ us hl => match us, hl with | [_, _, _], _ => rfl
  obtain ⟨fd_shape, F_shape⟩ := c.def_ 22 (d := d_shape) rfl
  have b_shape : Binds K fd_shape ["opening", "line", "turn"] [] := FunD.bindsN F_shape fun _ _ _ _ _ _ us hl => match us, hl with | [_, _, _], _ => rfl
  obtain ⟨fd_shapes_of, F_shapes_of⟩ := c.def_ 23 (d := d_shapes_of) rfl
  have b_shapes_of : Binds K fd_shapes_of ["opening", "lines"] [] := FunD.bindsN F_shapes_of fun _ _ _ _ _ _ us hl => match us, hl with | [_, _], _ => rfl
  obtain ⟨fd_find, F_find⟩ := c.def_ 24 (d := d_find) rfl
  have b_find : Binds K fd_find ["opening", "lines", "slack", "samples"] [] := FunD.bindsN F_find fun _ _ _ _ _ _ us hl => match us, hl with | [_, _, _, _], _ => rfl
  obtain ⟨fd_law, F_law⟩ := c.def_ 25 (d := d_law) rfl
  have b_law : Binds K fd_law ["script"] [] := FunD.bindsN F_law fun _ _ _ _ _ _ us hl => match us, hl with | [_], _ => rfl
  have e : f = He.ga K "law" := by
    have := hfa.symm.trans (gl "law" (by decide))
    cases this
    rfl
  subst e
  refine ⟨fd_law, fun s v => FunD.bindsA (ps := ["script"]) F_law (fun _ _ _ _ _ _ us hl => match us, hl with | [_], _ => rfl) s [v] rfl, fun base _ _ => ?_⟩
  have o_law_turned : FE P w K mg base 1 "_law_turned" sp_law_turned := fe_of (Γ := G_law_turned) F_law_turned (gl "_law_turned" (by decide)) b_law_turned (gok (k := 0) n (by decide +kernel) (by decide +kernel) (by decide +kernel) (fun p hp => by
    cases hp) (by intro _ z; cases z) (by intro _ z; cases z)) cs_law_turned ck_law_turned pure_law_turned
  have o_law_whole : FE P w K mg base 2 "_law_whole" sp_law_whole := fe_of (Γ := G_law_whole) F_law_whole (gl "_law_whole" (by decide)) b_law_whole (gok (k := 1) n (by decide +kernel) (by decide +kernel) (by decide +kernel) (fun p hp => by
    rcases List.mem_cons.mp hp with rfl | hp
    · exact o_law_turned.mono (by decide)
    cases hp) (by intro _ z; cases z) (by intro _ z; cases z)) cs_law_whole ck_law_whole pure_law_whole
  have o_law_arrival : FE P w K mg base 3 "_law_arrival" sp_law_arrival := fe_of (Γ := G_law_arrival) F_law_arrival (gl "_law_arrival" (by decide)) b_law_arrival (gok (k := 2) n (by decide +kernel) (by decide +kernel) (by decide +kernel) (fun p hp => by
    rcases List.mem_cons.mp hp with rfl | hp
    · exact o_law_whole.mono (by decide)
    cases hp) (by intro _ z; cases z) (by intro _ z; cases z)) cs_law_arrival ck_law_arrival pure_law_arrival
  have o_law_cost : FE P w K mg base 1 "_law_cost" sp_law_cost := fe_of (Γ := G_law_cost) F_law_cost (gl "_law_cost" (by decide)) b_law_cost (gok (k := 0) n (by decide +kernel) (by decide +kernel) (by decide +kernel) (fun p hp => by
    cases hp) (by intro _ z; cases z) (by intro _ z; cases z)) cs_law_cost ck_law_cost pure_law_cost
  have o_law_draw : FE P w K mg base 1 "_law_draw" spDraw := ⟨_, fd_law_draw, _, draw_ok (N := ["state", "many", "cells", "value", "mixed"]) F_law_draw (gok (k := 0) (l := []) (fr' := tabD.frees) (gi' := []) (gt' := []) (ex := []) n (by decide +kernel) (by intro _ z; cases z) (by intro _ z; cases z) (by intro _ z; cases z) (by intro _ z; cases z) (by intro _ z; cases z)) (by decide +kernel) rfl rfl (by decide +kernel), gl "_law_draw" (by decide), F_law_draw.kp, b_law_draw⟩
  have o_law_guesses : FE P w K mg base 1 "_law_guesses" sp_law_guesses := fe_of (Γ := G_law_guesses) F_law_guesses (gl "_law_guesses" (by decide)) b_law_guesses (gok (k := 0) n (by decide +kernel) (by decide +kernel) (by decide +kernel) (fun p hp => by
    cases hp) (by intro _ z; cases z) (by intro _ z; cases z)) cs_law_guesses ck_law_guesses pure_law_guesses
  have o_law_pick : FE P w K mg base 2 "_law_pick" spPick := fe_of (Γ := G_pick) F_law_pick (gl "_law_pick" (by decide)) b_law_pick (gok (k := 1) n (by decide +kernel) (by intro _ z; cases z) (by intro _ z; cases z) (fun p hp => by
    rcases List.mem_cons.mp hp with rfl | hp
    · exact o_law_draw.mono (by decide)
    cases hp) (by intro _ z; cases z) (by intro _ z; cases z)) cs_law_pick ck_law_pick pure_pick
  have o_law_point : FE P w K mg base 2 "_law_point" sp_law_point := fe_of (Γ := G_law_point) F_law_point (gl "_law_point" (by decide)) b_law_point (gok (k := 1) n (by decide +kernel) (by decide +kernel) (by decide +kernel) (fun p hp => by
    rcases List.mem_cons.mp hp with rfl | hp
    · exact o_law_draw.mono (by decide)
    cases hp) (by intro _ z; cases z) (by intro _ z; cases z)) cs_law_point ck_law_point pure_law_point
  have o_law_line : FE P w K mg base 3 "_law_line" sp_law_line := fe_of (Γ := G_law_line) F_law_line (gl "_law_line" (by decide)) b_law_line (gok (k := 2) n (by decide +kernel) (by decide +kernel) (by decide +kernel) (fun p hp => by
    rcases List.mem_cons.mp hp with rfl | hp
    · exact o_law_draw.mono (by decide)
    rcases List.mem_cons.mp hp with rfl | hp
    · exact o_law_pick.mono (by decide)
    rcases List.mem_cons.mp hp with rfl | hp
    · exact o_law_point.mono (by decide)
    cases hp) (by intro _ z; cases z) (by intro _ z; cases z)) cs_law_line ck_law_line pure_law_line
  have o_law_opening : FE P w K mg base 3 "_law_opening" sp_law_opening := fe_of (Γ := G_law_opening) F_law_opening (gl "_law_opening" (by decide)) b_law_opening (gok (k := 2) n (by decide +kernel) (by decide +kernel) (by decide +kernel) (fun p hp => by
    rcases List.mem_cons.mp hp with rfl | hp
    · exact o_law_draw.mono (by decide)
    rcases List.mem_cons.mp hp with rfl | hp
    · exact o_law_point.mono (by decide)
    cases hp) (by intro _ z; cases z) (by intro _ z; cases z)) cs_law_opening ck_law_opening pure_law_opening
  have o_law_shapes : FE P w K mg base 3 "_law_shapes" sp_law_shapes := fe_of (Γ := G_law_shapes) F_law_shapes (gl "_law_shapes" (by decide)) b_law_shapes (gok (k := 2) n (by decide +kernel) (by decide +kernel) (by decide +kernel) (fun p hp => by
    rcases List.mem_cons.mp hp with rfl | hp
    · exact o_law_whole.mono (by decide)
    cases hp) (by intro _ z; cases z) (by intro _ z; cases z)) cs_law_shapes ck_law_shapes pure_law_shapes
  have o_law_state : FE P w K mg base 1 "_law_state" spState := ⟨_, fd_law_state, _, state_ok (N := ["script", "seed", "cell"]) F_law_state (gok (k := 0) (l := []) (fr' := tabS.frees) (gi' := []) (gt' := []) (ex := []) n (by decide +kernel) (by intro _ z; cases z) (by intro _ z; cases z) (by intro _ z; cases z) (by intro _ z; cases z) (by intro _ z; cases z)) (by decide +kernel) rfl rfl (by decide +kernel), gl "_law_state" (by decide), F_law_state.kp, b_law_state⟩
  have o_between : FE P w K mg base 1 "between" sp_between := fe_of (Γ := G_between) F_between (gl "between" (by decide)) b_between (gok (k := 0) n (by decide +kernel) (by decide +kernel) (by decide +kernel) (fun p hp => by
    cases hp) (by intro _ z; cases z) (by intro _ z; cases z)) cs_between ck_between pure_between
  have o_apart : FE P w K mg base 2 "apart" sp_apart := fe_of (Γ := G_apart) F_apart (gl "apart" (by decide)) b_apart (gok (k := 1) n (by decide +kernel) (by decide +kernel) (by decide +kernel) (fun p hp => by
    rcases List.mem_cons.mp hp with rfl | hp
    · exact o_between.mono (by decide)
    cases hp) (by intro _ z; cases z) (by intro _ z; cases z)) cs_apart ck_apart pure_apart
  have o_guesses : FE P w K mg base 1 "guesses" sp_guesses := fe_of (Γ := G_guesses) F_guesses (gl "guesses" (by decide)) b_guesses (gok (k := 0) n (by decide +kernel) (by decide +kernel) (by decide +kernel) (fun p hp => by
    cases hp) (by intro _ z; cases z) (by intro _ z; cases z)) cs_guesses ck_guesses pure_guesses
  have o_reach : FE P w K mg base 1 "reach" sp_reach := fe_of (Γ := G_reach) F_reach (gl "reach" (by decide)) b_reach (gok (k := 0) n (by decide +kernel) (by decide +kernel) (by decide +kernel) (fun p hp => by
    cases hp) (by intro _ z; cases z) (by intro _ z; cases z)) cs_reach ck_reach pure_reach
  have o_plus : FE P w K mg base 1 "plus" sp_plus := fe_of (Γ := G_plus) F_plus (gl "plus" (by decide)) b_plus (gok (k := 0) n (by decide +kernel) (by decide +kernel) (by decide +kernel) (fun p hp => by
    cases hp) (by intro _ z; cases z) (by intro _ z; cases z)) cs_plus ck_plus pure_plus
  have o_times : FE P w K mg base 1 "times" sp_times := fe_of (Γ := G_times) F_times (gl "times" (by decide)) b_times (gok (k := 0) n (by decide +kernel) (by decide +kernel) (by decide +kernel) (fun p hp => by
    cases hp) (by intro _ z; cases z) (by intro _ z; cases z)) cs_times ck_times pure_times
  have o_sample : FE P w K mg base 2 "sample" sp_sample := fe_of (Γ := G_sample) F_sample (gl "sample" (by decide)) b_sample (gok (k := 1) n (by decide +kernel) (by decide +kernel) (by decide +kernel) (fun p hp => by
    rcases List.mem_cons.mp hp with rfl | hp
    · exact o_plus.mono (by decide)
    rcases List.mem_cons.mp hp with rfl | hp
    · exact o_times.mono (by decide)
    cases hp) (by intro _ z; cases z) (by intro _ z; cases z)) cs_sample ck_sample pure_sample
  have o_sent : FE P w K mg base 3 "sent" sp_sent := fe_of (Γ := G_sent) F_sent (gl "sent" (by decide)) b_sent (gok (k := 2) n (by decide +kernel) (by decide +kernel) (by decide +kernel) (fun p hp => by
    rcases List.mem_cons.mp hp with rfl | hp
    · exact o_reach.mono (by decide)
    rcases List.mem_cons.mp hp with rfl | hp
    · exact o_sample.mono (by decide)
    cases hp) (by intro _ z; cases z) (by intro _ z; cases z)) cs_sent ck_sent pure_sent
  have o_turned : FE P w K mg base 1 "turned" sp_turned := fe_of (Γ := G_turned) F_turned (gl "turned" (by decide)) b_turned (gok (k := 0) n (by decide +kernel) (by decide +kernel) (by decide +kernel) (fun p hp => by
    cases hp) (by intro _ z; cases z) (by intro _ z; cases z)) cs_turned ck_turned pure_turned
  have o_whole : FE P w K mg base 4 "whole" sp_whole := fe_of (Γ := G_whole) F_whole (gl "whole" (by decide)) b_whole (gok (k := 3) n (by decide +kernel) (by decide +kernel) (by decide +kernel) (fun p hp => by
    rcases List.mem_cons.mp hp with rfl | hp
    · exact o_sent.mono (by decide)
    rcases List.mem_cons.mp hp with rfl | hp
    · exact o_turned.mono (by decide)
    cases hp) (by intro _ z; cases z) (by intro _ z; cases z)) cs_whole ck_whole pure_whole
  have o_shape : FE P w K mg base 5 "shape" sp_shape := fe_of (Γ := G_shape) F_shape (gl "shape" (by decide)) b_shape (gok (k := 4) n (by decide +kernel) (by decide +kernel) (by decide +kernel) (fun p hp => by
    rcases List.mem_cons.mp hp with rfl | hp
    · exact o_whole.mono (by decide)
    cases hp) (by intro _ z; cases z) (by intro _ z; cases z)) cs_shape ck_shape pure_shape
  have o_shapes_of : FE P w K mg base 6 "shapes_of" sp_shapes_of := fe_of (Γ := G_shapes_of) F_shapes_of (gl "shapes_of" (by decide)) b_shapes_of (gok (k := 5) n (by decide +kernel) (by decide +kernel) (by decide +kernel) (fun p hp => by
    rcases List.mem_cons.mp hp with rfl | hp
    · exact o_shape.mono (by decide)
    cases hp) (by intro _ z; cases z) (by intro _ z; cases z)) cs_shapes_of ck_shapes_of pure_shapes_of
  have o_find : FE P w K mg base 7 "find" sp_find := fe_of (Γ := G_find) F_find (gl "find" (by decide)) b_find (gok (k := 6) n (by decide +kernel) (by decide +kernel) (by decide +kernel) (fun p hp => by
    rcases List.mem_cons.mp hp with rfl | hp
    · exact o_apart.mono (by decide)
    rcases List.mem_cons.mp hp with rfl | hp
    · exact o_guesses.mono (by decide)
    rcases List.mem_cons.mp hp with rfl | hp
    · exact o_shapes_of.mono (by decide)
    cases hp) (by intro _ z; cases z) (by intro _ z; cases z)) cs_find ck_find pure_find
  exact run_c (Γ := G_law) F_law (gok (k := 7) n (by decide +kernel) (by decide +kernel) (by decide +kernel) (fun p hp => by
    rcases List.mem_cons.mp hp with rfl | hp
    · exact o_law_arrival.mono (by decide)
    rcases List.mem_cons.mp hp with rfl | hp
    · exact o_law_cost.mono (by decide)
    rcases List.mem_cons.mp hp with rfl | hp
    · exact o_law_draw.mono (by decide)
    rcases List.mem_cons.mp hp with rfl | hp
    · exact o_law_guesses.mono (by decide)
    rcases List.mem_cons.mp hp with rfl | hp
    · exact o_law_line.mono (by decide)
    rcases List.mem_cons.mp hp with rfl | hp
    · exact o_law_opening.mono (by decide)
    rcases List.mem_cons.mp hp with rfl | hp
    · exact o_law_pick.mono (by decide)
    rcases List.mem_cons.mp hp with rfl | hp
    · exact o_law_point.mono (by decide)
    rcases List.mem_cons.mp hp with rfl | hp
    · exact o_law_shapes.mono (by decide)
    rcases List.mem_cons.mp hp with rfl | hp
    · exact o_law_state.mono (by decide)
    rcases List.mem_cons.mp hp with rfl | hp
    · exact o_find.mono (by decide)
    cases hp) (by intro _ z; cases z) (by intro _ z; cases z)) cs_law ck_law pure_law
end PL.K47

namespace PL.K47
open PySem PySem.Spec PyProof.Rows L2 PL
abbrev RowP : PySem.W.OpenRow := PySem.W.OpenLaw.row PySem.Challenge.rw_heardtrue_k47_whole_openings_found
abbrev hk : PySem.W.Hook := hookP 4 fb fn
def ob (s : PySem.W.SharedT) : He.AlD := obsP 4 fb fn (HandSHeadRun.getT s)
theorem ob_eq (s : PySem.W.SharedT) : ob s = hk.obs s.abs := obsP_eq (HandSHeadRun.getT_eq s)
def loose0 : List PySem.Str := ["plus", "times", "reach", "sample", "sent", "turned", "whole", "shape", "between", "apart", "guesses", "shapes_of", "find", "_law_state", "_law_draw", "_law_pick", "_law_point", "_law_opening", "_law_line", "_law_turned", "_law_whole", "_law_arrival", "_law_cost", "_law_shapes", "_law_guesses"]
def loose : List PySem.Str := loose0
theorem run (w : World) : HandSHeadRun.RunEq RowP (PySem.W.view RowP.prog [29]) hk ob 20000 loose w := by
  intro os
  kernel_rfl
end PL.K47
open PySem PySem.W PySem.Calls PyProof.Rows
theorem PySem.Challenge.cw_heardtrue_k47_whole_openings_found_holds : PySem.Challenge.rw_heardtrue_k47_whole_openings_found.Holds := by
  w_on; o_law
  refine HandSHeadRun.head_any (r := OpenLaw.row PySem.Challenge.rw_heardtrue_k47_whole_openings_found) (q := view (OpenLaw.row PySem.Challenge.rw_heardtrue_k47_whole_openings_found).prog [29]) (H := PL.K47.hk) (ob := PL.K47.ob) (M := 20000) (loose := PL.K47.loose) (d := HandSHeadRun.topDef (OpenLaw.row PySem.Challenge.rw_heardtrue_k47_whole_openings_found).prog 29) (kwd := []) PL.K47.ob_eq
    (by kernel_rfl) (fun s => by kernel_rfl) PL.K47.run (by kernel_rfl) (by kernel_rfl) (by kernel_rfl) (by rfl) (by first | assumption | decide +kernel) (by decide +kernel) ⟨rfl, rfl, rfl, rfl, rfl, by decide +kernel⟩ ?hw ?hc
  case hw => w_witness2
  case hc =>
    refine PL.walk_c (l := PySem.Challenge.rw_heardtrue_k47_whole_openings_found) (n := 63) (k := 8) (x := "script") (sp := PL.K47.sp_law) rfl (by decide) (by kernel_rfl) ⟨rfl, by decide, by decide⟩ ?F
    intro w mg fa h Y G hmg0
    obtain ⟨K, KX, c⟩ := Y
    have hmg : mg ("law" : PySem.Str) = some (.ref fa) := by
      have e : (HandSHeadRun.topDef (OpenLaw.row PySem.Challenge.rw_heardtrue_k47_whole_openings_found).prog 29).name = ("law" : PySem.Str) := by kernel_rfl
      rw [← e]
      exact hmg0
    obtain ⟨fd, hb, hF⟩ := PL.K47.facts (P := (PySem.Challenge.rw_heardtrue_k47_whole_openings_found).prog) (w := w) KX G hmg c
    exact ⟨K, fd, KX, hb, fun ns Q X hl q => ⟨ns, rfl, Nat.le_trans hl (by decide), q⟩, fun base kb nb => hF base kb nb⟩

