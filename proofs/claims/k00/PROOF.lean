import PyProof.Rows.All
import Wide.All
import OpenK.AllK
import Wide.FinOn
import HandS.ForMost
import HandS.ForExc
import HandS.Walk
import HandS.IsInst
import HandS.RaiseMore
import HandS.TupAny
import HandS.Lambda
import HandS.NoneIn
import HandS.Wide
import PyProof.ListStr
import PyProof.ReprRoads
import HandS.More
import HandS.Property
import KE.KCallOwn
import HandS.Set
import PyProof.Rows.SortShellAny
import HandS.Star
import HandS.FStr
import HandS.DictComp
import HandS.IterVal
import KE.KOwnIter
import HandS.ClsMeth
import KE.KEqNest
import KE.KMinBuiltin
import OpenK.KMeth
import HandS.EndTab
import KE.KExcInit
import HandS.ExcField
import HandS.TryMany
import KE.GoesMore
import HandS.Zip
import KE.KDictZip
import KE.KItemsList
import HandS.StrMore
import PyProof.Rows.StrCountLaw
import PyProof.StrBlock2
import PyProof.MeetsIn
import PyProof.NeKinds
import PyProof.FactsAll.dict_2
import KE.KFmtOwn
import HandS.Defaults
import KE.KEqDict
import KE.KDictList
import KE.GoesEnum
import HandS.Replace
import HandS.ReplaceLit
import HandS.Iter
import HandS.Style
import HandS.Conv
import HandS.TupMul
import PyProof.Rows.CountFlat
import KE.DataCmp
import HandS.TupLe
import PyProof.Rows.SumAny
import KE.KDictSum
import HandS.Text
import KE.KRevSl
import PyProof.P3In
import KE.KExcIs
import KE.KExcStr
import HandS.ExcValue
import HandS.Codes
import HandS.ReplaceList
import KE.KExcLine
import PySem.Challenge.RW_fromparts_k00_errors_and_what_they_keep
set_option Elab.async false
set_option linter.all false
set_option maxRecDepth 100000
set_option maxHeartbeats 4000000
/-! FP1: a heap-free layer over HandS: data D, worlds, judgements whose readings speak of data alone. -/
namespace FP
open PySem L2
/-- a world: what never changes; what may change under all (the dice, the tables of code); the dice -/
structure Wd where
  H : Hp
  T : Addr → Prop
  Dc : Addr → Prop
/-- data without addresses (a lambda at hand is told by its place and the world at its making) -/
inductive D where
  | non | bl (b : Bool) | int (i : Int) | str (x : Str)
  | tup (xs : List D) | lst (xs : List D) | fz (xs : List D)
  | dct (kvs : List (Key × D)) | ins (c : Str) (fs : List (Str × D)) | tok | cl (c : Str)
  | fn (f : Addr) (W : Wd)
/-- the module: its names, the written part -/
structure Gm where
  mg : Str → Option Value
  K : PySem.W.Frag
/-- the tables of code, with the names of what is made there -/
class Tabl where
  B : List (Addr × Str)
variable [Tabl]
structure Le (W W' : Wd) : Prop where
  h : Same W.H W'.H
  t : ∀ a, W.T a → W'.T a
  dc : ∀ a, W.Dc a → W'.Dc a
theorem Le.refl (W : Wd) : Le W W := ⟨Same.refl _, fun _ h => h, fun _ h => h⟩
theorem Le.trans {W W1 W2 : Wd} (a : Le W W1) (b : Le W1 W2) : Le W W2 := ⟨a.h.trans b.h, fun x h => b.t x (a.t x h), fun x h => b.dc x (a.dc x h)⟩
mutual
inductive Rep (mg : Gm) (W : Wd) : V → D → Prop
  | non : Rep mg W .non .non
  | bl (b : Bool) : Rep mg W (.bl b) (.bl b)
  | int (i : Int) : Rep mg W (.int i) (.int i)
  | str (x : Str) : Rep mg W (.str x) (.str x)
  | tup {a : Addr} {vs : List V} {ds : List D} : W.H a = some (.tup vs) → Reps mg W vs ds → Rep mg W (.ref a) (.tup ds)
  | lst {a : Addr} {vs : List V} {ds : List D} : W.H a = some (.lst vs) → Reps mg W vs ds → Rep mg W (.ref a) (.lst ds)
  | fz {a : Addr} {vs : List V} {ds : List D} : SqL mg.K W.H a vs → Reps mg W vs ds → Rep mg W (.ref a) (.fz ds)
  | dct {a : Addr} {o : Obj} {kvs : List (Key × V)} {ds : List (Key × D)} : W.H a = some (.frz o (.dK kvs)) → kvs.map (·.1) = ds.map (·.1) → Reps mg W (kvs.map (·.2)) (ds.map (·.2)) → Rep mg W (.ref a) (.dct ds)
  | ins {a C dx : Addr} {fs : List (Str × V)} {c : Str} {ds : List (Str × D)} : mg.mg c = some (.ref C) → W.H a = some (.ins C dx fs) → fs.map (·.1) = ds.map (·.1) → Reps mg W (fs.map (·.2)) (ds.map (·.2)) → Rep mg W (.ref a) (.ins c ds)
  | tok {a : Addr} : W.Dc a → Rep mg W (.ref a) .tok
  | cl {C : Addr} {c : Str} : mg.mg c = some (.ref C) → Rep mg W (.ref C) (.cl c)
  | fn {f : Addr} {W0 : Wd} : Le W0 W → Rep mg W (.ref f) (.fn f W0)
inductive Reps (mg : Gm) (W : Wd) : List V → List D → Prop
  | nil : Reps mg W [] []
  | cons {v : V} {vs : List V} {d : D} {ds : List D} : Rep mg W v d → Reps mg W vs ds → Reps mg W (v :: vs) (d :: ds)
end
section
variable {mg : Gm} {W W' : Wd}
mutual
theorem Rep.mono (l : Le W W') : ∀ {v : V} {d : D}, Rep mg W v d → Rep mg W' v d
  | _, _, .non => .non
  | _, _, .bl b => .bl b
  | _, _, .int i => .int i
  | _, _, .str x => .str x
  | _, _, .tup h r => .tup (l.h _ _ h) (Reps.mono l r)
  | _, _, .lst h r => .lst (l.h _ _ h) (Reps.mono l r)
  | _, _, .fz h r => .fz (l.h.seq h) (Reps.mono l r)
  | _, _, .dct h e r => .dct (l.h _ _ h) e (Reps.mono l r)
  | _, _, .ins c h e r => .ins c (l.h _ _ h) e (Reps.mono l r)
  | _, _, .tok t => .tok (l.dc _ t)
  | _, _, .cl h => .cl h
  | _, _, .fn h => .fn (h.trans l)
theorem Reps.mono (l : Le W W') : ∀ {vs : List V} {ds : List D}, Reps mg W vs ds → Reps mg W' vs ds
  | _, _, .nil => .nil
  | _, _, .cons r t => .cons (Rep.mono l r) (Reps.mono l t)
end
theorem Reps.length : ∀ {vs : List V} {ds : List D}, Reps mg W vs ds → vs.length = ds.length
  | _, _, .nil => rfl
  | _, _, .cons _ t => congrArg (· + 1) (Reps.length t)
theorem Reps.append : ∀ {vs : List V} {ds : List D} {us : List V} {es : List D}, Reps mg W vs ds → Reps mg W us es → Reps mg W (vs ++ us) (ds ++ es)
  | _, _, _, _, .nil, s => s
  | _, _, _, _, .cons r t, s => .cons r (Reps.append t s)
theorem Reps.snoc {vs : List V} {ds : List D} {v : V} {d : D} (r : Reps mg W vs ds) (h : Rep mg W v d) : Reps mg W (vs ++ [v]) (ds ++ [d]) := r.append (.cons h .nil)
theorem Reps.get : ∀ {vs : List V} {ds : List D} {i : Nat} {d : D}, Reps mg W vs ds → ds[i]? = some d → ∃ v, vs[i]? = some v ∧ Rep mg W v d
  | _, _, _, _, .nil, e => by simp at e
  | _, _, 0, _, .cons r _, e => by
    simp at e
    subst e
    exact ⟨_, rfl, r⟩
  | _, _, i + 1, d, .cons _ t, e => by
    obtain ⟨v, h1, h2⟩ := Reps.get (i := i) (d := d) t (by simpa using e)
    exact ⟨v, by simpa using h1, h2⟩
theorem Reps.getV : ∀ {vs : List V} {ds : List D} {i : Nat} {v : V}, Reps mg W vs ds → vs[i]? = some v → ∃ d, ds[i]? = some d ∧ Rep mg W v d
  | _, _, _, _, .nil, e => by simp at e
  | _, _, 0, _, .cons r _, e => by
    simp at e
    subst e
    exact ⟨_, rfl, r⟩
  | _, _, i + 1, d, .cons _ t, e => by
    obtain ⟨v, h1, h2⟩ := Reps.getV (i := i) (v := d) t (by simpa using e)
    exact ⟨v, by simpa using h1, h2⟩
theorem Reps.drop : ∀ {vs : List V} {ds : List D} (n : Nat), Reps mg W vs ds → Reps mg W (vs.drop n) (ds.drop n)
  | _, _, 0, r => r
  | _, _, _ + 1, .nil => .nil
  | _, _, n + 1, .cons _ t => Reps.drop n t
theorem Reps.take : ∀ {vs : List V} {ds : List D} (n : Nat), Reps mg W vs ds → Reps mg W (vs.take n) (ds.take n)
  | _, _, 0, _ => .nil
  | _, _, _ + 1, .nil => .nil
  | _, _, n + 1, .cons r t => .cons r (Reps.take n t)
theorem Reps.eraseIdx : ∀ {vs : List V} {ds : List D} (n : Nat), Reps mg W vs ds → Reps mg W (vs.eraseIdx n) (ds.eraseIdx n)
  | _, _, _, .nil => .nil
  | _, _, 0, .cons _ t => t
  | _, _, n + 1, .cons r t => .cons r (Reps.eraseIdx n t)
theorem Reps.set : ∀ {vs : List V} {ds : List D} {v : V} {d : D} (n : Nat), Reps mg W vs ds → Rep mg W v d → Reps mg W (vs.set n v) (ds.set n d)
  | _, _, _, _, _, .nil, _ => .nil
  | _, _, _, _, 0, .cons _ t, h => .cons h t
  | _, _, _, _, n + 1, .cons r t, h => .cons r (Reps.set n t h)
theorem Reps.replicate {v : V} {d : D} (h : Rep mg W v d) : ∀ n, Reps mg W (List.replicate n v) (List.replicate n d)
  | 0 => .nil
  | n + 1 => .cons h (Reps.replicate h n)
theorem Reps.ints : ∀ (ns : List Int), Reps mg W (ns.map V.int) (ns.map D.int)
  | [] => .nil
  | n :: r => .cons (.int n) (Reps.ints r)
end
/-- the heap bears the world -/
structure Holds (W : Wd) (H : Hp) : Prop where
  same : Same W.H H
  exm : ∀ a, W.T a → W.H a = none ∧ ∃ o, H a = some o
  tok : ∀ a, W.Dc a → W.T a ∧ ∃ x y z, H a = some (.lst [.int x, .int y, .int z])
  tab : ∀ p ∈ Tabl.B, W.T p.1 ∧ LamX.TabS H p.1 p.2
  all : ∀ b ps, H b = some (.tbl ps) → ∃ q, (b, q) ∈ Tabl.B
/-- a new object of the unchanging part -/
def Wd.put (W : Wd) (p : Addr) (o : HO) : Wd := { W with H := upd W.H p o }
theorem Holds.nT {W : Wd} {H : Hp} (h : Holds W H) {p : Addr} (n : H p = none) : ¬ W.T p := fun t => by
  obtain ⟨_, o, e⟩ := h.exm p t
  rw [e] at n
  cases n
theorem Holds.lay {W : Wd} {H : Hp} (h : Holds W H) {p : Addr} {o : HO} (n : H p = none) (no : ∀ ps, o ≠ .tbl ps) : Holds W (upd H p o) := by
  have up : ∀ b u, H b = some u → upd H p o b = some u := fun b u e => by
    rw [upd_ne (ne_of_none e n)]
    exact e
  refine ⟨fun b u e => up b u (h.same b u e), fun a t => ?_, fun a t => ?_, fun q hq => ?_, fun b ps e => ?_⟩
  · obtain ⟨h1, u, h2⟩ := h.exm a t
    exact ⟨h1, u, up a u h2⟩
  · obtain ⟨h1, x, y, z, h2⟩ := h.tok a t
    exact ⟨h1, x, y, z, up a _ h2⟩
  · obtain ⟨h1, h2⟩ := h.tab q hq
    exact ⟨h1, h2.ext up⟩
  · by_cases hb : b = p
    · rw [hb, upd_same] at e
      exact absurd (Option.some.inj e) (no ps)
    · rw [upd_ne hb] at e
      exact h.all b ps e
theorem Holds.put {W : Wd} {H : Hp} (h : Holds W H) {p : Addr} {o : HO} (e : H p = some o) (nt : ¬ W.T p) : Holds (W.put p o) H := by
  refine ⟨fun b u q => ?_, fun a t => ?_, h.tok, h.tab, h.all⟩
  · by_cases hb : b = p
    · subst hb
      have q' : upd W.H b o b = some u := q
      rw [upd_same] at q'
      rw [e]
      exact q'
    · have q' : upd W.H p o b = some u := q
      rw [upd_ne hb] at q'
      exact h.same b u q'
  · have na : a ≠ p := fun q => nt (q ▸ t)
    obtain ⟨h1, r⟩ := h.exm a t
    refine ⟨?_, r⟩
    show upd W.H p o a = none
    rw [upd_ne na]
    exact h1
theorem Holds.own {W : Wd} {H : Hp} (h : Holds W H) {p : Addr} {o o' : HO} (e : H p = some o) (nw : W.H p = none) (nt : ¬ W.T p) (nx : ∀ φ, o ≠ .ext φ) (no : ∀ ps, o' ≠ .tbl ps) : Holds W (upd H p o') := by
  refine ⟨fun b u q => ?_, fun a t => ?_, fun a t => ?_, fun q hq => ?_, fun b ps q => ?_⟩
  · rw [upd_ne (ne_of_none q nw)]
    exact h.same b u q
  · have na : a ≠ p := fun q => nt (q ▸ t)
    obtain ⟨h1, u, h2⟩ := h.exm a t
    exact ⟨h1, u, by rw [upd_ne na]; exact h2⟩
  · obtain ⟨h1, x, y, z, h2⟩ := h.tok a t
    have na : a ≠ p := fun q => nt (q ▸ h1)
    exact ⟨h1, x, y, z, by rw [upd_ne na]; exact h2⟩
  · obtain ⟨h1, ps, h2, h3, h4⟩ := h.tab q hq
    have na : q.1 ≠ p := fun z => nt (z ▸ h1)
    refine ⟨h1, ps, by rw [upd_ne na]; exact h2, h3, fun pos cv hc => ?_⟩
    obtain ⟨c, e1, e2⟩ := h4 pos cv hc
    refine ⟨c, e1, ?_⟩
    have nc : c ≠ p := fun z => by
      rw [z, e] at e2
      exact nx _ (Option.some.inj e2)
    rw [upd_ne nc]
    exact e2
  · by_cases hb : b = p
    · rw [hb, upd_same] at q
      exact absurd (Option.some.inj q) (no ps)
    · rw [upd_ne hb] at q
      exact h.all b ps q
structure Step (W : Wd) (H : Hp) (W' : Wd) (H' : Hp) : Prop where
  le : Le W W'
  holds : Holds W' H'
  keep : ∀ b o, H b = some o → ¬ W.T b → H' b = some o
  fresh : ∀ b o, H b = some o → W'.H b = W.H b
  freshT : ∀ b, W'.T b → W.T b ∨ H b = none
  live : ∀ b o, H b = some o → ∃ o', H' b = some o'
theorem Step.refl {W : Wd} {H : Hp} (h : Holds W H) : Step W H W H :=
  ⟨Le.refl W, h, fun _ _ e _ => e, fun _ _ _ => rfl, fun _ t => .inl t, fun _ o e => ⟨o, e⟩⟩
theorem Step.trans {W W1 W2 : Wd} {H H1 H2 : Hp} (a : Step W H W1 H1) (b : Step W1 H1 W2 H2) : Step W H W2 H2 where
  le := a.le.trans b.le
  holds := b.holds
  keep := fun c o e n => by
    refine b.keep c o (a.keep c o e n) fun t => ?_
    rcases a.freshT c t with t | t
    · exact n t
    · rw [e] at t
      cases t
  fresh := fun c o e => by
    obtain ⟨o', e'⟩ := a.live c o e
    rw [b.fresh c o' e', a.fresh c o e]
  freshT := fun c t => by
    rcases b.freshT c t with t | t
    · exact a.freshT c t
    · refine .inr ?_
      cases q : H c with
      | none => rfl
      | some o =>
        obtain ⟨o', e'⟩ := a.live c o q
        rw [e'] at t
        cases t
  live := fun c o e => by
    obtain ⟨o', e'⟩ := a.live c o e
    exact b.live c o' e'
/-- from the same heap on, with a later world -/
theorem Step.rebase {W W1 : Wd} {H H1 : Hp} (a : Step W H W1 H1) : Step W1 H W1 H1 :=
  ⟨Le.refl W1, a.holds, fun b o e n => a.keep b o e fun t => n (a.le.t b t), fun _ _ _ => rfl, fun _ t => .inl t, a.live⟩
theorem Step.join {W W1 W2 : Wd} {H H1 H2 : Hp} (a : Step W H W1 H1) (b : Step W1 H W2 H2) : Step W H W2 H2 where
  le := a.le.trans b.le
  holds := b.holds
  keep := fun c o e n => b.keep c o e fun t => by
    rcases a.freshT c t with t | t
    · exact n t
    · rw [e] at t
      cases t
  fresh := fun c o e => (b.fresh c o e).trans (a.fresh c o e)
  freshT := fun c t => by
    rcases b.freshT c t with t | t
    · exact a.freshT c t
    · exact .inr t
  live := b.live
theorem Wd.put_le {W : Wd} {p : Addr} {o : HO} (nw : W.H p = none) : Le W (W.put p o) := ⟨fun b u e => by
  show upd W.H p o b = some u
  rw [upd_ne (ne_of_none e nw)]
  exact e, fun _ t => t, fun _ t => t⟩
theorem Step.alloc {W : Wd} {H : Hp} (h : Holds W H) {p : Addr} {o : HO} (n : H p = none) (no : ∀ ps, o ≠ .tbl ps := by intro _ h; cases h) : Step W H (W.put p o) (upd H p o) := by
  have nw : W.H p = none := h.same.free n
  refine ⟨Wd.put_le nw, (h.lay n no).put upd_same (h.nT n), fun b u e _ => ?_, fun b u e => ?_, fun b t => .inl t, fun b u e => ?_⟩
  · rw [upd_ne (ne_of_none e n)]
    exact e
  · show upd W.H p o b = W.H b
    rw [upd_ne (ne_of_none e n)]
  · exact ⟨u, by rw [upd_ne (ne_of_none e n)]; exact e⟩
/-- a new object beside the world (owned) -/
theorem Step.lay {W : Wd} {H : Hp} (h : Holds W H) {p : Addr} {o : HO} (n : H p = none) (no : ∀ ps, o ≠ .tbl ps := by intro _ h; cases h) : Step W H W (upd H p o) := by
  refine ⟨Le.refl W, h.lay n no, fun b u e _ => ?_, fun _ _ _ => rfl, fun b t => .inl t, fun b u e => ?_⟩
  · rw [upd_ne (ne_of_none e n)]
    exact e
  · exact ⟨u, by rw [upd_ne (ne_of_none e n)]; exact e⟩
/-- an owned thing is taken into the world -/
theorem Step.take {W : Wd} {H : Hp} (h : Holds W H) {p : Addr} {o : HO} (e : H p = some o) (nw : W.H p = none) (nt : ¬ W.T p) : Le W (W.put p o) ∧ Holds (W.put p o) H := ⟨Wd.put_le nw, h.put e nt⟩
/-- a step that ends with the taking in of an object that was not there at its start -/
theorem Step.taken {W W1 : Wd} {H H1 : Hp} (s : Step W H W1 H1) {p : Addr} {o : HO} (n : H p = none) (e : H1 p = some o) (nw : W1.H p = none) (nt : ¬ W1.T p) : Step W H (W1.put p o) H1 := by
  obtain ⟨l, h⟩ := Step.take s.holds e nw nt
  refine ⟨s.le.trans l, h, s.keep, fun b u q => ?_, s.freshT, s.live⟩
  show upd W1.H p o b = W.H b
  rw [upd_ne (ne_of_none q n)]
  exact s.fresh b u q
/-- an owned thing is changed -/
theorem Step.own {W W1 : Wd} {H H1 : Hp} (s : Step W H W1 H1) {p : Addr} {o o' : HO} (n : H p = none) (e : H1 p = some o) (nw : W1.H p = none) (nt : ¬ W1.T p) (nx : ∀ φ, o ≠ .ext φ := by intro _ h; cases h) (no : ∀ ps, o' ≠ .tbl ps := by intro _ h; cases h) : Step W H W1 (upd H1 p o') := by
  refine ⟨s.le, s.holds.own e nw nt nx no, fun b u q nq => ?_, s.fresh, s.freshT, fun b u q => ?_⟩
  · rw [upd_ne (ne_of_none q n)]
    exact s.keep b u q nq
  · by_cases hb : b = p
    · rw [hb]
      exact ⟨_, upd_same⟩
    · rw [upd_ne hb]
      exact s.live b u q
/-- a field of an owned object: a datum, an owned list, an owned list of owned lists -/
inductive OF where
  | d (x : D) | l (xs : List D) | ll (xss : List (List D))
/-- own lists in an own list, or in an own dict -/
inductive O2 where
  | ll (xss : List (List D)) | dl (kvs : List (Key × List D))
/-- a local name's place: nothing, a datum, a list that is this def's own, an object that is this def's own, an owned object whose fields may be owned lists (its addresses told) -/
inductive Sl where
  | no | d (x : D) | own (xs : List D) | ob (c : Str) (a : Addr) (fs : List (Str × D)) | ow (c : Str) (as : List Addr) (fs : List (Str × OF))
  | exc (a : Addr) (cls : Value) (d : Option Addr) (c : Str) (fs : List (Str × D))
  | od (kvs : List (Key × D))
  | o2 (as : List Addr) (x : O2)
abbrev Env := List Sl
/-- the addresses that a place owns -/
def Sl.fp (o : Option V) : Sl → List Addr
  | .own _ => match o with
    | some (.ref a) => [a]
    | _ => []
  | .od _ => match o with
    | some (.ref a) => [a]
    | _ => []
  | .ob _ a _ => [a]
  | .ow _ as _ => as
  | .o2 as _ => as
  | _ => []
/-- the inner lists -/
def Inn (mg : Gm) (W : Wd) (H : Hp) (Ls : List Addr) (xss : List (List D)) : Prop :=
  Ls.length = xss.length ∧ ∀ (i : Nat) (l : Addr) (xs : List D), Ls[i]? = some l → xss[i]? = some xs → ∃ vs, H l = some (.lst vs) ∧ Reps mg W vs xs
def O2R (mg : Gm) (W : Wd) (H : Hp) (a : Addr) (Ls : List Addr) : O2 → Prop
  | .ll xss => H a = some (.lst (Ls.map V.ref)) ∧ Inn mg W H Ls xss
  | .dl kvs => H a = some (.dK ((kvs.map (·.1)).zip (Ls.map V.ref))) ∧ Inn mg W H Ls (kvs.map (·.2))
/-- an owned field, with its addresses -/
def OFR (mg : Gm) (W : Wd) (H : Hp) (v : V) : OF → List Addr → Prop
  | .d x, as => as = [] ∧ Rep mg W v x
  | .l xs, as => ∃ L vs, as = [L] ∧ v = .ref L ∧ H L = some (.lst vs) ∧ Reps mg W vs xs
  | .ll xss, as => ∃ L Ls, as = L :: Ls ∧ v = .ref L ∧ H L = some (.lst (Ls.map V.ref)) ∧ Ls.length = xss.length ∧ ∀ (i : Nat) (l : Addr) (xs : List D), Ls[i]? = some l → xss[i]? = some xs → ∃ vs, H l = some (.lst vs) ∧ Reps mg W vs xs
def OFs (mg : Gm) (W : Wd) (H : Hp) : List (Str × V) → List (Str × OF) → List Addr → Prop
  | [], [], as => as = []
  | (f, v) :: vs, (g, x) :: fs, as => f = g ∧ ∃ as1 as2, as = as1 ++ as2 ∧ OFR mg W H v x as1 ∧ OFs mg W H vs fs as2
  | _, _, _ => False
/-- an exception's class and its dict -/
def ExcR (mg : Gm) (W : Wd) (cls : Value) (dd : Option Addr) (c : Str) (fs : List (Str × D)) : Prop :=
  ∃ C, mg.mg c = some (.ref C) ∧ cls = .ref C ∧ ((fs = [] ∧ dd = none) ∨ ∃ a vs, dd = some a ∧ W.H a = some (.xd vs) ∧ vs.map (·.1) = fs.map (·.1) ∧ Reps mg W (vs.map (·.2)) (fs.map (·.2)))
theorem ExcR.mono {mg : Gm} {W W' : Wd} {cls : Value} {dd : Option Addr} {c : Str} {fs : List (Str × D)} (h : ExcR mg W cls dd c fs) (l : Le W W') : ExcR mg W' cls dd c fs := by
  obtain ⟨C, h1, h2, h | ⟨a, vs, h3, h4, h5, h6⟩⟩ := h
  · exact ⟨C, h1, h2, .inl h⟩
  · exact ⟨C, h1, h2, .inr ⟨a, vs, h3, l.h _ _ h4, h5, h6.mono l⟩⟩
def SlR (mg : Gm) (B : Hp) (W : Wd) (H : Hp) (o : Option V) : Sl → Prop
  | .no => True
  | .exc a cls d c fs => o = some (.ref a) ∧ ExcR mg W cls d c fs
  | .d x => ∃ v, o = some v ∧ Rep mg W v x
  | .own xs => ∃ a vs, o = some (.ref a) ∧ H a = some (.lst vs) ∧ W.H a = none ∧ ¬ W.T a ∧ B a = none ∧ Reps mg W vs xs
  | .od kvs => ∃ a vs, o = some (.ref a) ∧ H a = some (.dK vs) ∧ W.H a = none ∧ ¬ W.T a ∧ B a = none ∧ vs.map (·.1) = kvs.map (·.1) ∧ Reps mg W (vs.map (·.2)) (kvs.map (·.2))
  | .ob c a fs => ∃ vs, o = some (.ref a) ∧ (∃ C dx, mg.mg c = some (.ref C) ∧ H a = some (.ins C dx vs)) ∧ W.H a = none ∧ ¬ W.T a ∧ B a = none ∧ vs.map (·.1) = fs.map (·.1) ∧ Reps mg W (vs.map (·.2)) (fs.map (·.2))
  | .ow c as fs => ∃ a as' vs, as = a :: as' ∧ o = some (.ref a) ∧ (∃ C dx, mg.mg c = some (.ref C) ∧ H a = some (.ins C dx vs)) ∧ OFs mg W H vs fs as' ∧ as.Nodup ∧ ∀ b ∈ as, (∃ u, H b = some u) ∧ W.H b = none ∧ ¬ W.T b ∧ B b = none
  | .o2 as x => ∃ a Ls, as = a :: Ls ∧ o = some (.ref a) ∧ O2R mg W H a Ls x ∧ as.Nodup ∧ ∀ b ∈ as, (∃ u, H b = some u) ∧ W.H b = none ∧ ¬ W.T b ∧ B b = none
structure EnvR (mg : Gm) (B : Hp) (W : Wd) (H : Hp) (σ : St) (ρ : Env) : Prop where
  len : σ.length = ρ.length
  sl : ∀ (i : Nat) (s : Sl), ρ[i]? = some s → ∃ o, σ[i]? = some o ∧ SlR mg B W H o s
  dis : ∀ (i j : Nat) (s t : Sl) (o o' : Option V) (a : Addr), i ≠ j → ρ[i]? = some s → ρ[j]? = some t → σ[i]? = some o → σ[j]? = some o' → a ∈ s.fp o → a ∈ t.fp o' → False
section
variable {mg : Gm} {B : Hp} {W W' : Wd} {H H' : Hp} {σ : St} {ρ : Env}
/-- what is mine has addresses of its own -/
theorem SlR.at {o : Option V} {s : Sl} (h : SlR mg B W H o s) {a : Addr} (m : a ∈ s.fp o) : ∃ u, H a = some u ∧ W.H a = none ∧ ¬ W.T a ∧ B a = none := by
  cases s with
  | no => cases m
  | exc => cases m
  | d x => cases m
  | own xs =>
    obtain ⟨b, vs, h1, h2, h3, h4, h5, _⟩ := h
    subst h1
    obtain rfl := List.mem_singleton.mp m
    exact ⟨_, h2, h3, h4, h5⟩
  | od xs =>
    obtain ⟨b, vs, h1, h2, h3, h4, h5, _⟩ := h
    subst h1
    obtain rfl := List.mem_singleton.mp m
    exact ⟨_, h2, h3, h4, h5⟩
  | ob c b fs =>
    obtain ⟨vs, h1, ⟨C, dx, _, h2⟩, h3, h4, h5, _⟩ := h
    obtain rfl := List.mem_singleton.mp m
    exact ⟨_, h2, h3, h4, h5⟩
  | ow c as fs =>
    obtain ⟨b, as', vs, _, _, _, _, _, k⟩ := h
    obtain ⟨⟨u, hu⟩, k⟩ := k a m
    exact ⟨u, hu, k⟩
  | o2 as x =>
    obtain ⟨b, Ls, _, _, _, _, k⟩ := h
    obtain ⟨⟨u, hu⟩, k⟩ := k a m
    exact ⟨u, hu, k⟩
theorem Inn.keep {Ls : List Addr} {xss : List (List D)} (h : Inn mg W H Ls xss) (l : Le W W') (k : ∀ b ∈ Ls, ∀ u, H b = some u → H' b = some u) : Inn mg W' H' Ls xss := ⟨h.1, fun i b xs q1 q2 => by
  obtain ⟨vs, g1, g2⟩ := h.2 i b xs q1 q2
  exact ⟨vs, k b (List.mem_of_getElem? q1) _ g1, g2.mono l⟩⟩
theorem O2R.keep {a : Addr} {Ls : List Addr} {x : O2} (h : O2R mg W H a Ls x) (l : Le W W') (k : ∀ b ∈ a :: Ls, ∀ u, H b = some u → H' b = some u) : O2R mg W' H' a Ls x := by
  cases x with
  | ll xss => exact ⟨k a List.mem_cons_self _ h.1, h.2.keep l fun b hb => k b (List.mem_cons_of_mem _ hb)⟩
  | dl kvs => exact ⟨k a List.mem_cons_self _ h.1, h.2.keep l fun b hb => k b (List.mem_cons_of_mem _ hb)⟩
theorem OFR.keep {v : V} {x : OF} {as : List Addr} (h : OFR mg W H v x as) (l : Le W W') (k : ∀ b ∈ as, ∀ u, H b = some u → H' b = some u) : OFR mg W' H' v x as := by
  cases x with
  | d x => exact ⟨h.1, h.2.mono l⟩
  | l xs =>
    obtain ⟨L, vs, rfl, h2, h3, h4⟩ := h
    exact ⟨L, vs, rfl, h2, k L (by simp) _ h3, h4.mono l⟩
  | ll xss =>
    obtain ⟨L, Ls, rfl, h2, h3, h4, h5⟩ := h
    refine ⟨L, Ls, rfl, h2, k L (by simp) _ h3, h4, fun i b xs q1 q2 => ?_⟩
    obtain ⟨vs, g1, g2⟩ := h5 i b xs q1 q2
    exact ⟨vs, k b (List.mem_cons_of_mem _ (List.mem_of_getElem? q1)) _ g1, g2.mono l⟩
theorem OFs.keep : ∀ {vs : List (Str × V)} {fs : List (Str × OF)} {as : List Addr}, OFs mg W H vs fs as → Le W W' → (∀ b ∈ as, ∀ u, H b = some u → H' b = some u) → OFs mg W' H' vs fs as
  | [], [], _, h, _, _ => h
  | _ :: _, _ :: _, _, ⟨e, as1, as2, rfl, h1, h2⟩, l, k => ⟨e, as1, as2, rfl, h1.keep l fun b hb => k b (List.mem_append_left _ hb), OFs.keep h2 l fun b hb => k b (List.mem_append_right _ hb)⟩
  | [], _ :: _, _, h, _, _ => h.elim
  | _ :: _, [], _, h, _, _ => h.elim
/-- a place is kept: the world grows, what is mine stands as it stood -/
theorem SlR.keep {o : Option V} {s : Sl} (h : SlR mg B W H o s) (l : Le W W') (k : ∀ a ∈ s.fp o, ∀ u, H a = some u → W.H a = none → ¬ W.T a → H' a = some u ∧ W'.H a = none ∧ ¬ W'.T a) : SlR mg B W' H' o s := by
  cases s with
  | no => exact True.intro
  | exc => exact ⟨h.1, h.2.mono l⟩
  | d x =>
    obtain ⟨v, q, r⟩ := h
    exact ⟨v, q, r.mono l⟩
  | own xs =>
    obtain ⟨a, vs, h1, h2, h3, h4, h5, r⟩ := h
    subst h1
    obtain ⟨k1, k2, k3⟩ := k a (List.mem_singleton.mpr rfl) _ h2 h3 h4
    exact ⟨a, vs, rfl, k1, k2, k3, h5, r.mono l⟩
  | od xs =>
    obtain ⟨a, vs, h1, h2, h3, h4, h5, hk, r⟩ := h
    subst h1
    obtain ⟨k1, k2, k3⟩ := k a (List.mem_singleton.mpr rfl) _ h2 h3 h4
    exact ⟨a, vs, rfl, k1, k2, k3, h5, hk, r.mono l⟩
  | ob c a fs =>
    obtain ⟨vs, h1, ⟨C, dx, hc, h2⟩, h3, h4, h5, hk, r⟩ := h
    obtain ⟨k1, k2, k3⟩ := k a (List.mem_singleton.mpr rfl) _ h2 h3 h4
    exact ⟨vs, h1, ⟨C, dx, hc, k1⟩, k2, k3, h5, hk, r.mono l⟩
  | ow c as fs =>
    obtain ⟨a, as', vs, rfl, h1, ⟨C, dx, hc, h2⟩, h3, h4, h5⟩ := h
    have kk : ∀ b ∈ a :: as', ∀ u, H b = some u → H' b = some u ∧ W'.H b = none ∧ ¬ W'.T b := fun b hb u hu => k b hb u hu (h5 b hb).2.1 (h5 b hb).2.2.1
    refine ⟨a, as', vs, rfl, h1, ⟨C, dx, hc, (kk a List.mem_cons_self _ h2).1⟩, h3.keep l fun b hb u hu => (kk b (List.mem_cons_of_mem _ hb) u hu).1, h4, fun b hb => ?_⟩
    obtain ⟨⟨u, hu⟩, _, _, g4⟩ := h5 b hb
    obtain ⟨k1, k2, k3⟩ := kk b hb u hu
    exact ⟨⟨u, k1⟩, k2, k3, g4⟩
  | o2 as x =>
    obtain ⟨a, Ls, rfl, h1, h3, h4, h5⟩ := h
    have kk : ∀ b ∈ a :: Ls, ∀ u, H b = some u → H' b = some u ∧ W'.H b = none ∧ ¬ W'.T b := fun b hb u hu => k b hb u hu (h5 b hb).2.1 (h5 b hb).2.2.1
    refine ⟨a, Ls, rfl, h1, h3.keep l fun b hb u hu => (kk b hb u hu).1, h4, fun b hb => ?_⟩
    obtain ⟨⟨u, hu⟩, _, _, g4⟩ := h5 b hb
    obtain ⟨k1, k2, k3⟩ := kk b hb u hu
    exact ⟨⟨u, k1⟩, k2, k3, g4⟩
theorem Step.mine {a : Addr} {u : HO} (s : Step W H W' H') (h2 : H a = some u) (h3 : W.H a = none) (h4 : ¬ W.T a) : H' a = some u ∧ W'.H a = none ∧ ¬ W'.T a := by
  refine ⟨s.keep a _ h2 h4, ?_, fun t => ?_⟩
  · rw [s.fresh a _ h2]
    exact h3
  · rcases s.freshT a t with t | t
    · exact h4 t
    · rw [h2] at t
      cases t
theorem EnvR.step (e : EnvR mg B W H σ ρ) (s : Step W H W' H') : EnvR mg B W' H' σ ρ := by
  refine ⟨e.len, fun i sl h => ?_, e.dis⟩
  obtain ⟨o, h1, h2⟩ := e.sl i sl h
  exact ⟨o, h1, h2.keep s.le fun a _ u h2 h3 h4 => s.mine h2 h3 h4⟩
theorem EnvR.get (e : EnvR mg B W H σ ρ) {i : Nat} {x : D} (h : ρ[i]? = some (.d x)) : ∃ v, σ[i]? = some (some v) ∧ Rep mg W v x := by
  obtain ⟨o, h1, v, q, r⟩ := e.sl i _ h
  exact ⟨v, by rw [h1, q], r⟩
theorem get_set {α : Type} {l : List α} {i j : Nat} {x y : α} (h : (l.set i x)[j]? = some y) : (i = j ∧ x = y) ∨ (i ≠ j ∧ l[j]? = some y) := by
  by_cases e : i = j
  · subst e
    refine .inl ⟨rfl, ?_⟩
    rw [List.getElem?_set_self'] at h
    cases q : l[i]? with
    | none =>
      rw [q] at h
      cases h
    | some z =>
      rw [q] at h
      exact Option.some.inj h
  · rw [List.getElem?_set_ne e] at h
    exact .inr ⟨e, h⟩
/-- a place is stored -/
theorem EnvR.put (e : EnvR mg B W H σ ρ) {i : Nat} {o : Option V} {s : Sl} (n : s.fp o = []) (r : SlR mg B W H o s) : EnvR mg B W H (σ.set i o) (ρ.set i s) := by
  refine ⟨by simpa using e.len, fun j t h => ?_, fun j k s1 s2 o1 o2 a hjk h1 h2 h3 h4 m1 m2 => ?_⟩
  · rcases get_set h with ⟨rfl, rfl⟩ | ⟨nj, h⟩
    · have hl : i < ρ.length := by simpa using (List.getElem?_eq_some_iff.mp h).1
      exact ⟨o, by rw [List.getElem?_set_self (by rw [e.len]; exact hl)], r⟩
    · obtain ⟨o', h1, h2⟩ := e.sl j t h
      exact ⟨o', by rw [List.getElem?_set_ne nj]; exact h1, h2⟩
  · rcases get_set h1 with ⟨e1, z⟩ | ⟨n1, h1⟩
    · rcases get_set h3 with ⟨_, z'⟩ | ⟨q, _⟩
      · rw [← z, ← z', n] at m1
        cases m1
      · exact q e1
    · rcases get_set h2 with ⟨e2, z⟩ | ⟨n2, h2⟩
      · rcases get_set h4 with ⟨_, z'⟩ | ⟨q, _⟩
        · rw [← z, ← z', n] at m2
          cases m2
        · exact q e2
      · rw [List.getElem?_set_ne n1] at h3
        rw [List.getElem?_set_ne n2] at h4
        exact e.dis j k s1 s2 o1 o2 a hjk h1 h2 h3 h4 m1 m2
/-- nothing is said of any place -/
def noEnv (ρ : Env) : Env := ρ.map fun _ => Sl.no
theorem EnvR.set (e : EnvR mg B W H σ ρ) {i : Nat} {v : V} {x : D} (r : Rep mg W v x) : EnvR mg B W H (σ.set i (some v)) (ρ.set i (.d x)) := e.put rfl ⟨v, rfl, r⟩
theorem EnvR.no (e : EnvR mg B W H σ ρ) {i : Nat} {o : Option V} : EnvR mg B W H (σ.set i o) (ρ.set i .no) := e.put rfl True.intro
/-- new things of one's own at a place -/
theorem EnvR.news (e : EnvR mg B W H σ ρ) {i : Nat} {o : Option V} {s : Sl} (st : Step W H W H') (n : ∀ a ∈ s.fp o, H a = none) (r : SlR mg B W H' o s) : EnvR mg B W H' (σ.set i o) (ρ.set i s) := by
  have e1 := e.step st
  have old : ∀ (j : Nat) (t : Sl) (o' : Option V) (b : Addr), ρ[j]? = some t → σ[j]? = some o' → b ∈ t.fp o' → b ∈ s.fp o → False := fun j t o' b h1 h2 m m' => by
    obtain ⟨o2, h3, h4⟩ := e.sl j _ h1
    rw [h2] at h3
    cases h3
    obtain ⟨u', h6, _⟩ := h4.at m
    rw [n b m'] at h6
    cases h6
  refine ⟨by simpa using e.len, fun j sl hj => ?_, fun j k s1 s2 o1 o2 a hjk h1 h2 h3 h4 m1 m2 => ?_⟩
  · rcases get_set hj with ⟨rfl, rfl⟩ | ⟨nj, hj⟩
    · have hl : i < ρ.length := by simpa using (List.getElem?_eq_some_iff.mp hj).1
      exact ⟨o, by rw [List.getElem?_set_self (by rw [e.len]; exact hl)], r⟩
    · obtain ⟨o', h1, h2⟩ := e1.sl j sl hj
      exact ⟨o', by rw [List.getElem?_set_ne nj]; exact h1, h2⟩
  · rcases get_set h1 with ⟨e1, z1⟩ | ⟨n1, h1⟩
    · rcases get_set h2 with ⟨q, _⟩ | ⟨n2, h2⟩
      · exact hjk (e1.symm.trans q)
      · rw [List.getElem?_set_ne n2] at h4
        rcases get_set h3 with ⟨_, q⟩ | ⟨q, _⟩
        · rw [← z1, ← q] at m1
          exact old k s2 o2 a h2 h4 m2 m1
        · exact q e1
    · rcases get_set h2 with ⟨e2, z2⟩ | ⟨n2, h2⟩
      · rw [List.getElem?_set_ne n1] at h3
        rcases get_set h4 with ⟨_, q⟩ | ⟨q, _⟩
        · rw [← z2, ← q] at m2
          exact old j s1 o1 a h1 h3 m1 m2
        · exact q e2
      · rw [List.getElem?_set_ne n1] at h3
        rw [List.getElem?_set_ne n2] at h4
        exact e.dis j k s1 s2 o1 o2 a hjk h1 h2 h3 h4 m1 m2
/-- a new list of one's own -/
theorem EnvR.setOwn (e : EnvR mg B W H σ ρ) (h : Holds W H) {i : Nat} {p : Addr} {vs : List V} {xs : List D} (n : H p = none) (nb : B p = none) (r : Reps mg W vs xs) : EnvR mg B W (upd H p (.lst vs)) (σ.set i (some (.ref p))) (ρ.set i (.own xs)) :=
  e.news (Step.lay h n) (fun a ha => by obtain rfl := List.mem_singleton.mp ha; exact n) ⟨p, vs, rfl, upd_same, h.same.free n, h.nT n, nb, r⟩
/-- what is mine at a place is changed, or another thing is said of the place: the heap differs at its addresses alone; new ones are new -/
theorem EnvR.turns (e : EnvR mg B W H σ ρ) {i : Nat} {o : Option V} {s s' : Sl} (hi : ρ[i]? = some s) (hs : σ[i]? = some o) (hH : ∀ b u, H b = some u → b ∉ s.fp o → H' b = some u) (hn : ∀ a ∈ s'.fp o, a ∈ s.fp o ∨ H a = none) (r : SlR mg B W H' o s') : EnvR mg B W H' σ (ρ.set i s') := by
  have off : ∀ (j : Nat) (t : Sl) (o' : Option V) (b : Addr), j ≠ i → ρ[j]? = some t → σ[j]? = some o' → b ∈ t.fp o' → b ∈ s'.fp o → False := fun j t o' b nj h1 h2 m m' => by
    rcases hn b m' with z | z
    · exact e.dis j i t s o' o b nj h1 hi h2 hs m z
    · obtain ⟨o2, h3, h4⟩ := e.sl j _ h1
      rw [h2] at h3
      cases h3
      obtain ⟨u', h6, _⟩ := h4.at m
      rw [z] at h6
      cases h6
  refine ⟨by simpa using e.len, fun j sl hj => ?_, fun j k s1 s2 o1 o2 a hjk h1 h2 h3 h4 m1 m2 => ?_⟩
  · rcases get_set hj with ⟨rfl, rfl⟩ | ⟨nj, hj⟩
    · exact ⟨_, hs, r⟩
    · obtain ⟨o', h1, h2⟩ := e.sl j sl hj
      exact ⟨o', h1, h2.keep (Le.refl W) fun a ha u h5 h6 h7 => ⟨hH a u h5 fun z => e.dis i j s sl o o' a nj hi hj hs h1 z ha, h6, h7⟩⟩
  · rcases get_set h1 with ⟨e1, z1⟩ | ⟨n1, h1⟩
    · rcases get_set h2 with ⟨q, _⟩ | ⟨n2, h2⟩
      · exact hjk (e1.symm.trans q)
      · subst e1
        rw [hs] at h3
        cases h3
        rw [← z1] at m1
        exact off k s2 o2 a (Ne.symm n2) h2 h4 m2 m1
    · rcases get_set h2 with ⟨e2, z2⟩ | ⟨n2, h2⟩
      · subst e2
        rw [hs] at h4
        cases h4
        rw [← z2] at m2
        exact off j s1 o1 a (Ne.symm n1) h1 h3 m1 m2
      · exact e.dis j k s1 s2 o1 o2 a hjk h1 h2 h3 h4 m1 m2
/-- one address of one's own is changed -/
theorem EnvR.turn (e : EnvR mg B W H σ ρ) {i : Nat} {p : Addr} {u : HO} {o : Option V} {s s' : Sl} (hi : ρ[i]? = some s) (hs : σ[i]? = some o) (m : p ∈ s.fp o) (hf : ∀ a ∈ s'.fp o, a ∈ s.fp o) (r : SlR mg B W (upd H p u) o s') : EnvR mg B W (upd H p u) σ (ρ.set i s') :=
  e.turns hi hs (fun b u' h n => by
    have ne : b ≠ p := fun q => n (by rw [q]; exact m)
    rw [upd_ne ne]
    exact h) (fun a ha => .inl (hf a ha)) r
/-- one's own list is changed -/
theorem EnvR.own (e : EnvR mg B W H σ ρ) {i : Nat} {p : Addr} {us vs : List V} {xs ys : List D} (hi : ρ[i]? = some (.own xs)) (hs : σ[i]? = some (some (.ref p))) (r : Reps mg W vs ys) : EnvR mg B W (upd H p (.lst vs)) σ (ρ.set i (.own ys)) := by
  obtain ⟨o, h1, h2⟩ := e.sl i _ hi
  rw [hs] at h1
  cases h1
  obtain ⟨u, h4, h5, h6, h7⟩ := h2.at (a := p) (List.mem_singleton.mpr rfl)
  exact e.turn hi hs (List.mem_singleton.mpr rfl) (fun _ h => h) ⟨p, vs, rfl, upd_same, h5, h6, h7, r⟩
/-- what is mine is handed to the world -/
theorem EnvR.give (e : EnvR mg B W H σ ρ) (h : Holds W H) {i : Nat} {p : Addr} {u : HO} {s : Sl} {x : D} (hi : ρ[i]? = some s) (hs : σ[i]? = some (some (.ref p))) (m : p ∈ s.fp (some (.ref p))) (hu : H p = some u) (hw : W.H p = none) (ht : ¬ W.T p) (r : Rep mg (W.put p u) (.ref p) x) : EnvR mg B (W.put p u) H σ (ρ.set i (.d x)) := by
  obtain ⟨l, hh⟩ := Step.take h hu hw ht
  refine ⟨by simpa using e.len, fun j sl hj => ?_, fun j k s1 s2 o1 o2 a hjk q1 q2 q3 q4 m1 m2 => ?_⟩
  · rcases get_set hj with ⟨rfl, rfl⟩ | ⟨nj, hj⟩
    · exact ⟨_, hs, _, rfl, r⟩
    · obtain ⟨o, g1, g2⟩ := e.sl j sl hj
      refine ⟨o, g1, g2.keep l fun a ha u' h5 h6 h7 => ⟨h5, ?_, h7⟩⟩
      show upd W.H p _ a = none
      have ne : a ≠ p := fun q => e.dis i j s sl _ o p nj hi hj hs g1 m (by rw [← q]; exact ha)
      rw [upd_ne ne]
      exact h6
  · rcases get_set q1 with ⟨_, z⟩ | ⟨n1, q1⟩
    · rw [← z] at m1
      cases m1
    · rcases get_set q2 with ⟨_, z⟩ | ⟨n2, q2⟩
      · rw [← z] at m2
        cases m2
      · exact e.dis j k s1 s2 o1 o2 a hjk q1 q2 q3 q4 m1 m2
/-- one's own list is handed to the world -/
theorem EnvR.freeze (e : EnvR mg B W H σ ρ) (h : Holds W H) {i : Nat} {xs : List D} (hi : ρ[i]? = some (.own xs)) :
    ∃ p vs, σ[i]? = some (some (.ref p)) ∧ H p = some (.lst vs) ∧ W.H p = none ∧ ¬ W.T p ∧ B p = none ∧ Reps mg W vs xs ∧ EnvR mg B (W.put p (.lst vs)) H σ (ρ.set i (.d (.lst xs))) := by
  obtain ⟨o, h1, p, vs, h2, h3, h4, h5, h6, r⟩ := e.sl i _ hi
  subst h2
  obtain ⟨l, hh⟩ := Step.take h h3 h4 h5
  exact ⟨p, vs, h1, h3, h4, h5, h6, r, e.give h hi h1 (List.mem_singleton.mpr rfl) h3 h4 h5 (.lst (show upd W.H p (.lst vs) p = _ from upd_same) (r.mono l))⟩
end
end FP
/-! FP2: judgements over data: expressions, tests, arguments, statements; a def's promise. -/
namespace FP
open PySem L2
variable [Tabl]
/-- an exception as a datum -/
structure XD where
  cls : Str
  fs : List (Str × D)
abbrev M (α : Type) := (α → Prop) → (XD → Prop) → Prop
abbrev DTE := Env → M D
abbrev DTT := Env → M Bool
abbrev DTA := Env → M (List D)
abbrev DTI := Env → M (List D)
structure Nd where
  nx : Env → Prop
  rt : D → Env → Prop
  bk : Env → Prop
  ct : Env → Prop
  rs : XD → Env → Prop
abbrev DTS := Nd → Env → Prop
abbrev F0 : XD → Prop := fun _ => False
abbrev Wx0 : WX := fun _ _ _ _ => False
def RepX (mg : Gm) (W : Wd) (_H : Hp) (cls : Value) (dd : Option Addr) (x : XD) : Prop := ExcR mg W cls dd x.cls x.fs
def ExR (mg : Gm) (Wx : WX) (W : Wd) (H : Hp) (σ : St) (E : XD → Prop) : Prop :=
  ∀ W' H' cls dd x, Step W H W' H' → RepX mg W' H' cls dd x → E x → Wx cls dd σ H'
theorem ExR.step {mg : Gm} {Wx : WX} {W W1 : Wd} {H H1 : Hp} {σ : St} {E : XD → Prop} (e : ExR mg Wx W H σ E) (s : Step W H W1 H1) : ExR mg Wx W1 H1 σ E :=
  fun W' H' cls dd x s' r h => e W' H' cls dd x (s.trans s') r h
theorem ExR.f0 {mg : Gm} {Wx : WX} {W : Wd} {H : Hp} {σ : St} : ExR mg Wx W H σ F0 := fun _ _ _ _ _ _ _ h => h.elim
/-- what is wanted behind a value, by its datum -/
abbrev ToV (mg : Gm) (W : Wd) (H : Hp) (Q : D → Prop) (Q' : VK) : Prop := ∀ W' H' v d, Step W H W' H' → Rep mg W' v d → Q d → Q' v H'
def Cp (mg : Gm) (Wx : WX) (t : TE) (f : DTE) : Prop := ∀ B ρ Q E, f ρ Q E → ∀ W σ H Q', Holds W H → EnvR mg B W H σ ρ → ExR mg Wx W H σ E → ToV mg W H Q Q' → t σ H Q'
def CpT (mg : Gm) (Wx : WX) (t : TT) (f : DTT) : Prop := ∀ B ρ Q E, f ρ Q E → ∀ W σ H Q', Holds W H → EnvR mg B W H σ ρ → ExR mg Wx W H σ E → (∀ W' H' b, Step W H W' H' → Q b → Q' b H') → t σ H Q'
def CpA (mg : Gm) (Wx : WX) (t : TA) (f : DTA) : Prop := ∀ B ρ Q E, f ρ Q E → ∀ W σ H Q', Holds W H → EnvR mg B W H σ ρ → ExR mg Wx W H σ E → (∀ W' H' vs ds, Step W H W' H' → Reps mg W' vs ds → Q ds → Q' vs H') → t σ H Q'
structure EndsR (mg : Gm) (Wx : WX) (W0 : Wd) (B : Hp) (N : Nd) (Ds : Ends) : Prop where
  nx : ∀ W' H' σ' ρ', Step W0 B W' H' → EnvR mg B W' H' σ' ρ' → N.nx ρ' → Ds.nx σ' H'
  rt : ∀ W' H' σ' ρ' v d, Step W0 B W' H' → EnvR mg B W' H' σ' ρ' → Rep mg W' v d → N.rt d ρ' → Ds.rt v H'
  bk : ∀ W' H' σ' ρ', Step W0 B W' H' → EnvR mg B W' H' σ' ρ' → N.bk ρ' → Ds.bk σ' H'
  ct : ∀ W' H' σ' ρ', Step W0 B W' H' → EnvR mg B W' H' σ' ρ' → N.ct ρ' → Ds.ct σ' H'
  rs : ∀ W' H' σ' ρ' cls dd x, Step W0 B W' H' → EnvR mg B W' H' σ' ρ' → RepX mg W' H' cls dd x → N.rs x ρ' → Wx cls dd σ' H'
def CpS (mg : Gm) (Wx : WX) (t : TS) (f : DTS) : Prop := ∀ W0 B N ρ, f N ρ → ∀ W σ H Ds, Step W0 B W H → EnvR mg B W H σ ρ → EndsR mg Wx W0 B N Ds → t Ds σ H
theorem EndsR.ex {mg : Gm} {Wx : WX} {W0 W : Wd} {B H : Hp} {N : Nd} {Ds : Ends} {σ : St} {ρ : Env} (n : EndsR mg Wx W0 B N Ds) (s : Step W0 B W H) (e : EnvR mg B W H σ ρ) : ExR mg Wx W H σ (fun x => N.rs x ρ) :=
  fun W' H' cls dd x s' r h => n.rs W' H' σ ρ cls dd x (s.trans s') (e.step s') r h
section
variable {ι : Type}
def DE (Xs : ι → Cx) (mg : Gm) (Wx : WX) (e : Expr) (f : DTE) : Prop := ∃ t, (∀ i, PE (Xs i) e t) ∧ Cp mg Wx t f
def DT (Xs : ι → Cx) (mg : Gm) (Wx : WX) (e : Expr) (f : DTT) : Prop := ∃ t, (∀ i, PT (Xs i) e t) ∧ CpT mg Wx t f
def DW (Xs : ι → Cx) (mg : Gm) (Wx : WX) (e : Expr) (f : DTT) : Prop := ∃ t, (∀ i, PW (Xs i) e t) ∧ CpT mg Wx t f
def DA (Xs : ι → Cx) (mg : Gm) (Wx : WX) (es : List Expr) (f : DTA) : Prop := ∃ t, (∀ i, PA (Xs i) es t) ∧ CpA mg Wx t f
def DS (Xs : ι → Cx) (mg : Gm) (Wx : WX) (st : Stmt) (f : DTS) : Prop := ∃ t, (∀ i, PS (Xs i) st t) ∧ CpS mg Wx t f
def DSs (Xs : ι → Cx) (mg : Gm) (Wx : WX) (st : List Stmt) (f : DTS) : Prop := ∃ t, (∀ i, PSs (Xs i) st t) ∧ CpS mg Wx t f
end
section
variable {ι : Type} {Xs : ι → Cx} {mg : Gm} {Wx : WX} {pos : Pos}
/-- one of two ways -/
def bit (b : Bool) (A B : Prop) : Prop := match b with
  | true => A
  | false => B
/-- a truth as a datum -/
def blc (d : D) (k : Bool → Prop) : Prop := match d with
  | .bl b => k b
  | _ => False
theorem bit_t (A B : Prop) : bit true A B = A := rfl
theorem bit_f (A B : Prop) : bit false A B = B := rfl
theorem bit_not (b : Bool) (A B : Prop) : bit (!b) A B = bit b B A := by cases b <;> rfl
theorem bit_dec (p : Prop) [Decidable p] (A B : Prop) : bit (decide p) A B = ((p → A) ∧ (¬ p → B)) := by
  by_cases h : p <;> simp [h, bit]
theorem blc_bl (b : Bool) (k : Bool → Prop) : blc (.bl b) k = k b := rfl
/-! ### what is new is locked -/
def tLk (t : TE) : TE := fun σ H Q => t σ H fun v H1 => ∃ p u, v = .ref p ∧ H1 p = some u ∧ Mut (some u) ∧ ∀ od, Q v (upd H1 p (.frz od u))
theorem pe_lk {X : Cx} {e : Expr} {t : TE} (h : PE X e t) : PE X e (tLk t) := by
  refine ⟨fun pins s σ H Q I hw => ?_⟩
  refine thn (h.run pins s σ H _ I hw) fun v s1 ⟨x, H1, I1, r, p, u, e, hp, mu, q⟩ => ?_
  obtain ⟨od, I2⟩ := I1.lock hp mu
  exact ⟨x, _, I2, r, q od⟩
/-! ### names, constants -/
abbrev dVar (i : Nat) : DTE := fun ρ Q _ => match ρ[i]? with
  | some (.d x) => Q x
  | _ => False
theorem de_var (i : Nat) {x : Str} (hN : ∀ j, (Xs j).N[i]? = some x := by intro _; rfl) (hv : ∀ j, Vis (Xs j).env.scope x := by intro _; first | exact Or.inl rfl | exact Or.inr (Or.inl rfl) | exact Or.inr (Or.inr rfl))
    (hd : (x == ("__debug__" : Str)) = false := by decide) (hcd : (x == ("__classdict__" : Str)) = false := by decide) : DE Xs mg Wx (.Name x pos) (dVar i) := by
  refine ⟨tVar i, fun j => pe_var (hN j) (hv j) hd hcd, fun B ρ Q E h W σ H Q' hh e _ q => ?_⟩
  unfold dVar at h
  split at h
  · rename_i z hz
    obtain ⟨v, hv, r⟩ := e.get hz
    exact ⟨v, hv, q W H v z (Step.refl hh) r h⟩
  · exact h.elim
abbrev dC (x : D) : DTE := fun _ Q _ => Q x
theorem Cp.const {v : V} {d : D} (r : ∀ W, Rep mg W v d) : Cp mg Wx (tC v) (dC d) := fun B ρ Q E h W σ H Q' hh _ _ q => q W H v d (Step.refl hh) (r W) h
theorem de_int {i : Int} {j : Nat} : DE Xs mg Wx (.Constant (.int i) j pos) (dC (.int i)) := ⟨_, fun _ => pe_int, Cp.const fun _ => .int i⟩
theorem de_bl {b : Bool} {j : Nat} : DE Xs mg Wx (.Constant (.bool b) j pos) (dC (.bl b)) := ⟨_, fun _ => pe_bl, Cp.const fun _ => .bl b⟩
theorem de_non {j : Nat} : DE Xs mg Wx (.Constant .none j pos) (dC .non) := ⟨_, fun _ => pe_non, Cp.const fun _ => .non⟩
theorem de_str {x : Str} {j : Nat} : DE Xs mg Wx (.Constant (.str x) j pos) (dC (.str x)) := ⟨_, fun _ => pe_str, Cp.const fun _ => .str x⟩
/-! ### operators by data -/
abbrev RD2 := D → D → (D → Prop) → Prop
def OpD (mg : Gm) (r : R2) (rd : RD2) : Prop := ∀ W H x y dx dy Q Q', Holds W H → Rep mg W x dx → Rep mg W y dy → rd dx dy Q → ToV mg W H Q Q' → r x y H Q'
/-- an operator that reads data alone -/
def OpOk (Xs : ι → Cx) (mg : Gm) (f : Value → Value → Sem Value) (rd : RD2) : Prop := ∃ r, (∀ i, OpR (Xs i) f r) ∧ OpD mg r rd
abbrev dOp (rd : RD2) (fa fb : DTE) : DTE := fun ρ Q E => fa ρ (fun x => fb ρ (fun y => rd x y Q) E) E
theorem Cp.op {r : R2} {rd : RD2} {ta tb : TE} {fa fb : DTE} (o : OpD mg r rd) (ha : Cp mg Wx ta fa) (hb : Cp mg Wx tb fb) : Cp mg Wx (tOp r ta tb) (dOp rd fa fb) := by
  intro B ρ Q E h W σ H Q' hh e x q
  refine ha B ρ _ E h W σ H _ hh e x fun W1 H1 v1 d1 s1 r1 h1 => ?_
  refine hb B ρ _ E h1 W1 σ H1 _ s1.holds (e.step s1) (x.step s1) fun W2 H2 v2 d2 s2 r2 h2 => ?_
  exact o W2 H2 v1 v2 d1 d2 _ _ s2.holds (r1.mono s2.le) r2 h2 fun W3 H3 v3 d3 s3 r3 h3 => q W3 H3 v3 d3 ((s1.trans s2).trans s3) r3 h3
theorem de_op {op : Operator} {rd : RD2} {a b : Expr} {fa fb : DTE} (o : OpOk Xs mg (binaryOp op) rd) (ha : DE Xs mg Wx a fa) (hb : DE Xs mg Wx b fb) : DE Xs mg Wx (.BinOp a op b pos) (dOp rd fa fb) := by
  obtain ⟨r, h1, h2⟩ := o
  obtain ⟨ta, a1, a2⟩ := ha
  obtain ⟨tb, b1, b2⟩ := hb
  exact ⟨_, fun i => pe_op (h1 i) (a1 i) (b1 i), Cp.op h2 a2 b2⟩
theorem de_cmp {op : CmpOp} {rd : RD2} {a b : Expr} {fa fb : DTE} (o : OpOk Xs mg (compareOp op) rd) (ha : DE Xs mg Wx a fa) (hb : DE Xs mg Wx b fb) (hm : behindInMarks op b = false := by first | rfl | exact nomark _) : DE Xs mg Wx (.Compare a [op] [b] pos) (dOp rd fa fb) := by
  obtain ⟨r, h1, h2⟩ := o
  obtain ⟨ta, a1, a2⟩ := ha
  obtain ⟨tb, b1, b2⟩ := hb
  exact ⟨_, fun i => pe_cmpR (h1 i) (a1 i) (b1 i) hm, Cp.op h2 a2 b2⟩
/-! ### tests -/
abbrev dB (f : DTE) : DTT := fun ρ Q E => f ρ (fun x => blc x Q) E
theorem Cp.b {t : TE} {f : DTE} (h : Cp mg Wx t f) : CpT mg Wx (tB t) (dB f) := by
  intro B ρ Q E hf W σ H Q' hh e x q
  refine h B ρ _ E hf W σ H _ hh e x fun W1 H1 v1 d1 s1 r1 h1 => ?_
  cases r1 with
  | bl b => exact ⟨b, rfl, q W1 H1 b s1 h1⟩
  | _ => exact h1.elim
theorem dt_val {e : Expr} {f : DTE} (h : DE Xs mg Wx e f) (he : ∀ i whole, isTrue e (Xs i).env whole = (do let v ← whole; standAt e.pos; holding [v] (truthy v)) := by intro _ _; rfl) : DT Xs mg Wx e (dB f) := by
  obtain ⟨t, h1, h2⟩ := h
  exact ⟨_, fun i => pt_val (h1 i) (he i), h2.b⟩
theorem dt_cmp {op : CmpOp} {rd : RD2} {a b : Expr} {fa fb : DTE} (o : OpOk Xs mg (compareOp op) rd) (ha : DE Xs mg Wx a fa) (hb : DE Xs mg Wx b fb) (hm : behindInMarks op b = false := by first | rfl | exact nomark _) : DT Xs mg Wx (.Compare a [op] [b] pos) (dB (dOp rd fa fb)) := by
  obtain ⟨r, h1, h2⟩ := o
  obtain ⟨ta, a1, a2⟩ := ha
  obtain ⟨tb, b1, b2⟩ := hb
  exact ⟨_, fun i => pt_cmpR (h1 i) (a1 i) (b1 i) hm, Cp.b (Cp.op h2 a2 b2)⟩
abbrev dOr (f g : DTT) : DTT := fun ρ Q E => f ρ (fun c => bit c (Q true) (g ρ Q E)) E
abbrev dNot (f : DTT) : DTT := fun ρ Q E => f ρ (fun c => Q (!c)) E
theorem dw_or1 {a : Expr} {f : DTT} (h : DT Xs mg Wx a f) : DW Xs mg Wx (.BoolOp .Or [a] pos) f := by
  obtain ⟨t, h1, h2⟩ := h
  exact ⟨t, fun i => pw_or1 (h1 i), h2⟩
theorem dw_or {a b : Expr} {rest : List Expr} {f g : DTT} (h : DT Xs mg Wx a f) (h' : DW Xs mg Wx (.BoolOp .Or (b :: rest) pos) g) : DW Xs mg Wx (.BoolOp .Or (a :: b :: rest) pos) (dOr f g) := by
  obtain ⟨t, h1, h2⟩ := h
  obtain ⟨u, g1, g2⟩ := h'
  refine ⟨_, fun i => pw_or (h1 i) (g1 i), ?_⟩
  intro B ρ Q E hf W σ H Q' hh e x q
  refine h2 B ρ _ E hf W σ H _ hh e x fun W1 H1 c s1 k1 => ?_
  cases c with
  | true =>
    rw [if_pos rfl]
    exact q W1 H1 true s1 k1
  | false =>
    rw [if_neg Bool.false_ne_true]
    exact g2 B ρ Q E k1 W1 σ H1 _ s1.holds (e.step s1) (x.step s1) fun W2 H2 b s2 k2 => q W2 H2 b (s1.trans s2) k2
theorem dt_w {e : Expr} {f : DTT} (h : DW Xs mg Wx e f) : DT Xs mg Wx e f := by
  obtain ⟨t, h1, h2⟩ := h
  exact ⟨t, fun i => (h1 i).pt, h2⟩
theorem dt_not {a : Expr} {f : DTT} (h : DT Xs mg Wx a f) : DT Xs mg Wx (.UnaryOp .Not a pos) (dNot f) := by
  obtain ⟨t, h1, h2⟩ := h
  exact ⟨_, fun i => pt_not (h1 i), fun B ρ Q E hf W σ H Q' hh e x q => h2 B ρ _ E hf W σ H _ hh e x fun W1 H1 c s1 k1 => q W1 H1 _ s1 k1⟩
abbrev dIf (c : DTT) (f g : DTE) : DTE := fun ρ Q E => c ρ (fun b => bit b (f ρ Q E) (g ρ Q E)) E
theorem de_if {c a b : Expr} {fc : DTT} {fa fb : DTE} (hc : DT Xs mg Wx c fc) (ha : DE Xs mg Wx a fa) (hb : DE Xs mg Wx b fb) : DE Xs mg Wx (.IfExp c a b pos) (dIf fc fa fb) := by
  obtain ⟨tc, c1, c2⟩ := hc
  obtain ⟨ta, a1, a2⟩ := ha
  obtain ⟨tb, b1, b2⟩ := hb
  refine ⟨_, fun i => pe_ifExp (c1 i) (a1 i) (b1 i), ?_⟩
  intro B ρ Q E hf W σ H Q' hh e x q
  refine c2 B ρ _ E hf W σ H _ hh e x fun W1 H1 c s1 k1 => ?_
  cases c with
  | true =>
    rw [if_pos rfl]
    exact a2 B ρ Q E k1 W1 σ H1 _ s1.holds (e.step s1) (x.step s1) fun W2 H2 v d s2 r2 k2 => q W2 H2 v d (s1.trans s2) r2 k2
  | false =>
    rw [if_neg Bool.false_ne_true]
    exact b2 B ρ Q E k1 W1 σ H1 _ s1.holds (e.step s1) (x.step s1) fun W2 H2 v d s2 r2 k2 => q W2 H2 v d (s1.trans s2) r2 k2
/-! ### arguments, displays -/
abbrev dNil : DTA := fun _ Q _ => Q []
abbrev dCons (f : DTE) (g : DTA) : DTA := fun ρ Q E => f ρ (fun x => g ρ (fun xs => Q (x :: xs)) E) E
theorem da_nil : DA Xs mg Wx [] dNil := ⟨_, fun _ => pa_nil, fun B ρ Q E h W σ H Q' hh _ _ q => q W H [] [] (Step.refl hh) .nil h⟩
theorem da_cons {e : Expr} {es : List Expr} {f : DTE} {g : DTA} (h : DE Xs mg Wx e f) (h' : DA Xs mg Wx es g) (hs : ∀ i, starEach (e :: es) (Xs i).env = (false, eval e (Xs i).env) :: starEach es (Xs i).env := by intro _; rfl) : DA Xs mg Wx (e :: es) (dCons f g) := by
  obtain ⟨t, h1, h2⟩ := h
  obtain ⟨u, g1, g2⟩ := h'
  refine ⟨_, fun i => pa_cons (h1 i) (g1 i) (hs i), ?_⟩
  intro B ρ Q E hf W σ H Q' hh e x q
  refine h2 B ρ _ E hf W σ H _ hh e x fun W1 H1 v d s1 r1 k1 => ?_
  exact g2 B ρ _ E k1 W1 σ H1 _ s1.holds (e.step s1) (x.step s1) fun W2 H2 vs ds s2 r2 k2 => q W2 H2 _ _ (s1.trans s2) (.cons (r1.mono s2.le) r2) k2
abbrev dTup (g : DTA) : DTE := fun ρ Q E => g ρ (fun xs => xs.length ≤ sizeLine ∧ Q (.tup xs)) E
abbrev dLst (g : DTA) : DTE := fun ρ Q E => g ρ (fun xs => xs.length ≤ sizeLine ∧ Q (.lst xs)) E
theorem Wd.le_put {W : Wd} {p : Addr} {o : HO} (n : W.H p = none) : Le W (W.put p o) := Wd.put_le n
theorem Rep.newTup {W : Wd} {vs : List V} {ds : List D} {p : Addr} (r : Reps mg W vs ds) (n : W.H p = none) : Rep mg (W.put p (.tup vs)) (.ref p) (.tup ds) :=
  .tup (show upd W.H p _ p = _ from upd_same) (r.mono (Wd.le_put n))
theorem Rep.newLst {W : Wd} {vs : List V} {ds : List D} {p : Addr} (r : Reps mg W vs ds) (n : W.H p = none) : Rep mg (W.put p (.lst vs)) (.ref p) (.lst ds) :=
  .lst (show upd W.H p _ p = _ from upd_same) (r.mono (Wd.le_put n))
/-- what is wanted of a new tuple, of a new list -/
theorem to_tup {W : Wd} {H : Hp} {Q : D → Prop} {Q' : VK} {vs : List V} {ds : List D} (q : ToV mg W H Q Q') (hh : Holds W H) (r : Reps mg W vs ds) (h : Q (.tup ds)) : ∀ p, H p = none → Q' (.ref p) (upd H p (.tup vs)) :=
  fun p n => q _ _ _ _ (Step.alloc hh n) (Rep.newTup r (hh.same.free n)) h
theorem to_lst {W : Wd} {H : Hp} {Q : D → Prop} {Q' : VK} {vs : List V} {ds : List D} (q : ToV mg W H Q Q') (hh : Holds W H) (r : Reps mg W vs ds) (h : Q (.lst ds)) : ∀ p, H p = none → Q' (.ref p) (upd H p (.lst vs)) :=
  fun p n => q _ _ _ _ (Step.alloc hh n) (Rep.newLst r (hh.same.free n)) h
theorem ToV.step {W W1 : Wd} {H H1 : Hp} {Q : D → Prop} {Q' : VK} (q : ToV mg W H Q Q') (s : Step W H W1 H1) : ToV mg W1 H1 Q Q' := fun W' H' v d s' r h => q W' H' v d (s.trans s') r h
theorem de_tup {es : List Expr} {g : DTA} {k : Nat} (h : DA Xs mg Wx es g) : DE Xs mg Wx (.Tuple es k pos) (dTup g) := by
  obtain ⟨t, h1, h2⟩ := h
  refine ⟨_, fun i => pe_tup (h1 i), fun B ρ Q E hf W σ H Q' hh e x q => h2 B ρ _ E hf W σ H _ hh e x fun W1 H1 vs ds s1 r1 k1 => ?_⟩
  exact ⟨by rw [r1.length]; exact k1.1, to_tup (ToV.step q s1) s1.holds r1 k1.2⟩
theorem de_lst {es : List Expr} {g : DTA} (h : DA Xs mg Wx es g) : DE Xs mg Wx (.List es pos) (dLst g) := by
  obtain ⟨t, h1, h2⟩ := h
  refine ⟨_, fun i => pe_lst (h1 i), fun B ρ Q E hf W σ H Q' hh e x q => h2 B ρ _ E hf W σ H _ hh e x fun W1 H1 vs ds s1 r1 k1 => ?_⟩
  exact ⟨by rw [r1.length]; exact k1.1, to_lst (ToV.step q s1) s1.holds r1 k1.2⟩
/-! ### built-in functions and methods by data -/
abbrev RDL := List D → (D → Prop) → Prop
def CallD (mg : Gm) (r : List V → Hp → VK → Prop) (rd : RDL) : Prop := ∀ W H vs ds Q Q', Holds W H → Reps mg W vs ds → rd ds Q → ToV mg W H Q Q' → r vs H Q'
def CallOk (Xs : ι → Cx) (mg : Gm) (f : Value) (rd : RDL) : Prop := ∃ r, (∀ i, CallR (Xs i) f r) ∧ CallD mg r rd
abbrev dCB (rd : RDL) (g : DTA) : DTE := fun ρ Q E => g ρ (fun ds => rd ds Q) E
theorem Cp.cb {r : List V → Hp → VK → Prop} {rd : RDL} {t : TA} {g : DTA} (c : CallD mg r rd) (h : CpA mg Wx t g) : Cp mg Wx (tCB r t) (dCB rd g) := by
  intro B ρ Q E hf W σ H Q' hh e x q
  refine h B ρ _ E hf W σ H _ hh e x fun W1 H1 vs ds s1 r1 k1 => ?_
  exact c W1 H1 vs ds Q Q' s1.holds r1 k1 (ToV.step q s1)
theorem de_callB {id : String} {rd : RDL} {x : Str} {p : Pos} {e : Expr} {es : List Expr} {g : DTA} (c : CallOk Xs mg (.builtin id) rd) (hm : mg.mg x = none) (hv : bootBuiltins x = some (.builtin id)) (ha : DA Xs mg Wx (e :: es) g)
    (hM : ∀ j, (Xs j).mg = mg.mg := by intro _; rfl) (hg : ∀ j, Gl (Xs j) x := by intro _; rfl) (hn : x ≠ "__name__" := by decide) (hd : (x == ("__debug__" : Str)) = false := by decide)
    (he : ∀ i, starEach (e :: es) (Xs i).env = (false, eval e (Xs i).env) :: starEach es (Xs i).env := by intro _; rfl) (hpl : ∀ i, (backTo pos (starEach es (Xs i).env)).any (·.1) = false := by intro _; rfl) : DE Xs mg Wx (.Call (.Name x p) (e :: es) [] pos) (dCB rd g) := by
  obtain ⟨r, c1, c2⟩ := c
  obtain ⟨t, h1, h2⟩ := ha
  exact ⟨_, fun i => pe_callB (c1 i) (hg i) (by rw [hM i]; exact hm) hv (h1 i) hn hd (he i) (hpl i), Cp.cb c2 h2⟩
theorem de_callTy {T : String} {rd : RDL} {x : Str} {p : Pos} {e : Expr} {es : List Expr} {g : DTA} (c : CallOk Xs mg (.type T) rd) (hm : mg.mg x = none) (hv : bootBuiltins x = some (.type T)) (ha : DA Xs mg Wx (e :: es) g)
    (hM : ∀ j, (Xs j).mg = mg.mg := by intro _; rfl) (hg : ∀ j, Gl (Xs j) x := by intro _; rfl) (hn : x ≠ "__name__" := by decide) (hd : (x == ("__debug__" : Str)) = false := by decide)
    (he : ∀ i, starEach (e :: es) (Xs i).env = (false, eval e (Xs i).env) :: starEach es (Xs i).env := by intro _; rfl) (hpl : ∀ i, (backTo pos (starEach es (Xs i).env)).any (·.1) = false := by intro _; rfl) : DE Xs mg Wx (.Call (.Name x p) (e :: es) [] pos) (dCB rd g) := by
  obtain ⟨r, c1, c2⟩ := c
  obtain ⟨t, h1, h2⟩ := ha
  exact ⟨_, fun i => pe_callTy (c1 i) (hg i) (by rw [hM i]; exact hm) hv (h1 i) hn hd (he i) (hpl i), Cp.cb c2 h2⟩
/-! ### a def's promise; room with no repr under way -/
structure RmG (k : Nat) (A : Around) : Prop where
  r : Room k A
  g : A.guards = some []
theorem RmG.mono {j k : Nat} {A : Around} (x : RmG k A) (h : j ≤ k) : RmG j A := ⟨x.r.mono h, x.g⟩
/-- as FnOk, where no repr is under way -/
structure FnG (P : Program) (w : World) (K : PySem.W.Frag) (mg : Str → Option Value) (base : Heap) (k : Nat) (f : Addr) (fd : FuncData) (ps : List Str) (sp : Sp) : Prop where
  ln : ∀ vs H Q E, sp vs H Q E → vs.length = ps.length
  go : ∀ (A : Around) (out : List PySem.Env) (z : Shared) (H : Hp) (ag : Args) (us : List Value) (vs : List V) (Q : VK) (E : XK), RmG k A → Env0 P w K mg base A out z H → BindsTo z fd ag (ps.zip us) → Vals vs us → sp vs H Q E →
    codeAny (model P w) A (.call (.ref f) ag) (CR (L2.CX P w) out P w H z Q E) z
theorem FnG.of {P : Program} {w : World} {K : PySem.W.Frag} {mg : Str → Option Value} {base : Heap} {k : Nat} {f : Addr} {fd : FuncData} {ps : List Str} {sp : Sp} (F : FnOk P w K mg base (L2.CX P w) k f fd ps sp) : FnG P w K mg base k f fd ps sp :=
  ⟨F.len, fun A out z H ag us vs Q E m => F.run A out z H ag us vs Q E m.r⟩
theorem FnG.up {P : Program} {w : World} {K : PySem.W.Frag} {mg : Str → Option Value} {base : Heap} {j k : Nat} {f : Addr} {fd : FuncData} {ps : List Str} {sp : Sp} (F : FnG P w K mg base j f fd ps sp) (h : j ≤ k) : FnG P w K mg base k f fd ps sp :=
  ⟨F.ln, fun A out z H ag us vs Q E m => F.go A out z H ag us vs Q E (m.mono h)⟩
/-- the callee's run, for a caller -/
theorem goG {X : Cx} {k : Nat} {f : Addr} {fd : FuncData} {ps : List Str} {sp : Sp} {Ew : St → XK} {pins : List (Addr × Obj)} {σ : St} {H : Hp} {z : Shared} {Q : VK} {us : List Value} {vs : List V} (F : FnG X.prog X.w X.K X.mg X.base k f fd ps sp) (m : RmG k X.A) (hb : Binds X.K fd ps []) (hx : PassesAt (L2.CX X.prog X.w) X σ (Ew σ))
    (I : Inv X pins σ H z) (rv : Vals vs us) (h : sp vs H Q (Ew σ)) : wpAny (model X.prog X.w) X.A (call (.ref f) us) (EP X pins σ Q) X.xe z := by
  have hl : (us ++ []).length = ps.length := by
    rw [List.append_nil, ← rv.length]
    exact F.ln _ _ _ _ h
  have bd := hb z us I.kIn hl
  rw [List.append_nil] at bd
  have cd := F.go X.A X.stack z H ⟨us, []⟩ us vs Q (Ew σ) m I.env0 bd rv h
  refine wpAny_call (codeAny_mono cd ?_)
  intro res z' hq
  match res, hq with
  | .error e, hq => exact hx pins H z e z' I hq
  | .ok (.ret u), hq => exact I.after hq
  | .ok .next, hq => exact hq.elim
  | .ok .brk, hq => exact hq.elim
  | .ok .cont, hq => exact hq.elim
theorem pe_callG {X : Cx} {k : Nat} {f : Addr} {fd : FuncData} {ps : List Str} {sp : Sp} {Ew : St → XK} {x : Str} {p pos : Pos} {e : Expr} {es : List Expr} {t : TA} (F : FnG X.prog X.w X.K X.mg X.base k f fd ps sp) (m : RmG k X.A) (gx : Gl X x) (mx : X.mg x = some (.ref f)) (kf : PySem.W.keepIn X.K (.ref f) = true) (hb : Binds X.K fd ps [])
    (hx : ∀ σ, PassesAt (L2.CX X.prog X.w) X σ (Ew σ)) (ha : PA X (e :: es) t) (nd : (x == ("__debug__" : Str)) = false) (s1 : starEach (e :: es) X.env = (false, eval e X.env) :: starEach es X.env) (s2 : (backTo pos (starEach es X.env)).any (·.1) = false) : PE X (.Call (.Name x p) (e :: es) [] pos) (tCallS sp Ew t) := by
  constructor
  intro pins z σ H Q I hw
  apply wpAny_Call_Name_kw
  apply ld_glob I gx mx _ nd
  apply PySem.W.callWith_K (h₀ := X.base) I.ok.mod.kin kf _ s1 s2
  refine thn (ha.run pos pins z σ H _ I hw) ?_
  rintro us z1 ⟨vs, H1, I1, rv, q⟩
  exact ⟨I1.kIn, goG F m hb (hx σ) I1 rv q⟩
def spD (mg : Gm) (n : Nat) (f : List D → M D) : Sp := fun vs H Q E => ∃ W ds Qd Ed, Holds W H ∧ Reps mg W vs ds ∧ ds.length = n ∧ f ds Qd Ed ∧ ToV mg W H Qd Q ∧ ∀ W' H' cls dd x, Step W H W' H' → RepX mg W' H' cls dd x → Ed x → E cls dd H'
/-- what a callee lets out is taken -/
def Pas (X : Cx) (W : WX) : Prop := ∀ σ, PassesAt (L2.CX X.prog X.w) X σ (WE W σ)
theorem pas {X : Cx} {W : WX} (tk : Takes X W) : Pas X W := fun σ => passAt tk σ
structure DefOk (P : Program) (w : World) (mg : Gm) (base : Heap) (k : Nat) (x : Str) (n : Nat) (f : List D → M D) : Prop where
  ex : ∃ fa fd ps, mg.mg x = some (.ref fa) ∧ PySem.W.keepIn mg.K (.ref fa) = true ∧ Binds mg.K fd ps [] ∧ ps.length = n ∧ FnG P w mg.K mg.mg base k fa fd ps (spD mg n f)
abbrev dCall (f : List D → M D) (n : Nat) (g : DTA) : DTE := fun ρ Q E => g ρ (fun ds => ds.length = n ∧ f ds Q E) E
theorem Cp.call {n : Nat} {f : List D → M D} {t : TA} {g : DTA} (h : CpA mg Wx t g) : Cp mg Wx (tCallS (spD mg n f) (WE Wx) t) (dCall f n g) := by
  intro B ρ Q E hf W σ H Q' hh e x q
  refine h B ρ _ E hf W σ H _ hh e x fun W1 H1 vs ds s1 r1 k1 => ?_
  exact ⟨W1, ds, Q, E, s1.holds, r1, k1.1, k1.2, ToV.step q s1, fun W' H' cls dd y s' r h => x W' H' cls dd y (s1.trans s') r h⟩
theorem de_call {P : Program} {w : World} {base : Heap} {k n : Nat} {x : Str} {f : List D → M D} {p : Pos} {e : Expr} {es : List Expr} {g : DTA} (F : DefOk P w mg base k x n f) (hr : ∀ i, RmG k (Xs i).A) (tk : ∀ i, Pas (Xs i) Wx) (ha : DA Xs mg Wx (e :: es) g)
    (hP : ∀ j, (Xs j).prog = P ∧ (Xs j).w = w ∧ (Xs j).K = mg.K ∧ (Xs j).mg = mg.mg ∧ (Xs j).base = base := by intro _; exact ⟨rfl, rfl, rfl, rfl, rfl⟩) (hg : ∀ j, Gl (Xs j) x := by intro _; rfl) (hd : (x == ("__debug__" : Str)) = false := by decide)
    (he : ∀ i, starEach (e :: es) (Xs i).env = (false, eval e (Xs i).env) :: starEach es (Xs i).env := by intro _; rfl) (hpl : ∀ i, (backTo pos (starEach es (Xs i).env)).any (·.1) = false := by intro _; rfl) : DE Xs mg Wx (.Call (.Name x p) (e :: es) [] pos) (dCall f n g) := by
  obtain ⟨fa, fd, ps, hm, hk, hb, hl, G⟩ := F.ex
  obtain ⟨t, h1, h2⟩ := ha
  refine ⟨_, fun i => ?_, Cp.call (f := f) (n := n) h2⟩
  obtain ⟨p1, p2, p3, p4, p5⟩ := hP i
  subst p1 p2 p5
  exact pe_callG (by rw [p3, p4]; exact G) (hr i) (hg i) (by rw [p4]; exact hm) (by rw [p3]; exact hk) (by rw [p3]; exact hb) (fun σ => tk i σ) (h1 i) hd (he i) (hpl i)
end
end FP
/-! FP3: statements, targets, what is walked, loops, comprehensions, a def by its body. -/
namespace FP
open PySem L2
variable [Tabl]
section
variable {ι : Type} {Xs : ι → Cx} {mg : Gm} {Wx : WX} {pos : Pos}
/-! ### blocks, small statements -/
abbrev dNext : DTS := fun N ρ => N.nx ρ
abbrev dSeq (f g : DTS) : DTS := fun N ρ => f { N with nx := g N } ρ
theorem dss_nil : DSs Xs mg Wx [] dNext := ⟨_, fun _ => pss_nil, fun W0 B N ρ h W σ H Ds s e n => n.nx W H σ ρ s e h⟩
theorem EndsR.nxt {W0 : Wd} {B : Hp} {N : Nd} {Ds : Ends} {nx : Env → Prop} {nx' : St → Hp → Prop} (n : EndsR mg Wx W0 B N Ds) (h : ∀ W' H' σ' ρ', Step W0 B W' H' → EnvR mg B W' H' σ' ρ' → nx ρ' → nx' σ' H') : EndsR mg Wx W0 B { N with nx := nx } { Ds with nx := nx' } := ⟨h, n.rt, n.bk, n.ct, n.rs⟩
theorem EndsR.rebase {W0 W : Wd} {B H : Hp} {N : Nd} {Ds : Ends} (n : EndsR mg Wx W0 B N Ds) (s : Step W0 B W H) : EndsR mg Wx W B N Ds :=
  ⟨fun W' H' σ' ρ' s' => n.nx W' H' σ' ρ' (s.join s'), fun W' H' σ' ρ' v d s' => n.rt W' H' σ' ρ' v d (s.join s'), fun W' H' σ' ρ' s' => n.bk W' H' σ' ρ' (s.join s'), fun W' H' σ' ρ' s' => n.ct W' H' σ' ρ' (s.join s'), fun W' H' σ' ρ' c d x s' => n.rs W' H' σ' ρ' c d x (s.join s')⟩
theorem dss_cons {st : Stmt} {rest : List Stmt} {f g : DTS} (h : DS Xs mg Wx st f) (h' : DSs Xs mg Wx rest g) : DSs Xs mg Wx (st :: rest) (dSeq f g) := by
  obtain ⟨t, h1, h2⟩ := h
  obtain ⟨u, g1, g2⟩ := h'
  refine ⟨_, fun i => pss_cons (h1 i) (g1 i), fun W0 B N ρ hf W σ H Ds s e n => ?_⟩
  exact h2 W0 B _ ρ hf W σ H _ s e (n.nxt fun W' H' σ' ρ' s' e' k => g2 W0 B N ρ' k W' σ' H' Ds s' e' n)
theorem dss_one {st : Stmt} {f : DTS} (h : DS Xs mg Wx st f) : DSs Xs mg Wx [st] f := by
  obtain ⟨t, h1, h2⟩ := h
  exact ⟨t, fun i => pss_one (h1 i), h2⟩
abbrev dRet (f : DTE) : DTS := fun N ρ => f ρ (fun d => N.rt d ρ) (fun x => N.rs x ρ)
theorem ds_ret {e : Expr} {f : DTE} (h : DE Xs mg Wx e f) : DS Xs mg Wx (.Return (some e) pos) (dRet f) := by
  obtain ⟨t, h1, h2⟩ := h
  refine ⟨_, fun i => ps_ret (h1 i), fun W0 B N ρ hf W σ H Ds s e n => ?_⟩
  exact h2 B ρ _ _ hf W σ H _ s.holds e (n.ex s e) fun W1 H1 v d s1 r1 k1 => n.rt W1 H1 σ ρ v d (s.trans s1) (e.step s1) r1 k1
abbrev dRetN : DTS := fun N ρ => N.rt .non ρ
abbrev dIfS (c : DTT) (f g : DTS) : DTS := fun N ρ => c ρ (fun b => bit b (f N ρ) (g N ρ)) (fun x => N.rs x ρ)
theorem ds_if {c : Expr} {a b : List Stmt} {fc : DTT} {f g : DTS} (hc : DT Xs mg Wx c fc) (ha : DSs Xs mg Wx a f) (hb : DSs Xs mg Wx b g) : DS Xs mg Wx (.If c a b pos) (dIfS fc f g) := by
  obtain ⟨tc, c1, c2⟩ := hc
  obtain ⟨ta, a1, a2⟩ := ha
  obtain ⟨tb, b1, b2⟩ := hb
  refine ⟨_, fun i => ps_if (c1 i) (a1 i) (b1 i), fun W0 B N ρ hf W σ H Ds s e n => ?_⟩
  refine c2 B ρ _ _ hf W σ H _ s.holds e (n.ex s e) fun W1 H1 k s1 k1 => ?_
  cases k with
  | true =>
    rw [if_pos rfl]
    exact a2 W0 B N ρ k1 W1 σ H1 Ds (s.trans s1) (e.step s1) n
  | false =>
    rw [if_neg Bool.false_ne_true]
    exact b2 W0 B N ρ k1 W1 σ H1 Ds (s.trans s1) (e.step s1) n
abbrev dSet (i : Nat) (f : DTE) : DTS := fun N ρ => f ρ (fun d => N.nx (ρ.set i (.d d))) (fun x => N.rs x ρ)
theorem ds_set {i : Nat} {x : Str} {e : Expr} {f : DTE} {pos' : Pos} (h : DE Xs mg Wx e f) (hN : ∀ j, (Xs j).N.Nodup) (hi : ∀ j, (Xs j).N[i]? = some x := by intro _; rfl) (hx : ∀ j, Loc (Xs j).env.scope x := by intro _; first | exact Or.inl rfl | exact Or.inr rfl)
    (hs : ∀ j, swapsWith e (some (.Name x pos')) pos.line (Xs j).env = pure false := by intro _; rfl) (hf : ∀ j, (Xs j).fn x = true ∨ (Xs j).env.scope.names.lookup x = some .local := by intro _; first | exact .inl rfl | exact .inr rfl) : DS Xs mg Wx (.Assign [.Name x pos'] e pos) (dSet i f) := by
  obtain ⟨t, h1, h2⟩ := h
  refine ⟨_, fun j => ps_set (i := i) (hN j) (hi j) (hx j) (h1 j) (hs j) (hf j), fun W0 B N ρ hf W σ H Ds s e n => ?_⟩
  exact h2 B ρ _ _ hf W σ H _ s.holds e (n.ex s e) fun W1 H1 v d s1 r1 k1 => n.nx W1 H1 _ _ (s.trans s1) ((e.step s1).set r1) k1
/-! ### targets -/
inductive Tg where
  | one (i : Nat) | many (is : List Nat) | manyL (is : List Nat)
def putAll : List Nat → List D → Env → Option Env
  | [], [], ρ => some ρ
  | i :: is, d :: ds, ρ => putAll is ds (ρ.set i (.d d))
  | _, _, _ => none
def Tg.put : Tg → D → Env → Option Env
  | .one i, d, ρ => some (ρ.set i (.d d))
  | .many is, .tup ds, ρ => putAll is ds ρ
  | .many _, _, _ => none
  | .manyL is, .lst ds, ρ => putAll is ds ρ
  | .manyL _, _, _ => none
def Tg.slots : Tg → List Nat
  | .one i => [i]
  | .many is => is
  | .manyL is => is
theorem wipe_set_in {σ : St} {i : Nat} {o : Option V} : ∀ {vs : List Nat}, i ∈ vs → wipe (σ.set i o) vs = wipe σ vs
  | [], h => by cases h
  | v :: vs, h => by
    unfold wipe
    by_cases hi : i ∈ vs
    · rw [wipe_set_in hi]
    · have e : i = v := by
        rcases List.mem_cons.mp h with q | q
        · exact q
        · exact absurd q hi
      subst e
      have out : ∀ ws : List Nat, wipe (σ.set i o) ws = wipe σ ws ∨ ∃ o', wipe (σ.set i o) ws = (wipe σ ws).set i o' := by
        intro ws
        induction ws with
        | nil => exact .inr ⟨o, rfl⟩
        | cons w ws ih =>
          unfold wipe
          rcases ih with ih | ⟨o', ih⟩
          · rw [ih]
            exact .inl rfl
          · rw [ih]
            by_cases hw : w = i
            · subst hw
              rw [List.set_set]
              exact .inl rfl
            · exact .inr ⟨o', by rw [List.set_comm _ _ (Ne.symm hw)]⟩
      rcases out vs with q | ⟨o', q⟩
      · rw [q]
      · rw [q, List.set_set]
theorem wipe_wipe (σ : St) (vs : List Nat) : L2.wipe (L2.wipe σ vs) vs = L2.wipe σ vs := by
  have key : ∀ (us ws : List Nat) (τ : St), (∀ i ∈ ws, i ∈ us) → L2.wipe (L2.wipe τ ws) us = L2.wipe τ us := by
    intro us ws
    induction ws with
    | nil => intro τ _; rfl
    | cons w ws ih =>
      intro τ h
      show L2.wipe ((L2.wipe τ ws).set w none) us = _
      rw [wipe_set_in (h w List.mem_cons_self)]
      exact ih τ fun i hi => h i (List.mem_cons_of_mem _ hi)
  exact key vs vs σ fun _ h => h
def CpG (mg : Gm) (g : TG) (T : Tg) : Prop := ∀ B W H x d σ ρ ρ' Q', Holds W H → Rep mg W x d → EnvR mg B W H σ ρ → T.put d ρ = some ρ' → (∀ σ', EnvR mg B W H σ' ρ' → (∀ vs : List Nat, (∀ i ∈ T.slots, i ∈ vs) → wipe σ' vs = wipe σ vs) → Q' σ' H) → g x σ H Q'
def DG (Xs : ι → Cx) (mg : Gm) (tg : Expr) (T : Tg) : Prop := ∃ g, (∀ i, PG (Xs i) tg g) ∧ CpG mg g T
theorem CpG.name {i : Nat} : CpG mg (gName i) (.one i) := fun B W H x d σ ρ ρ' Q' hh r e h q => by
  cases h
  exact q _ (e.set r) fun vs hv => wipe_set_in (hv i (List.mem_singleton.mpr rfl))
theorem pg_nm {i : Nat} {x : Str} (hN : ∀ j, (Xs j).N.Nodup) (hi : ∀ j, (Xs j).N[i]? = some x) (hx : ∀ j, Loc (Xs j).env.scope x) (hf : ∀ j, (Xs j).fn x = true ∨ (Xs j).env.scope.names.lookup x = some .local) : ∀ j, PG (Xs j) (.Name x pos) (gName i) := fun j => pg_name (hN j) (hi j) (hx j) (hf j)
theorem dg_name {i : Nat} {x : Str} (hN : ∀ j, (Xs j).N.Nodup) (hi : ∀ j, (Xs j).N[i]? = some x := by intro _; rfl) (hx : ∀ j, Loc (Xs j).env.scope x := by intro _; first | exact Or.inl rfl | exact Or.inr rfl)
    (hf : ∀ j, (Xs j).fn x = true ∨ (Xs j).env.scope.names.lookup x = some .local := by intro _; first | exact .inl rfl | exact .inr rfl) : DG Xs mg (.Name x pos) (.one i) := ⟨_, pg_nm hN hi hx hf, CpG.name⟩
/-! ### what is walked -/
def WalkD (mg : Gm) (W : Wd) (J : It) (ds : List D) : Prop := ∀ W1 H1, Le W W1 → Holds W1 H1 → (∀ i, i < ds.length → J.go i H1) ∧ J.stop ds.length H1 ∧ ∀ i x H2, i < ds.length → J.yld i H1 x H2 → ∃ W2 d, Step W1 H1 W2 H2 ∧ ds[i]? = some d ∧ Rep mg W2 x d
def CpI (mg : Gm) (Wx : WX) (w : TI) (f : DTI) : Prop := ∀ B ρ Q E, f ρ Q E → ∀ W σ H Q', Holds W H → EnvR mg B W H σ ρ → ExR mg Wx W H σ E → (∀ W' H' J ds, Step W H W' H' → WalkD mg W' J ds → Q ds → Q' J H') → w σ H Q'
def DI (Xs : ι → Cx) (mg : Gm) (Wx : WX) (tg e : Expr) (f : DTI) : Prop := ∃ w, (∀ i, PI (Xs i) tg e w) ∧ CpI mg Wx w f
/-- a walk that leaves the heap as it was -/
theorem WalkD.of {W : Wd} {J : It} {ds : List D} {G : Hp → Prop} {vs : Nat → Option V} (w : L2.Walk J ds.length G (fun i H x H' => H' = H ∧ vs i = some x)) (hG : ∀ W1 H1, Le W W1 → Holds W1 H1 → G H1) (hv : ∀ i x, i < ds.length → vs i = some x → ∃ d, ds[i]? = some d ∧ Rep mg W x d) : WalkD mg W J ds := by
  intro W1 H1 l hh
  refine ⟨fun i hi => w.goes i H1 hi (hG W1 H1 l hh), w.stops H1 (hG W1 H1 l hh), fun i x H2 hi y => ?_⟩
  obtain ⟨e, hx⟩ := w.yields i H1 x H2 hi (hG W1 H1 l hh) y
  subst e
  obtain ⟨d, h1, h2⟩ := hv i x hi hx
  exact ⟨W1, d, Step.refl hh, h1, h2.mono l⟩
abbrev dIList (f : DTE) : DTI := fun ρ Q E => f ρ (fun x => match x with
  | .lst ds => Q ds
  | .fz ds => Q ds
  | _ => False) E
theorem WalkD.list {W : Wd} {H : Hp} {a : Addr} {vs : List V} {ds : List D} (r : Reps mg W vs ds) (h : ∀ W1 H1, Le W W1 → Holds W1 H1 → SqL mg.K H1 a vs) : WalkD mg W (Itl mg.K a) ds := by
  have e := r.length
  have w := walk_list (K := mg.K) (a := a) (xs := vs)
  rw [e] at w
  exact WalkD.of (vs := fun i => vs[i]?) w h fun i x hi hx => r.getV hx
theorem di_list {tg e : Expr} {f : DTE} (h : DE Xs mg Wx e f) (hK : ∀ j, (Xs j).K = mg.K := by intro _; rfl) : DI Xs mg Wx tg e (dIList f) := by
  obtain ⟨t, h1, h2⟩ := h
  refine ⟨iList mg.K t, fun j => by
    have z := pi_list (tg := tg) (h1 j)
    rw [hK j] at z
    exact z, fun B ρ Q E hf W σ H Q' hh e x q => ?_⟩
  refine h2 B ρ _ E hf W σ H _ hh e x fun W1 H1 v d s1 r1 k1 => ?_
  cases r1 with
  | lst ha rs => exact ⟨_, rfl, ⟨_, SqL.of (s1.holds.same _ _ ha)⟩, q W1 H1 _ _ s1 (WalkD.list (H := H1) rs fun W2 H2 l hh => SqL.of (hh.same _ _ (l.h _ _ ha))) k1⟩
  | fz ha rs => exact ⟨_, rfl, ⟨_, s1.holds.same.seq ha⟩, q W1 H1 _ _ s1 (WalkD.list (H := H1) rs fun W2 H2 l hh => hh.same.seq (l.h.seq ha)) k1⟩
  | _ => exact k1.elim
def rangeD (lo : Int) (n : Nat) : List D := (List.range n).map fun (i : Nat) => D.int (lo + i)
theorem rangeD_len (lo : Int) (n : Nat) : (rangeD lo n).length = n := by simp [rangeD]
theorem WalkD.range {W : Wd} {lo : Int} {n : Nat} : WalkD mg W (Itr lo n) (rangeD lo n) := by
  intro W1 H1 l hh
  have w := walk_range (lo := lo) (n := n)
  refine ⟨fun i hi => w.goes i H1 (by rw [rangeD_len] at hi; exact hi) True.intro, by rw [rangeD_len]; exact w.stops H1 True.intro, fun i x H3 hi y => ?_⟩
  rw [rangeD_len] at hi
  obtain ⟨e, hx⟩ := w.yields i H1 x H3 hi True.intro y
  subst e hx
  refine ⟨W1, _, Step.refl hh, ?_, .int _⟩
  unfold rangeD
  rw [List.getElem?_map, List.getElem?_range hi]
  rfl
abbrev dIRng1 (g : DTA) : DTI := fun ρ Q E => g ρ (fun ds => match ds with
  | [.int j] => -(2 ^ 62) ≤ j ∧ j < 2 ^ 62 ∧ Q (rangeD 0 j.toNat)
  | _ => False) E
theorem di_range1 {tg a : Expr} {p : Pos} {g : DTA} (hm : mg.mg "range" = none) (h : DA Xs mg Wx [a] g) (hM : ∀ j, (Xs j).mg = mg.mg := by intro _; rfl) (hg : ∀ j, Gl (Xs j) "range" := by intro _; rfl) (hs : ∀ j, starEach [a] (Xs j).env = [(false, eval a (Xs j).env)] := by intro _; rfl) :
    DI Xs mg Wx tg (.Call (.Name "range" p) [a] [] pos) (dIRng1 g) := by
  obtain ⟨t, h1, h2⟩ := h
  refine ⟨iRng1 t, fun j => pi_range1 (hg j) (by rw [hM j]; exact hm) (h1 j) (hs j), fun B ρ Q E hf W σ H Q' hh e x q => ?_⟩
  refine h2 B ρ _ E hf W σ H _ hh e x fun W1 H1 vs ds s1 r1 k1 => ?_
  split at k1
  · rename_i j
    cases r1 with
    | cons r rs =>
      cases r
      cases rs
      exact ⟨j, rfl, k1.1, k1.2.1, q W1 H1 _ _ s1 WalkD.range k1.2.2⟩
  · exact k1.elim
/-! ### for -/
def forD (T : Tg) (f : DTS) (N : Nd) : List D → Env → Prop
  | [], ρ => N.nx ρ
  | d :: ds, ρ => ∃ ρ1, T.put d ρ = some ρ1 ∧ f { N with nx := forD T f N ds, ct := forD T f N ds, bk := N.nx } ρ1
abbrev dFor (w : DTI) (T : Tg) (f : DTS) : DTS := fun N ρ => w ρ (fun ds => forD T f N ds ρ) (fun x => N.rs x ρ)
theorem ds_for {tg iter : Expr} {body : List Stmt} {w : DTI} {T : Tg} {f : DTS} (hi : DI Xs mg Wx tg iter w) (hg : DG Xs mg tg T) (hb : DSs Xs mg Wx body f) (hp : ∀ j, PassesOwn (model (Xs j).prog (Xs j).w) (Xs j).A (Xs j).env (Xs j).xe) (hc : ∀ j, (Xs j).calm = true := by intro _; rfl)
    (hs : ∀ j x, foldedSetIterable iter (Xs j).env x = pure x := by intro _ _; rfl) : DS Xs mg Wx (.For tg iter body [] pos) (dFor w T f) := by
  obtain ⟨wi, i1, i2⟩ := hi
  obtain ⟨g, g1, g2⟩ := hg
  obtain ⟨tb, b1, b2⟩ := hb
  refine ⟨_, fun j => ps_for (hp j) (hc j) (i1 j) (g1 j) (b1 j) (hs j), fun W0 B N ρ hf W σ H Ds s e n => ?_⟩
  refine i2 B ρ _ _ hf W σ H _ s.holds e (n.ex s e) fun W1 H1 J ds s1 wk k1 => ?_
  refine ⟨fun i m σ' H' => m = ds.length - i ∧ i ≤ ds.length ∧ ∃ W' ρ', Step W0 B W' H' ∧ EnvR mg B W' H' σ' ρ' ∧ Le W1 W' ∧ forD T f N (ds.drop i) ρ', ⟨ds.length, by simp, Nat.zero_le _, W1, ρ, s.trans s1, e.step s1, Le.refl _, k1⟩, ?_⟩
  rintro i m σ' H' ⟨rfl, hi, W', ρ', s', e', l', k'⟩
  obtain ⟨go, stop, yld⟩ := wk W' H' l' s'.holds
  by_cases hlt : i < ds.length
  · refine .inr ⟨go i hlt, fun σ2 H2 => ∃ W2 ρ2, Step W0 B W2 H2 ∧ EnvR mg B W2 H2 σ2 ρ2 ∧ Le W1 W2 ∧ forD T f N (ds.drop (i + 1)) ρ2, fun σ2 H2 q => ⟨ds.length - (i + 1), by omega, rfl, hlt, q⟩, fun x H2 y => ?_⟩
    obtain ⟨W2, d, s2, hd, r⟩ := yld i x H2 hlt y
    have ed : ds.drop i = d :: ds.drop (i + 1) := by
      rw [List.drop_eq_getElem_cons hlt]
      have := (List.getElem?_eq_some_iff.mp hd).2
      rw [this]
    rw [ed] at k'
    obtain ⟨ρ1, p1, k2⟩ := k'
    refine g2 B W2 H2 x d σ' ρ' ρ1 _ s2.holds r (e'.step s2) p1 fun σ3 e3 _ => ?_
    have s02 := s'.trans s2
    have n2 := n.rebase s02
    refine b2 W2 B _ ρ1 k2 W2 σ3 H2 _ s02.rebase e3 ⟨fun W3 H3 σ4 ρ4 s3 e4 k4 => ⟨W3, ρ4, s02.join s3, e4, (l'.trans s2.le).trans s3.le, k4⟩, n2.rt, n2.nx, fun W3 H3 σ4 ρ4 s3 e4 k4 => ⟨W3, ρ4, s02.join s3, e4, (l'.trans s2.le).trans s3.le, k4⟩, n2.rs⟩
  · have ei : i = ds.length := by omega
    subst ei
    rw [List.drop_length] at k'
    exact .inl ⟨stop, n.nx W' H' σ' ρ' s' e' k'⟩
/-! ### while -/
/-! ### comprehensions -/
def lcD (body : D → (Option D → Prop) → Prop) : List D → (List D → Prop) → Prop
  | [], Q => Q []
  | d :: ds, Q => body d fun o => lcD body ds fun rs => match o with
    | some r => Q (r :: rs)
    | none => Q rs
def wipeD (ρ : Env) : List Nat → Env
  | [] => ρ
  | v :: vs => (wipeD ρ vs).set v .no
theorem EnvR.wipe {B : Hp} {W : Wd} {H : Hp} {σ : St} {ρ : Env} (e : EnvR mg B W H σ ρ) : ∀ vs : List Nat, EnvR mg B W H (L2.wipe σ vs) (wipeD ρ vs)
  | [] => e
  | v :: vs => (EnvR.wipe e vs).no
abbrev dLc (w : DTI) (T : Tg) (ft : DTT) (fe : DTE) (vs : List Nat) : DTE := fun ρ Q E => w ρ (fun ds => ds.length ≤ sizeLine ∧ lcD (fun d k => ∃ ρ2, T.put d (wipeD ρ vs) = some ρ2 ∧ ft ρ2 (fun b => bit b (fe ρ2 (fun r => k (some r)) F0) (k none)) F0) ds fun rs => Q (.lst rs)) E
abbrev blkF (Xs : ι → Cx) (scope : Scope) : ι × Shared × Hp × Addr × List (Str × Addr) × List Addr → Cx := fun j => (Xs j.1).blk j.2.1 j.2.2.1 scope (compEnvC scope j.2.2.2.2.1 j.2.2.2.1 (Xs j.1).env) j.2.2.2.2.2
def DTs (Xs : ι → Cx) (mg : Gm) (Wx : WX) (ifs : List Expr) (f : DTT) : Prop := ∃ t, (∀ i, PTs (Xs i) ifs t) ∧ CpT mg Wx t f
abbrev dYes : DTT := fun _ Q _ => Q true
theorem dts_nil : DTs Xs mg Wx [] dYes := ⟨_, fun _ => pts_nil, fun B ρ Q E hf W σ H Q' hh e x q => q W H true (Step.refl hh) hf⟩
theorem Cp.lc {wi : TI} {g : TG} {tt : TT} {te : TE} {w : DTI} {T : Tg} {ft : DTT} {fe : DTE} {vs : List Nat} (hi : CpI mg Wx wi w) (hg : CpG mg g T) (hv : ∀ i ∈ T.slots, i ∈ vs) (ht : CpT mg Wx0 tt ft) (he : Cp mg Wx0 te fe) : Cp mg Wx (tLc wi g tt te vs) (dLc w T ft fe vs) := by
  intro B ρ Q E hf W σ H Q' hh e x q
  refine hi B ρ _ E hf W σ H _ hh e x fun W1 H1 J ds s1 wk k1 => ?_
  obtain ⟨hsz, k1⟩ := k1
  intro A hA
  have e1 := e.step s1
  refine ⟨fun i m H' => m = ds.length - i ∧ i ≤ ds.length ∧ ∃ W' us acc, Step W1 H1 W' H' ∧ H' A = some (.lst us) ∧ W'.H A = none ∧ ¬ W'.T A ∧ Reps mg W' us acc ∧ acc.length ≤ i ∧ lcD _ (ds.drop i) (fun rs => Q (.lst (acc ++ rs))),
    ⟨ds.length, by simp, Nat.zero_le _, W1, [], [], Step.lay s1.holds hA, upd_same, s1.holds.same.free hA, s1.holds.nT hA, .nil, Nat.le_refl _, k1⟩, ?_⟩
  rintro i m H' ⟨rfl, hi, W', us, acc, s', hL, nw, nt, rs, la, k'⟩
  obtain ⟨go, stop, yld⟩ := wk W' H' s'.le s'.holds
  by_cases hlt : i < ds.length
  · refine .inr ⟨go i hlt, fun H2 => ∃ W2 us2 acc2, Step W1 H1 W2 H2 ∧ H2 A = some (.lst us2) ∧ W2.H A = none ∧ ¬ W2.T A ∧ Reps mg W2 us2 acc2 ∧ acc2.length ≤ i + 1 ∧ lcD _ (ds.drop (i + 1)) (fun rs => Q (.lst (acc2 ++ rs))), fun H2 q => ⟨ds.length - (i + 1), by omega, rfl, hlt, q⟩, fun y H2 hy => ?_⟩
    obtain ⟨W2, d, s2, hd, r⟩ := yld i y H2 hlt hy
    have ed : ds.drop i = d :: ds.drop (i + 1) := by
      rw [List.drop_eq_getElem_cons hlt]
      have := (List.getElem?_eq_some_iff.mp hd).2
      rw [this]
    rw [ed] at k'
    obtain ⟨ρ1, p1, k2⟩ := k'
    have sA : ∀ {Wa Wb : Wd} {Ha Hb : Hp} {ws : List V}, Step Wa Ha Wb Hb → Ha A = some (.lst ws) → Wa.H A = none → ¬ Wa.T A → Hb A = some (.lst ws) ∧ Wb.H A = none ∧ ¬ Wb.T A := fun st a1 a2 a3 => ⟨st.keep A _ a1 a3, by rw [st.fresh A _ a1]; exact a2, fun t => by
      rcases st.freshT A t with t | t
      · exact a3 t
      · rw [a1] at t
        cases t⟩
    refine hg B W2 H2 y d _ _ ρ1 _ s2.holds r ((e1.step s').step s2 |>.wipe vs) p1 fun σ3 e3 w3 => ?_
    refine ⟨(w3 vs hv).trans ?_, ?_⟩
    · have idem : ∀ ws : List Nat, L2.wipe (L2.wipe σ vs) ws = L2.wipe σ vs ∨ True := fun _ => .inr trivial
      exact wipe_wipe σ vs
    refine ht B ρ1 _ _ k2 W2 σ3 H2 _ s2.holds e3 ExR.f0 fun W3 H3 b s3 k3 => ?_
    obtain ⟨b1, b2, b3⟩ := sA (s2.trans s3) hL nw nt
    cases b with
    | true =>
      rw [if_pos rfl]
      refine he B ρ1 _ _ k3 W3 σ3 H3 _ s3.holds (e3.step s3) ExR.f0 fun W4 H4 z dz s4 r4 k4 => ?_
      obtain ⟨c1, c2, c3⟩ := sA s4 b1 b2 b3
      have s14 := (s'.trans s2).trans (s3.trans s4)
      refine ⟨us, c1, ?_, W4, us ++ [z], acc ++ [dz], s14.own hA c1 c2 c3, upd_same, c2, c3, Reps.snoc (rs.mono ((s2.trans s3).trans s4).le) r4, ?_, ?_⟩
      · rw [rs.length]
        omega
      · rw [List.length_append, List.length_singleton]
        omega
      · simpa [List.append_assoc] using k4
    | false =>
      rw [if_neg Bool.false_ne_true]
      exact ⟨W3, us, acc, (s'.trans s2).trans s3, b1, b2, b3, rs.mono (s2.trans s3).le, by omega, k3⟩
  · have ei : i = ds.length := by omega
    subst ei
    rw [List.drop_length] at k'
    refine .inl ⟨stop, q (W'.put A (.lst us)) H' _ _ (s1.trans (s'.taken hA hL nw nt)) (Rep.newLst rs nw) ?_⟩
    have k2 : Q (.lst (acc ++ [])) := k'
    rw [List.append_nil] at k2
    exact k2
theorem de_lc {elt tg iter : Expr} {ifs : List Expr} {scope : Scope} {own : List (Str × Nat)} {w : DTI} {T : Tg} {ft : DTT} {fe : DTE} (hN : ∀ j, (Xs j).N.Nodup) (hi : DI Xs mg Wx tg iter w) (ok : ∀ j, BlkOk (Xs j).N (Xs j).env.scope scope own) (hg : DG (blkF Xs scope) mg tg T) (ht : DTs (blkF Xs scope) mg Wx0 ifs ft) (he : DE (blkF Xs scope) mg Wx0 elt fe)
    (hv : ∀ i ∈ T.slots, i ∈ own.map (·.2) := by decide) (hc : ∀ j, (Xs j).calm = true := by intro _; rfl) (hs : ∀ j x, foldedSetIterable iter (Xs j).env x = pure x := by intro _ _; rfl) : DE Xs mg Wx (.ListComp elt [⟨tg, iter, ifs, 0⟩] scope pos) (dLc w T ft fe (own.map (·.2))) := by
  obtain ⟨wi, i1, i2⟩ := hi
  obtain ⟨g, g1, g2⟩ := hg
  obtain ⟨tt, t1, t2⟩ := ht
  obtain ⟨te, e1, e2⟩ := he
  exact ⟨_, fun j => pe_lc (hc j) (hN j) (i1 j) (ok j) (fun s H C cl fp => g1 (j, s, H, C, cl, fp)) (fun s H C cl fp => t1 (j, s, H, C, cl, fp)) (fun s H C cl fp => e1 (j, s, H, C, cl, fp)) (hs j), Cp.lc i2 g2 hv t2 e2⟩
theorem ds_setLc {i : Nat} {y : Str} {py spos : Pos} {elt tg iter : Expr} {ifs : List Expr} {scope : Scope} {own : List (Str × Nat)} {w : DTI} {T : Tg} {ft : DTT} {fe : DTE} (hN : ∀ j, (Xs j).N.Nodup) (hi : DI Xs mg Wx tg iter w) (ok : ∀ j, BlkOk (Xs j).N (Xs j).env.scope scope own) (hg : DG (blkF Xs scope) mg tg T) (ht : DTs (blkF Xs scope) mg Wx0 ifs ft) (he : DE (blkF Xs scope) mg Wx0 elt fe)
    (hsw : ∀ j, swapsWith (.ListComp elt [⟨tg, iter, ifs, 0⟩] scope pos) (some (.Name y py)) spos.line (Xs j).env = pure true) (hy : ∀ j, (Xs j).N[i]? = some y := by intro _; rfl) (hyl : ∀ j, (Xs j).env.scope.names.lookup y = some .local := by intro _; rfl)
    (hv : ∀ i ∈ T.slots, i ∈ own.map (·.2) := by decide) (hc : ∀ j, (Xs j).calm = true := by intro _; rfl) (hs : ∀ j x, foldedSetIterable iter (Xs j).env x = pure x := by intro _ _; rfl) : DS Xs mg Wx (.Assign [.Name y py] (.ListComp elt [⟨tg, iter, ifs, 0⟩] scope pos) spos) (dSet i (dLc w T ft fe (own.map (·.2)))) := by
  obtain ⟨wi, i1, i2⟩ := hi
  obtain ⟨g, g1, g2⟩ := hg
  obtain ⟨tt, t1, t2⟩ := ht
  obtain ⟨te, e1, e2⟩ := he
  refine ⟨_, fun j => ps_setLc (i := i) (hc j) (hN j) (hy j) (hyl j) (hsw j) (i1 j) (ok j) (fun s H C cl fp => g1 (j, s, H, C, cl, fp)) (fun s H C cl fp => t1 (j, s, H, C, cl, fp)) (fun s H C cl fp => e1 (j, s, H, C, cl, fp)) (hs j), fun W0 B N ρ hf W σ H Ds s e n => ?_⟩
  exact Cp.lc i2 g2 hv t2 e2 B ρ _ _ hf W σ H _ s.holds e (n.ex s e) fun W1 H1 v d s1 r1 k1 => n.nx W1 H1 _ _ (s.trans s1) ((e.step s1).set r1) k1
/-! ### a def by its body -/
def startD (n : Nat) (ds : List D) : Env := ds.map Sl.d ++ List.replicate (n - ds.length) .no
theorem EnvR.start {N : List Str} {W : Wd} {H : Hp} : ∀ {vs : List V} {ds : List D}, Reps mg W vs ds → EnvR mg H W H (L2.start N vs) (startD N.length ds) := by
  intro vs ds r
  have el := r.length
  refine ⟨by simp [L2.start, startD, el], fun i s h => ?_, fun i j xs ys o1 o2 a _ h1 _ _ _ m1 _ => ?_⟩
  · unfold startD at h
    unfold L2.start
    by_cases hi : i < ds.length
    · rw [List.getElem?_append_left (by simpa using hi), List.getElem?_map] at h
      rw [List.getElem?_append_left (by simpa [el] using hi), List.getElem?_map]
      cases q : ds[i]? with
      | none =>
        rw [q] at h
        cases h
      | some d =>
        rw [q] at h
        cases h
        obtain ⟨v, h1, h2⟩ := r.get q
        exact ⟨some v, by rw [h1]; rfl, v, rfl, h2⟩
    · rw [List.getElem?_append_right (by simpa using Nat.le_of_not_lt hi), List.getElem?_replicate] at h
      rw [List.getElem?_append_right (by simpa [el] using Nat.le_of_not_lt hi), List.getElem?_replicate]
      split at h
      · cases h
        rename_i hq
        refine ⟨none, ?_, True.intro⟩
        rw [if_pos]
        simpa [el] using hq
      · cases h
  · unfold startD at h1
    have hm := List.mem_of_getElem? h1
    rcases List.mem_append.mp hm with q | q
    · obtain ⟨_, _, z⟩ := List.mem_map.mp q
      rw [← z] at m1
      cases m1
    · have z := List.eq_of_mem_replicate q
      rw [z] at m1
      cases m1
/-- the rule for a def, where no repr is under way -/
theorem fnG_of {P : Program} {w : World} {K : PySem.W.Frag} {mg : Str → Option Value} {base : Heap} {x qual : Str} {st : Stmt} {fa : Addr} {fd : FuncData} {N ps : List Str} {k : Nat} {sp : Sp} (F : Fun K x qual st fa fd) (S : FnScope N ps (defScope st)) (ln : ∀ vs H Q E, sp vs H Q E → vs.length = ps.length)
    (hb : ∀ (cdv : Value) (A : Around) (out : List PySem.Env) (z : Shared) (H : Hp) (vs : List V) (Q : VK) (E : XK), RmG k (A.deeper (PyProof.Rows.envOfC qual (defScope st) z.heap.objs.size fa cdv)) → sp vs H Q E →
      ∃ t, PSs (cxOf (L2.CX P w) P w K mg base N qual (defScope st) fa cdv A out z H E) (defBody st) t ∧ t { nx := fun _ H' => Q .non H', rt := Q } (L2.start N vs) H) : FnG P w K mg base (k + 1) fa fd ps sp := by
  obtain ⟨oc, od, kV, doc, pm, an, cdv, ct, osl, rfl, lk, hcd⟩ := F.ex
  refine ⟨ln, fun A out z H ag us vs Q E m e0 bd rv hs => ?_⟩
  have inK : K.In z.heap := e0.mod.kin.keeps fun c u q => (e0.bs c u q).1
  have noL : z.heap.NoLimit := e0.mod.nolimit.keeps fun c u q => (e0.bs c u q).1
  have kinds : ∀ y ∈ ps.zip us, (defScope st).names.lookup y.1 = some .local ∨ ((defScope st).names.lookup y.1 = some .cell ∧ ((cellsFrom (z.heap.objs.size + 1) (defScope st).names []).lookup y.1).isSome = true) := by
    rintro ⟨n, v⟩ hy
    refine (S.par n (List.of_mem_zip hy).1).imp id ?_
    intro c
    exact ⟨c, PySem.W.cellsFrom_some _ _ _ (.inl c)⟩
  apply codeAny_call_function m.r.depth (inK _ _ lk) rfl S.co S.gen rfl (PySem.W.codeRec_of inK hcd)
  apply bd
  apply wpAny_newFunctionEnv_cells S.kind kinds
  intro env he z1 inC
  subst he
  obtain ⟨t, pt, tq⟩ := hb cdv A out z H vs Q E ⟨m.r.deeper _, m.g⟩ hs
  have I0 := inv_start (CX := L2.CX P w) (E := E) S m.r.hd e0 (ln _ _ _ _ hs) rv inC
  refine ⟨noL.keeps inC.toInCall.keep, codeAny_func (wpAny_mono (pt.run [] z1 _ H _ I0 tq) ?_ fun _ _ q => q)⟩
  intro fl z' hfl
  match fl, hfl with
  | .ret u, ⟨v, _, H', J, ru, q⟩ => exact ⟨v, H', J.os, J.bare, J.base, J.hok, ru, q⟩
  | .next, ⟨_, H', J, q⟩ => exact ⟨V.non, H', J.os, J.bare, J.base, J.hok, rfl, q⟩
  | .brk, ⟨_, _, _, q⟩ => exact q.elim
  | .cont, ⟨_, _, _, q⟩ => exact q.elim
theorem def_ok {P : Program} {w : World} {base : Heap} {x qual : Str} {st : Stmt} {fa : Addr} {fd : FuncData} {N ps : List Str} {k : Nat} {f : List D → M D} (F : Fun mg.K x qual st fa fd) (S : FnScope N ps (defScope st))
    (h : ∀ (cdv : Value) (A : Around) (outer : List PySem.Env) (s : Shared) (H : Hp) (E : XK), RmG k (A.deeper (PyProof.Rows.envOfC qual (defScope st) s.heap.objs.size fa cdv)) →
      ∃ g, DSs (fun _ : Unit => cxOf (L2.CX P w) P w mg.K mg.mg base N qual (defScope st) fa cdv A outer s H E) mg (fun cls d _ H' => E cls d H') (defBody st) g ∧
        ∀ ds Q Ex, ds.length = ps.length → f ds Q Ex → g ⟨fun _ => Q .non, fun d _ => Q d, fun _ => False, fun _ => False, fun x _ => Ex x⟩ (startD N.length ds)) :
    FnG P w mg.K mg.mg base (k + 1) fa fd ps (spD mg ps.length f) := by
  refine fnG_of F S (fun vs H Q E hs => ?_) (fun cdv A outer s H vs Q E hr hs => ?_)
  · obtain ⟨W, ds, Qd, Ed, _, r, l, _⟩ := hs
    rw [r.length, l]
  · obtain ⟨W, ds, Qd, Ed, hh, r, l, hf, q, x⟩ := hs
    obtain ⟨g, ⟨t, h1, h2⟩, h3⟩ := h cdv A outer s H E hr
    refine ⟨t, h1 (), ?_⟩
    refine h2 W H _ _ (h3 ds Qd Ed l hf) W _ H _ (Step.refl hh) (EnvR.start r) ⟨fun W' H' σ' ρ' s' e' k => q W' H' _ _ s' .non k, fun W' H' _ _ v d s' _ r k => q W' H' v d s' r k, fun _ _ _ _ _ _ k => k, fun _ _ _ _ _ _ k => k, fun W' H' σ' ρ' cls dd y s' e' r' k => x W' H' cls dd y s' r' k⟩
end
end FP
/-! FP4: operators, comparisons, built-in functions by data. -/
namespace FP
open PySem L2
variable [Tabl]
section
variable {ι : Type} {Xs : ι → Cx} {mg : Gm} {Wx : WX} {pos : Pos}
/-! ### arithmetic, joining -/
theorem op_catK {X : Cx} {K : PySem.W.Frag} (h : X.K = K) : OpR X (binaryOp .Add) (rCatA K) := by
  subst h
  exact op_catA
def rdAdd : RD2 := fun x y Q => match x, y with
  | .int i, .int j => Q (.int (i + j))
  | .str a, .str b => a.length + b.length ≤ sizeLine ∧ Q (.str (a ++ b))
  | .lst xs, .lst ys => xs.length + ys.length ≤ sizeLine ∧ Q (.lst (xs ++ ys))
  | .tup xs, .tup ys => xs.length + ys.length ≤ sizeLine ∧ Q (.tup (xs ++ ys))
  | _, _ => False
theorem ok_add (hK : ∀ j, (Xs j).K = mg.K := by intro _; rfl) : OpOk Xs mg (binaryOp .Add) rdAdd := by
  refine ⟨_, fun j => OpR.or op_add (OpR.or op_add_str (OpR.or op_cat (op_catK (hK j)))), ?_⟩
  intro W H x y dx dy Q Q' hh rx ry h q
  unfold rdAdd at h
  split at h
  · cases rx
    cases ry
    exact .inl ⟨_, _, rfl, rfl, q W H _ _ (Step.refl hh) (.int _) h⟩
  · cases rx
    cases ry
    exact .inr (.inl ⟨_, _, rfl, rfl, h.1, q W H _ _ (Step.refl hh) (.str _) h.2⟩)
  · cases rx with
    | lst ha ra =>
      cases ry with
      | lst hb rb => exact .inr (.inr (.inl ⟨_, _, _, _, rfl, rfl, hh.same _ _ ha, hh.same _ _ hb, by rw [ra.length, rb.length]; exact h.1, to_lst q hh (ra.append rb) h.2⟩))
  · cases rx with
    | tup ha ra =>
      cases ry with
      | tup hb rb =>
        refine .inr (.inr (.inr ⟨_, _, _, _, rfl, rfl, SqT.of (hh.same _ _ ha), SqT.of (hh.same _ _ hb), by rw [ra.length, rb.length]; exact h.1, fun e => ?_, fun _ e => ?_, fun _ _ => to_tup q hh (ra.append rb) h.2⟩))
        · subst e
          cases ra
          exact q W H _ _ (Step.refl hh) (.tup hb rb) h.2
        · subst e
          cases rb
          have h2 := h.2
          rw [List.append_nil] at h2
          exact q W H _ _ (Step.refl hh) (.tup ha ra) h2
  · exact h.elim
def rdSub : RD2 := fun x y Q => match x, y with
  | .int i, .int j => Q (.int (i - j))
  | _, _ => False
theorem ok_sub : OpOk Xs mg (binaryOp .Sub) rdSub := by
  refine ⟨_, fun j => op_sub, ?_⟩
  intro W H x y dx dy Q Q' hh rx ry h q
  unfold rdSub at h
  split at h
  · cases rx
    cases ry
    exact ⟨_, _, rfl, rfl, q W H _ _ (Step.refl hh) (.int _) h⟩
  · exact h.elim
def rdMul : RD2 := fun x y Q => match x, y with
  | .int i, .int j => CMul i j ∧ Q (.int (i * j))
  | .lst xs, .int k => (-(2 ^ 63) ≤ k ∧ k < 2 ^ 63) ∧ xs.length * k.toNat ≤ sizeLine ∧ Q (.lst (List.replicate k.toNat xs).flatten)
  | _, _ => False
theorem Reps.flat {W : Wd} {vs : List V} {ds : List D} (r : Reps mg W vs ds) : ∀ n, Reps mg W (List.replicate n vs).flatten (List.replicate n ds).flatten
  | 0 => .nil
  | n + 1 => by
    rw [List.replicate_succ, List.replicate_succ, List.flatten_cons, List.flatten_cons]
    exact r.append (Reps.flat r n)
theorem ok_mul : OpOk Xs mg (binaryOp .Mult) rdMul := by
  refine ⟨_, fun j => OpR.or op_mul op_rep, ?_⟩
  intro W H x y dx dy Q Q' hh rx ry h q
  unfold rdMul at h
  split at h
  · cases rx
    cases ry
    exact .inl ⟨_, _, rfl, rfl, h.1, q W H _ _ (Step.refl hh) (.int _) h.2⟩
  · cases rx with
    | lst ha ra =>
      cases ry
      exact .inr ⟨_, _, _, rfl, rfl, hh.same _ _ ha, h.1.1, h.1.2, by rw [ra.length]; exact h.2.1, to_lst q hh (ra.flat _) h.2.2⟩
  · exact h.elim
def rdFdiv : RD2 := fun x y Q => match x, y with
  | .int i, .int j => CDivN i j ∧ Q (.int (i.fdiv j))
  | _, _ => False
theorem ok_fdiv : OpOk Xs mg (binaryOp .FloorDiv) rdFdiv := by
  refine ⟨_, fun j => op_fdivN, ?_⟩
  intro W H x y dx dy Q Q' hh rx ry h q
  unfold rdFdiv at h
  split at h
  · cases rx
    cases ry
    exact ⟨_, _, rfl, rfl, h.1, q W H _ _ (Step.refl hh) (.int _) h.2⟩
  · exact h.elim
def rdMod : RD2 := fun x y Q => match x, y with
  | .int i, .int j => 0 < j ∧ Q (.int (i % j))
  | _, _ => False
theorem ok_mod : OpOk Xs mg (binaryOp .Mod) rdMod := by
  refine ⟨_, fun j => op_mod, ?_⟩
  intro W H x y dx dy Q Q' hh rx ry h q
  unfold rdMod at h
  split at h
  · cases rx
    cases ry
    exact ⟨_, _, rfl, rfl, h.1, q W H _ _ (Step.refl hh) (.int _) h.2⟩
  · exact h.elim
def CPowW (a n : Int) : Prop := 0 ≤ n ∧ (Builtin.Int.intBits a : Int) * n ≤ 2 ^ 27
theorem op_powW {X : Cx} : OpR X (binaryOp .Pow) (rI CPowW fun i j => .int (i ^ j.toNat)) := opI fun _ _ _ _ _ _ _ hc q => PyProof.Rows.pow_int hc.1 hc.2 q
def rdPow : RD2 := fun x y Q => match x, y with
  | .int i, .int j => CPowW i j ∧ Q (.int (i ^ j.toNat))
  | _, _ => False
theorem ok_pow : OpOk Xs mg (binaryOp .Pow) rdPow := by
  refine ⟨_, fun j => op_powW, ?_⟩
  intro W H x y dx dy Q Q' hh rx ry h q
  unfold rdPow at h
  split at h
  · cases rx
    cases ry
    exact ⟨_, _, rfl, rfl, h.1, q W H _ _ (Step.refl hh) (.int _) h.2⟩
  · exact h.elim
/-! ### order -/
def rdLt : RD2 := fun x y Q => match x, y with
  | .int i, .int j => Q (.bl (decide (i < j)))
  | .str a, .str b => Q (.bl (decide (a.cps.toList < b.cps.toList)))
  | _, _ => False
def rdLe : RD2 := fun x y Q => match x, y with
  | .int i, .int j => Q (.bl (decide (i ≤ j)))
  | .str a, .str b => Q (.bl (!decide (b.cps.toList < a.cps.toList)))
  | _, _ => False
def rdGt : RD2 := fun x y Q => match x, y with
  | .int i, .int j => Q (.bl (decide (j < i)))
  | .str a, .str b => Q (.bl (decide (b.cps.toList < a.cps.toList)))
  | _, _ => False
def rdGe : RD2 := fun x y Q => match x, y with
  | .int i, .int j => Q (.bl (decide (j ≤ i)))
  | .str a, .str b => Q (.bl (!decide (a.cps.toList < b.cps.toList)))
  | _, _ => False
theorem ok_lt : OpOk Xs mg (compareOp .Lt) rdLt := by
  refine ⟨_, fun j => OpR.or op_lt op_lt_str, ?_⟩
  intro W H x y dx dy Q Q' hh rx ry h q
  unfold rdLt at h
  split at h
  · cases rx
    cases ry
    exact .inl ⟨_, _, rfl, rfl, q W H _ _ (Step.refl hh) (.bl _) h⟩
  · cases rx
    cases ry
    exact .inr ⟨_, _, rfl, rfl, q W H _ _ (Step.refl hh) (.bl _) h⟩
  · exact h.elim
theorem ok_gt : OpOk Xs mg (compareOp .Gt) rdGt := by
  refine ⟨_, fun j => OpR.or op_gt op_gt_str, ?_⟩
  intro W H x y dx dy Q Q' hh rx ry h q
  unfold rdGt at h
  split at h
  · cases rx
    cases ry
    exact .inl ⟨_, _, rfl, rfl, q W H _ _ (Step.refl hh) (.bl _) h⟩
  · cases rx
    cases ry
    exact .inr ⟨_, _, rfl, rfl, q W H _ _ (Step.refl hh) (.bl _) h⟩
  · exact h.elim
/-! ### equality -/
mutual
def toPy : D → Option PyData
  | .non => some .none
  | .bl b => some (.bool b)
  | .int i => some (.int i)
  | .str x => some (.str x)
  | .tup xs => match toPys xs with
    | some ps => some (.tuple ps)
    | none => none
  | .lst xs => match toPys xs with
    | some ps => some (.list ps)
    | none => none
  | .fz _ => none
  | .dct _ => none
  | .ins _ _ => none
  | .tok => none
  | .cl _ => none
  | .fn _ _ => none
def toPys : List D → Option (List PyData)
  | [] => some []
  | x :: xs => match toPy x, toPys xs with
    | some p, some ps => some (p :: ps)
    | _, _ => none
end
mutual
theorem Rep.dp {W : Wd} {H : Hp} (hh : Holds W H) : ∀ {v : V} {d : D} {p : PyData}, Rep mg W v d → toPy d = some p → Dp mg.K H v p
  | _, _, _, .non, e => by
    unfold toPy at e
    cases e
    exact .non
  | _, _, _, .bl b, e => by
    unfold toPy at e
    cases e
    exact .bl b
  | _, _, _, .int i, e => by
    unfold toPy at e
    cases e
    exact .int i
  | _, _, _, .str x, e => by
    unfold toPy at e
    cases e
    exact .str x
  | _, _, _, .tup ha r, e => by
    unfold toPy at e
    split at e
    · rename_i ps hp
      cases e
      exact .tup (SqT.of (hh.same _ _ ha)) (Reps.dp hh r hp)
    · cases e
  | _, _, _, .lst ha r, e => by
    unfold toPy at e
    split at e
    · rename_i ps hp
      cases e
      exact .lst (SqL.of (hh.same _ _ ha)) (Reps.dp hh r hp)
    · cases e
  | _, _, _, .fz _ _, e => by
    unfold toPy at e
    cases e
  | _, _, _, .dct _ _ _, e => by
    unfold toPy at e
    cases e
  | _, _, _, .ins _ _ _ _, e => by
    unfold toPy at e
    cases e
  | _, _, _, .tok _, e => by
    unfold toPy at e
    cases e
  | _, _, _, .cl _, e => by
    unfold toPy at e
    cases e
  | _, _, _, .fn _, e => by
    unfold toPy at e
    cases e
theorem Reps.dp {W : Wd} {H : Hp} (hh : Holds W H) : ∀ {vs : List V} {ds : List D} {ps : List PyData}, Reps mg W vs ds → toPys ds = some ps → DpAll mg.K H vs ps
  | _, _, _, .nil, e => by
    unfold toPys at e
    cases e
    exact .nil
  | _, _, _, .cons r rs, e => by
    unfold toPys at e
    split at e
    · rename_i p ps h1 h2
      cases e
      exact .cons (Rep.dp hh r h1) (Reps.dp hh rs h2)
    · cases e
end
/-- two plain values -/
def eqS : D → D → Option Bool
  | .str a, .str b => some (decide (a = b))
  | .int a, .int b => some (decide (a = b))
  | .bl a, .bl b => some (decide (a = b))
  | .non, .non => some true
  | .non, .str _ => some false
  | .str _, .non => some false
  | .non, .int _ => some false
  | .int _, .non => some false
  | _, _ => none
def rdEq : RD2 := fun x y Q => match eqS x y with
  | some b => Q (.bl b)
  | none => ∃ p q, toPy x = some p ∧ toPy y = some q ∧ SeqAt.shaped p = true ∧ SeqAt.shaped q = true ∧ Q (.bl (PyData.eqv p q))
def rdNe : RD2 := fun x y Q => match eqS x y with
  | some b => Q (.bl (!b))
  | none => ∃ p q, toPy x = some p ∧ toPy y = some q ∧ SeqAt.shaped p = true ∧ SeqAt.shaped q = true ∧ Q (.bl (!PyData.eqv p q))
theorem eqS_v {W : Wd} {x y : V} {dx dy : D} {b : Bool} (rx : Rep mg W x dx) (ry : Rep mg W y dy) (h : eqS dx dy = some b) : scal x y = true ∧ decide (x = y) = b := by
  unfold eqS at h
  split at h
  all_goals first | (cases h; done) | skip
  all_goals (cases rx; cases ry; cases h; refine ⟨rfl, ?_⟩; try rfl)
  · rw [Bool.eq_iff_iff, decide_eq_true_iff, decide_eq_true_iff]
    exact ⟨fun q => V.str.inj q, fun q => by rw [q]⟩
  · rw [Bool.eq_iff_iff, decide_eq_true_iff, decide_eq_true_iff]
    exact ⟨fun q => V.int.inj q, fun q => by rw [q]⟩
  · rw [Bool.eq_iff_iff, decide_eq_true_iff, decide_eq_true_iff]
    exact ⟨fun q => V.bl.inj q, fun q => by rw [q]⟩
theorem ok_eq (hu : ∀ j, (Xs j).A.units + 64 < cLine) (hK : ∀ j, (Xs j).K = mg.K := by intro _; rfl) : OpOk Xs mg (compareOp .Eq) rdEq := by
  refine ⟨fun x y H Q => rEq x y H Q ∨ rEqD mg.K x y H Q, fun j => OpR.or op_eq (by rw [← hK j]; exact op_eqD (hu j)), ?_⟩
  intro W H x y dx dy Q Q' hh rx ry h q
  unfold rdEq at h
  split at h
  · rename_i b hb
    obtain ⟨h1, h2⟩ := eqS_v rx ry hb
    exact .inl ⟨h1, by rw [h2]; exact q W H _ _ (Step.refl hh) (.bl _) h⟩
  · obtain ⟨p, p', h1, h2, h3, h4, h5⟩ := h
    exact .inr ⟨p, p', rx.dp hh h1, ry.dp hh h2, h3, h4, q W H _ _ (Step.refl hh) (.bl _) h5⟩
theorem ok_ne (hu : ∀ j, (Xs j).A.units + 64 < cLine) (hK : ∀ j, (Xs j).K = mg.K := by intro _; rfl) : OpOk Xs mg (compareOp .NotEq) rdNe := by
  refine ⟨fun x y H Q => rNe x y H Q ∨ rNeD mg.K x y H Q, fun j => OpR.or op_ne (by rw [← hK j]; exact op_neD (hu j)), ?_⟩
  intro W H x y dx dy Q Q' hh rx ry h q
  unfold rdNe at h
  split at h
  · rename_i b hb
    obtain ⟨h1, h2⟩ := eqS_v rx ry hb
    exact .inl ⟨h1, by rw [h2]; exact q W H _ _ (Step.refl hh) (.bl _) h⟩
  · obtain ⟨p, p', h1, h2, h3, h4, h5⟩ := h
    exact .inr ⟨p, p', rx.dp hh h1, ry.dp hh h2, h3, h4, q W H _ _ (Step.refl hh) (.bl _) h5⟩
/-! ### in -/
end
end FP
/-! FP5: built-in functions by data. -/
namespace FP
open PySem L2
variable [Tabl]
section
variable {ι : Type} {Xs : ι → Cx} {mg : Gm} {Wx : WX} {pos : Pos}
def rdLen : RDL := fun ds Q => match ds with
  | [.str z] => z.length ≤ sizeLine ∧ Q (.int z.length)
  | [.lst xs] => Q (.int xs.length)
  | [.fz xs] => Q (.int xs.length)
  | [.tup xs] => Q (.int xs.length)
  | [.dct kvs] => Q (.int kvs.length)
  | _ => False
theorem call_lenK {X : Cx} {K : PySem.W.Frag} (h : X.K = K) : CallR X (.builtin "len") (fun xs H Q => ∃ x n, xs = [x] ∧ LenV K x H n ∧ Q (.int n) H) := by
  subst h
  exact call_len
theorem call_lenF {X : Cx} : CallR X (.builtin "len") (fun xs H Q => ∃ a kvs, xs = [V.ref a] ∧ Rd H a (.dK kvs) ∧ Q (.int kvs.length) H) := by
  intro pins s σ H xs us Q I r h
  obtain ⟨a, kvs, rfl, ha, q⟩ := h
  rw [Vals.ref1 r]
  exact d_len I ha fun t s' I' => ⟨.int kvs.length, H, I', ⟨t, rfl⟩, q⟩
theorem ok_len (hK : ∀ j, (Xs j).K = mg.K := by intro _; rfl) : CallOk Xs mg (.builtin "len") rdLen := by
  refine ⟨_, fun j => CallR.or (call_lenK (hK j)) call_lenF, ?_⟩
  intro W H vs ds Q Q' hh r h q
  unfold rdLen at h
  split at h
  · cases r with
    | cons r rs =>
      cases rs
      cases r
      exact .inl ⟨_, _, rfl, ⟨h.1, rfl⟩, q W H _ _ (Step.refl hh) (.int _) h.2⟩
  · cases r with
    | cons r rs =>
      cases rs
      cases r with
      | lst ha ra => exact .inl ⟨_, _, rfl, .inl ⟨_, SqL.of (hh.same _ _ ha), rfl⟩, by rw [ra.length]; exact q W H _ _ (Step.refl hh) (.int _) h⟩
  · cases r with
    | cons r rs =>
      cases rs
      cases r with
      | fz ha ra => exact .inl ⟨_, _, rfl, .inl ⟨_, hh.same.seq ha, rfl⟩, by rw [ra.length]; exact q W H _ _ (Step.refl hh) (.int _) h⟩
  · cases r with
    | cons r rs =>
      cases rs
      cases r with
      | tup ha ra => exact .inl ⟨_, _, rfl, .inr ⟨_, SqT.of (hh.same _ _ ha), rfl⟩, by rw [ra.length]; exact q W H _ _ (Step.refl hh) (.int _) h⟩
  · cases r with
    | cons r rs =>
      cases rs
      cases r with
      | dct ha hk ra =>
        refine .inr ⟨_, _, rfl, .inr ⟨_, hh.same _ _ ha⟩, ?_⟩
        have e := congrArg List.length hk
        simp only [List.length_map] at e
        rw [e]
        exact q W H _ _ (Step.refl hh) (.int _) h
  · exact h.elim
def rdInt : RDL := fun ds Q => match ds with
  | [.int i] => Q (.int i)
  | [.bl b] => Q (.int (if b then 1 else 0))
  | [.str a] => ∃ n, PySem.intText? a = some n ∧ a.length ≤ 640 ∧ Q (.int n)
  | _ => False
theorem ok_int : CallOk Xs mg (.type "int") rdInt := by
  refine ⟨_, fun j => CallR.or call_int1 call_int_str, ?_⟩
  intro W H vs ds Q Q' hh r h q
  unfold rdInt at h
  split at h
  · cases r with
    | cons r rs =>
      cases rs
      cases r
      exact .inl (.inl ⟨_, rfl, q W H _ _ (Step.refl hh) (.int _) h⟩)
  · cases r with
    | cons r rs =>
      cases rs
      cases r
      exact .inl (.inr ⟨_, rfl, q W H _ _ (Step.refl hh) (.int _) h⟩)
  · cases r with
    | cons r rs =>
      cases rs
      cases r
      obtain ⟨n, h1, h2, h3⟩ := h
      exact .inr ⟨_, n, rfl, h1, h2, q W H _ _ (Step.refl hh) (.int _) h3⟩
  · exact h.elim
def rdAbs : RDL := fun ds Q => match ds with
  | [.int i] => Q (.int (if i < 0 then -i else i))
  | _ => False
theorem ok_abs : CallOk Xs mg (.builtin "abs") rdAbs := by
  refine ⟨_, fun j => call_abs, ?_⟩
  intro W H vs ds Q Q' hh r h q
  unfold rdAbs at h
  split at h
  · cases r with
    | cons r rs =>
      cases rs
      cases r
      exact ⟨_, rfl, q W H _ _ (Step.refl hh) (.int _) h⟩
  · exact h.elim
def rdMax : RDL := fun ds Q => match ds with
  | [.int i, .int j] => Q (.int (if j > i then j else i))
  | _ => False
def rdMin : RDL := fun ds Q => match ds with
  | [.int i, .int j] => Q (.int (if j < i then j else i))
  | _ => False
theorem ok_max (hc : ∀ j, (Xs j).calm = true := by intro _; rfl) : CallOk Xs mg (.builtin "max") rdMax := by
  refine ⟨_, fun j => call_max2 (hc j), ?_⟩
  intro W H vs ds Q Q' hh r h q
  unfold rdMax at h
  split at h
  · cases r with
    | cons r rs =>
      cases rs with
      | cons r2 rs =>
        cases rs
        cases r
        cases r2
        exact ⟨_, _, rfl, q W H _ _ (Step.refl hh) (.int _) h⟩
  · exact h.elim
theorem ok_min (hc : ∀ j, (Xs j).calm = true := by intro _; rfl) : CallOk Xs mg (.builtin "min") rdMin := by
  refine ⟨_, fun j => call_min2 (hc j), ?_⟩
  intro W H vs ds Q Q' hh r h q
  unfold rdMin at h
  split at h
  · cases r with
    | cons r rs =>
      cases rs with
      | cons r2 rs =>
        cases rs
        cases r
        cases r2
        exact ⟨_, _, rfl, q W H _ _ (Step.refl hh) (.int _) h⟩
  · exact h.elim
/-- truths as data -/
def blsD : List D → Option (List Bool)
  | [] => some []
  | .bl b :: r => match blsD r with
    | some bs => some (b :: bs)
    | none => none
  | _ :: _ => none
theorem bls_v {W : Wd} : ∀ {vs : List V} {ds : List D} {bs : List Bool}, Reps mg W vs ds → blsD ds = some bs → vs = bs.map V.bl
  | _, _, _, .nil, h => by
    cases h
    rfl
  | _, _, _, .cons r rs, h => by
    cases r with
    | bl b =>
      unfold blsD at h
      split at h
      · rename_i bs' hb
        cases h
        rw [bls_v rs hb]
        rfl
      · cases h
    | _ => cases h
def rdAll : RDL := fun ds Q => match ds with
  | [.lst xs] => ∃ bs, blsD xs = some bs ∧ Q (.bl (bs.all id))
  | _ => False
theorem cr_allK {X : Cx} {K : PySem.W.Frag} (h : X.K = K) (hc : X.calm = true) : CallR X (.builtin "all") (rAll K) := by
  subst h
  exact cr_all hc
theorem ok_all (hK : ∀ j, (Xs j).K = mg.K := by intro _; rfl) (hc : ∀ j, (Xs j).calm = true := by intro _; rfl) : CallOk Xs mg (.builtin "all") rdAll := by
  refine ⟨_, fun j => cr_allK (hK j) (hc j), ?_⟩
  intro W H vs ds Q Q' hh r h q
  unfold rdAll at h
  split at h
  · cases r with
    | cons r rs =>
      cases rs
      cases r with
      | lst ha ra =>
        obtain ⟨bs, h1, h2⟩ := h
        have e := bls_v ra h1
        subst e
        exact ⟨_, bs, rfl, SqL.of (hh.same _ _ ha), q W H _ _ (Step.refl hh) (.bl _) h2⟩
  · exact h.elim
/-! ### list(x), tuple(x) -/
/-! ### isinstance with a built-in class -/
/-! ### items, slices, join -/
def rdIx : RD2 := fun x y Q => match x, y with
  | .lst xs, .int i => ∃ d, atI xs i = some d ∧ Q d
  | .fz xs, .int i => ∃ d, atI xs i = some d ∧ Q d
  | .tup xs, .int i => ∃ d, atI xs i = some d ∧ Q d
  | .str z, .int i => ∃ c, z.length ≤ sizeLine ∧ atI z.cps.toList i = some c ∧ Q (.str ⟨#[c]⟩)
  | .tok, .int i => (0 ≤ i ∧ i < 3) ∧ ∀ j, Q (.int j)
  | _, _ => False
theorem Reps.atI {W : Wd} {vs : List V} {ds : List D} {i : Int} {d : D} (r : Reps mg W vs ds) (h : atI ds i = some d) : ∃ v, L2.atI vs i = some v ∧ Rep mg W v d := by
  unfold L2.atI at h ⊢
  rw [r.length]
  cases q : ixN ds.length i with
  | none =>
    rw [q] at h
    cases h
  | some j =>
    rw [q] at h
    exact r.get h
theorem ix_seqK {X : Cx} {K : PySem.W.Frag} (h : X.K = K) : IxR X (rIx K) := by
  subst h
  exact ix_seq
theorem de_ix {a b : Expr} {fa fb : DTE} (ha : DE Xs mg Wx a fa) (hb : DE Xs mg Wx b fb) (hs : PlainIx b := by exact fun _ _ => rfl) (hK : ∀ j, (Xs j).K = mg.K := by intro _; rfl) : DE Xs mg Wx (.Subscript a b pos) (dOp rdIx fa fb) := by
  obtain ⟨ta, a1, a2⟩ := ha
  obtain ⟨tb, b1, b2⟩ := hb
  refine ⟨_, fun j => pe_ix (ix_seqK (hK j)) (a1 j) (b1 j) hs, Cp.op ?_ a2 b2⟩
  intro W H x y dx dy Q Q' hh rx ry h q
  unfold rdIx at h
  split at h
  · obtain ⟨d, h1, h2⟩ := h
    cases ry
    cases rx with
    | lst ha ra =>
      obtain ⟨v, g1, g2⟩ := ra.atI h1
      exact .inl ⟨_, _, _, v, rfl, rfl, SqL.of (hh.same _ _ ha), g1, q W H _ _ (Step.refl hh) g2 h2⟩
  · obtain ⟨d, h1, h2⟩ := h
    cases ry
    cases rx with
    | fz ha ra =>
      obtain ⟨v, g1, g2⟩ := ra.atI h1
      exact .inl ⟨_, _, _, v, rfl, rfl, hh.same.seq ha, g1, q W H _ _ (Step.refl hh) g2 h2⟩
  · obtain ⟨d, h1, h2⟩ := h
    cases ry
    cases rx with
    | tup ha ra =>
      obtain ⟨v, g1, g2⟩ := ra.atI h1
      exact .inr (.inl ⟨_, _, _, v, rfl, rfl, SqT.of (hh.same _ _ ha), g1, q W H _ _ (Step.refl hh) g2 h2⟩)
  · obtain ⟨c, h1, h2, h3⟩ := h
    cases ry
    cases rx
    exact .inr (.inr ⟨_, _, c, rfl, rfl, h1, h2, q W H _ _ (Step.refl hh) (.str _) h3⟩)
  · rename_i i
    obtain ⟨h1, h2⟩ := h
    cases ry with
    | int =>
      cases rx with
      | tok t =>
        obtain ⟨_, x, y, z, e⟩ := hh.tok _ t
        have hj : ∃ j, L2.atI [V.int x, V.int y, V.int z] i = some (.int j) := by
          have hi : i = 0 ∨ i = 1 ∨ i = 2 := by omega
          rcases hi with rfl | rfl | rfl
          · exact ⟨x, rfl⟩
          · exact ⟨y, rfl⟩
          · exact ⟨z, rfl⟩
        obtain ⟨j, hj⟩ := hj
        exact .inl ⟨_, _, _, _, rfl, rfl, SqL.of e, hj, q W H _ _ (Step.refl hh) (.int j) (h2 j)⟩
  · exact h.elim
/-- texts as data -/
def strsD : List D → Option (List Str)
  | [] => some []
  | .str b :: r => match strsD r with
    | some bs => some (b :: bs)
    | none => none
  | _ :: _ => none
theorem strs_v {W : Wd} : ∀ {vs : List V} {ds : List D} {bs : List Str}, Reps mg W vs ds → strsD ds = some bs → vs = bs.map V.str
  | _, _, _, .nil, h => by
    cases h
    rfl
  | _, _, _, .cons r rs, h => by
    cases r with
    | str b =>
      unfold strsD at h
      split at h
      · rename_i bs' hb
        cases h
        rw [strs_v rs hb]
        rfl
      · cases h
    | _ => cases h
theorem strsD_map (bs : List Str) : strsD (bs.map D.str) = some bs := by
  induction bs with
  | nil => rfl
  | cons b bs ih =>
    show (match strsD (bs.map D.str) with | some bs => some (b :: bs) | none => none) = _
    rw [ih]
abbrev dJoin (fo fe : DTE) : DTE := fun ρ Q E => fo ρ (fun x => match x with
  | .str a => fe ρ (fun y => match y with
    | .lst xs => ∃ ys, strsD xs = some ys ∧ (ys.map (·.length)).sum + ys.length * a.length ≤ 16777216 ∧ Q (.str (Txt.join a ys))
    | .tup xs => ∃ ys, strsD xs = some ys ∧ (ys.map (·.length)).sum + ys.length * a.length ≤ 16777216 ∧ Q (.str (Txt.join a ys))
    | _ => False) E
  | _ => False) E
theorem de_join {o e : Expr} {fo fe : DTE} {apos : Pos} (ho : DE Xs mg Wx o fo) (he : DE Xs mg Wx e fe) (hK : ∀ j, (Xs j).K = mg.K := by intro _; rfl) (hs : ∀ j, starEach [e] (Xs j).env = [(false, eval e (Xs j).env)] := by intro _; rfl)
    (hb : ∀ j, attributeBase o "join" (Xs j).env (eval o (Xs j).env) = eval o (Xs j).env := by intro _; rfl) (hl : (apos.endLine == pos.line) = true := by rfl) : DE Xs mg Wx (.Call (.Attribute o "join" apos) [e] [] pos) (dJoin fo fe) := by
  obtain ⟨ta, a1, a2⟩ := ho
  obtain ⟨tb, b1, b2⟩ := he
  refine ⟨tM1 (fun x xs H Q => ∃ a p, ∃ ys : List Str, x = .str a ∧ xs = [.ref p] ∧ (SqL mg.K H p (ys.map V.str) ∨ SqT mg.K H p (ys.map V.str)) ∧ (ys.map (·.length)).sum + ys.length * a.length ≤ 16777216 ∧ Q (.str (Txt.join a ys)) H) ta tb, fun j => ?_, ?_⟩
  · have z := pe_join (apos := apos) (pos := pos) (a1 j) (b1 j) (hs j) (hb j) hl
    rw [hK j] at z
    exact z
  · intro B ρ Q E h W σ H Q' hh e x q
    refine a2 B ρ _ E h W σ H _ hh e x fun W1 H1 v1 d1 s1 r1 h1 => ?_
    cases r1 with
    | str a =>
      refine ⟨⟨a, rfl⟩, b2 B ρ _ E h1 W1 σ H1 _ s1.holds (e.step s1) (x.step s1) fun W2 H2 v2 d2 s2 r2 h2 => ?_⟩
      cases r2 with
      | lst ha ra =>
        obtain ⟨ys, g1, g2, g3⟩ := h2
        have e' := strs_v ra g1
        subst e'
        exact ⟨a, _, ys, rfl, rfl, .inl (SqL.of (s2.holds.same _ _ ha)), g2, q W2 H2 _ _ (s1.trans s2) (.str _) g3⟩
      | tup ha ra =>
        obtain ⟨ys, g1, g2, g3⟩ := h2
        have e' := strs_v ra g1
        subst e'
        exact ⟨a, _, ys, rfl, rfl, .inr (SqT.of (s2.holds.same _ _ ha)), g2, q W2 H2 _ _ (s1.trans s2) (.str _) g3⟩
      | _ => exact h2.elim
    | _ => exact h1.elim
end
end FP
/-! FP6: repr, lists of one's own, the end of a law. -/
namespace FP
open PySem L2
variable [Tabl]
section
variable {ι : Type} {Xs : ι → Cx} {mg : Gm} {Wx : WX} {pos : Pos}
/-! ### repr -/
def rRepr (K : PySem.W.Frag) : List V → Hp → VK → Prop := fun xs H Q => ∃ x d, xs = [x] ∧ Dp K H x d ∧ d.showable = true ∧ d.hasDict = false ∧ d.depth ≤ 60 ∧ d.shown.length ≤ sizeLine ∧ Q (.str d.shown) H
theorem call_reprD {X : Cx} {K : PySem.W.Frag} (hK : X.K = K) (hg : X.A.guards = some []) (hu : X.A.units + 64 < cLine) : CallR X (.builtin "repr") (rRepr K) := by
  subst hK
  intro pins s σ H xs us Q I r h
  obtain ⟨x, d, rfl, dp, hs, hd, hdp, hl, q⟩ := h
  obtain ⟨u, rfl, rx⟩ := vals1 r
  obtain ⟨as, rd⟩ := Dp.reads I d x u dp rx
  have byRef : ∀ a, u = .ref a → wpAny (model X.prog X.w) X.A (call (.builtin "repr") [u]) (EP X pins σ Q) X.xe s := fun a e => by
    subst e
    refine repr_of_reads' rd hs (fun z => ?_) hg (by omega) (fun _ _ q => q) (fun h' u tk kp => ⟨.str d.shown, H, I.kept kp, ⟨u, rfl⟩, q⟩) hl
    rw [hd] at z
    cases z
  cases dp with
  | non =>
    cases rx
    exact PySem.P.repr_of_none ⟨.str _, H, I.tok _, ⟨_, rfl⟩, q⟩
  | bl b =>
    cases rx
    exact PySem.P.repr_of_bool ⟨.str _, H, I.tok _, ⟨_, rfl⟩, q⟩
  | int i =>
    obtain ⟨t, rfl⟩ := (show ∃ t, u = Value.int i t from rx)
    exact PySem.P.repr_of_int (of_decide_eq_true hs) ⟨.str _, H, I.tok _, ⟨_, rfl⟩, q⟩
  | str y =>
    obtain ⟨t, rfl⟩ := (show ∃ t, u = Value.str y t from rx)
    exact PySem.P.repr_of_str ⟨.str _, H, I.tok _, ⟨_, rfl⟩, q⟩ hl
  | lst _ _ => exact byRef _ rx
  | tup _ _ => exact byRef _ rx
def rdRepr : RDL := fun ds Q => match ds with
  | [d] => ∃ p, toPy d = some p ∧ p.showable = true ∧ p.hasDict = false ∧ p.depth ≤ 60 ∧ p.shown.length ≤ sizeLine ∧ Q (.str p.shown)
  | _ => False
theorem ok_repr (hg : ∀ j, (Xs j).A.guards = some []) (hu : ∀ j, (Xs j).A.units + 64 < cLine) (hK : ∀ j, (Xs j).K = mg.K := by intro _; rfl) : CallOk Xs mg (.builtin "repr") rdRepr := by
  refine ⟨_, fun j => call_reprD (hK j) (hg j) (hu j), ?_⟩
  intro W H vs ds Q Q' hh r h q
  unfold rdRepr at h
  split at h
  · cases r with
    | cons r rs =>
      cases rs
      obtain ⟨p, h1, h2, h3, h4, h5, h6⟩ := h
      exact ⟨_, p, rfl, r.dp hh h1, h2, h3, h4, h5, q W H _ _ (Step.refl hh) (.str _) h6⟩
  · exact h.elim
/-! ### lists of one's own -/
def CpO (mg : Gm) (Wx : WX) (t : TE) (g : DTA) : Prop := ∀ B ρ Q E, g ρ Q E → ∀ W σ H Q', Holds W H → EnvR mg B W H σ ρ → ExR mg Wx W H σ E → (∀ W' H' p vs ds, Step W H W' H' → H' p = none → Reps mg W' vs ds → Q ds → Q' (.ref p) (upd H' p (.lst vs))) → t σ H Q'
/-- an expression that gives a new list -/
def DO (Xs : ι → Cx) (mg : Gm) (Wx : WX) (e : Expr) (g : DTA) : Prop := ∃ t, (∀ i, PE (Xs i) e t) ∧ CpO mg Wx t g
abbrev dLen (g : DTA) : DTA := fun ρ Q E => g ρ (fun xs => xs.length ≤ sizeLine ∧ Q xs) E
theorem do_lst {es : List Expr} {g : DTA} (h : DA Xs mg Wx es g) : DO Xs mg Wx (.List es pos) (dLen g) := by
  obtain ⟨t, h1, h2⟩ := h
  refine ⟨_, fun i => pe_lst (h1 i), fun B ρ Q E hf W σ H Q' hh e x q => h2 B ρ _ E hf W σ H _ hh e x fun W1 H1 vs ds s1 r1 k1 => ?_⟩
  exact ⟨by rw [r1.length]; exact k1.1, fun p hp => q W1 H1 p vs ds s1 hp r1 k1.2⟩
abbrev dSetO (i : Nat) (g : DTA) : DTS := fun N ρ => g ρ (fun ds => N.nx (ρ.set i (.own ds))) (fun x => N.rs x ρ)
theorem ds_setO {i : Nat} {x : Str} {e : Expr} {g : DTA} {pos' : Pos} (h : DO Xs mg Wx e g) (hN : ∀ j, (Xs j).N.Nodup) (hi : ∀ j, (Xs j).N[i]? = some x := by intro _; rfl) (hx : ∀ j, Loc (Xs j).env.scope x := by intro _; first | exact Or.inl rfl | exact Or.inr rfl)
    (hs : ∀ j, swapsWith e (some (.Name x pos')) pos.line (Xs j).env = pure false := by intro _; rfl) (hf : ∀ j, (Xs j).fn x = true ∨ (Xs j).env.scope.names.lookup x = some .local := by intro _; first | exact .inl rfl | exact .inr rfl) : DS Xs mg Wx (.Assign [.Name x pos'] e pos) (dSetO i g) := by
  obtain ⟨t, h1, h2⟩ := h
  refine ⟨_, fun j => ps_set (i := i) (hN j) (hi j) (hx j) (h1 j) (hs j) (hf j), fun W0 B N ρ hf W σ H Ds s e n => ?_⟩
  refine h2 B ρ _ _ hf W σ H _ s.holds e (n.ex s e) fun W1 H1 p vs ds s1 hp r1 k1 => ?_
  have s01 := s.trans s1
  have bp : B p = none := by
    cases q : B p with
    | none => rfl
    | some o =>
      obtain ⟨o', e'⟩ := s01.live p o q
      rw [e'] at hp
      cases hp
  exact n.nx W1 _ _ _ (s01.trans (Step.lay s01.holds hp)) ((e.step s1).setOwn s01.holds hp bp r1) k1
/-- the own list is handed on ahead of a statement -/
abbrev dFrz (i : Nat) (f : DTS) : DTS := fun N ρ => match ρ[i]? with
  | some (.own xs) => f N (ρ.set i (.d (.lst xs)))
  | _ => False
theorem CpS.frz {i : Nat} {t : TS} {f : DTS} (h : CpS mg Wx t f) : CpS mg Wx t (dFrz i f) := by
  intro W0 B N ρ hf W σ H Ds s e n
  unfold dFrz at hf
  split at hf
  · rename_i xs hx
    obtain ⟨p, vs, h1, h2, h3, h4, h5, r, e'⟩ := e.freeze s.holds hx
    exact h W0 B N _ hf _ σ H Ds (s.taken h5 h2 h3 h4) e' n
  · exact hf.elim
/-- x.append(e), x one's own -/
abbrev dApp (i : Nat) (f : DTE) : DTS := fun N ρ => match ρ[i]? with
  | some (.own xs) => f ρ (fun d => xs.length < sizeLine ∧ N.nx (ρ.set i (.own (xs ++ [d])))) (fun x => N.rs x ρ)
  | _ => False
theorem ds_append (i : Nat) {x : Str} {e : Expr} {f : DTE} {p apos cpos : Pos} (h : DE Xs mg Wx e f) (hN : ∀ j, (Xs j).N[i]? = some x := by intro _; rfl) (hv : ∀ j, Vis (Xs j).env.scope x := by intro _; first | exact Or.inl rfl | exact Or.inr (Or.inl rfl) | exact Or.inr (Or.inr rfl))
    (hd : (x == ("__debug__" : Str)) = false := by decide) (hcd : (x == ("__classdict__" : Str)) = false := by decide)
    (pe : ∀ j t, PE (Xs j) e t → PS (Xs j) (.Expr (.Call (.Attribute (.Name x p) "append" apos) [e] [] cpos) pos) (tDrop (tBM (Xs j).K "list" rAppend (tVar i) (tCons t tNil)))) (hK : ∀ j, (Xs j).K = mg.K := by intro _; rfl) :
    DS Xs mg Wx (.Expr (.Call (.Attribute (.Name x p) "append" apos) [e] [] cpos) pos) (dApp i f) := by
  obtain ⟨t, h1, h2⟩ := h
  refine ⟨tDrop (tBM mg.K "list" rAppend (tVar i) (tCons t tNil)), fun j => by rw [← hK j]; exact pe j t (h1 j), fun W0 B N ρ hf W σ H Ds s e n => ?_⟩
  unfold dApp at hf
  split at hf
  · rename_i xs hx
    obtain ⟨o, g1, a, vs, g2, g3, g4, g5, g6, r⟩ := e.sl i _ hx
    subst g2
    refine ⟨.ref a, g1, .inl ⟨rfl, _, SqL.of g3⟩, ?_⟩
    refine h2 B ρ _ _ hf W σ H _ s.holds e (n.ex s e) fun W1 H1 v d s1 r1 k1 => ?_
    have e1 := e.step s1
    obtain ⟨o', q1, a', vs', q2, q3, q4, q5, q6, r'⟩ := e1.sl i _ hx
    rw [g1] at q1
    cases q1
    cases q2
    refine ⟨a, vs', v, rfl, rfl, q3, by rw [r'.length]; exact k1.1, ?_⟩
    exact n.nx W1 _ σ _ ((s.trans s1).own q6 q3 q4 q5) (e1.own (us := vs') hx g1 (r'.snoc r1)) k1.2
  · exact hf.elim
end
end FP
namespace FP
open PySem PySem.Spec PyProof.Rows L2
variable [Tabl]
/-! ### the end of a law -/
section
variable {P : Program} {w : World} {K : PySem.W.Frag} {mg mb : Str → Option Value} {k : Nat} {fa a : Addr} {sp : Sp} {z₁ : Shared} {vs : List Value} {ns : List Int}
/-- what is asked of the call -/
abbrev Fine (z₁ : Shared) : Result → Shared → Prop := fun r z' => r = .ok (.ret (.bool true)) ∧ OldK z₁.heap z'.heap ∧ z'.os = z₁.os ∧ AllBare z'.gens
theorem end_at (KX : K.In z₁.heap) (gl : z₁.heap.Ns mainGlobals mg) (bl : z₁.heap.Ns builtinsNs mb) (bb : ∀ y : Str, y ≠ "__name__" → mb y = bootBuiltins y) (lim : z₁.heap.NoLimit) (gn : z₁.gens = #[])
    (ha : z₁.heap.get? a = some { cls := .type "list", data := .seq vs.toArray }) (hr : RmG k callerA) (F : ∀ base : Heap, K.In base → base.Ns mainGlobals mg → ∃ fd ps, Binds K fd ps [] ∧ FnG P w K mg base k fa fd ps sp)
    {H : Hp} (only : Only H) (hok : HOk P w H z₁.heap) (atA : ∀ b, H b ≠ none → b = a) (offK : H a ≠ none → K.lookup a = none) (want : sp [.ref a] H (fun v _ => v = .bl true) fun _ _ _ => False) (noX : ∀ e z', L2.CX P w [] H z₁ (fun _ _ _ => False) e z' → False) :
    codeAny (model P w) callerA (.call (.ref fa) ⟨[.ref a], []⟩) (Fine z₁) z₁ := by
  -- dicts are not tracked
  have free : ∀ {c : Addr} {o : Obj} {es : Array DictEntry} {ep : Nat}, z₁.heap.get? c = some o → o.data = .dict es ep → H c = none := by
    intro c o es ep hc hd
    rcases hH : H c with _ | u
    · rfl
    · have ca : c = a := atA c (by rw [hH]; exact Option.some_ne_none u)
      rw [ca, ha] at hc
      cases hc
      cases hd
  have ns' : ∀ {c : Addr} {m : Str → Option Value}, z₁.heap.Ns c m → (hidT z₁.heap H).Ns c m := by
    rintro c m ⟨o, es, ep, h1, h2, h3⟩
    exact ⟨o, es, ep, hidT_get h1 (free h1 h2), h2, h3⟩
  have kin : K.In (hidT z₁.heap H) := by
    intro c o hc
    refine hidT_get (KX c o hc) ?_
    rcases hH : H c with _ | u
    · rfl
    · have ca : c = a := atA c (by rw [hH]; exact Option.some_ne_none u)
      subst ca
      rw [offK (by rw [hH]; exact Option.some_ne_none u)] at hc
      cases hc
  obtain ⟨mc, l1, l2⟩ := lim
  have md : Mod K mg (hidT z₁.heap H) := ⟨kin, ns' gl, ⟨mb, ns' bl, bb⟩, ⟨mc, ns' l1, l2⟩⟩
  have en : Env0 P w K mg (hidT z₁.heap H) callerA [] z₁ H := by
    refine ⟨rfl, md, fun c o q => of_hidT q, Nat.le_of_eq (hidT_size _ _), trivial, ?_, hok, .of_eq gn⟩
    intro c hc
    cases hc
  obtain ⟨fd, ps, bd, fn⟩ := F _ kin (ns' gl)
  have bz := bd z₁ [.ref a] KX (fn.ln _ _ _ _ want)
  rw [List.append_nil] at bz
  have run := fn.go callerA [] z₁ H ⟨[.ref a], []⟩ [.ref a] [.ref a] _ _ hr en bz (.cons rfl .nil) want
  refine codeAny_mono run ?_
  intro res z' hres
  match res, hres with
  | .error e, hq => exact (noX e z' hq).elim
  | .ok .next, hq => exact hq.elim
  | .ok .brk, hq => exact hq.elim
  | .ok .cont, hq => exact hq.elim
  | .ok (.ret u), ⟨v, H', os, bare, un, ok', ru, hv⟩ =>
    have hv' : v = .bl true := hv
    subst hv'
    have hu : u = Value.bool true := ru
    subst hu
    refine ⟨rfl, OldK.of_keep ?_, os, bare⟩
    intro c o hc
    rcases only c with hn | ⟨ob, xs, hf⟩
    · exact un.keep c o hc hn (by intro q; cases q) (by intro q; cases q)
    · have f2 := un.frzs c ob _ hf
      have g1 := (hok c _ hf).1
      have g2 := (ok' c _ f2).1
      rw [hc] at g1
      cases g1
      exact g2
theorem end_law (KX : K.In z₁.heap) (gl : z₁.heap.Ns mainGlobals mg) (bl : z₁.heap.Ns builtinsNs mb) (bb : ∀ y : Str, y ≠ "__name__" → mb y = bootBuiltins y) (lim : z₁.heap.NoLimit) (gn : z₁.gens = #[])
    (ha : z₁.heap.get? a = some { cls := .type "list", data := .seq vs.toArray }) (hi : IntsAre vs ns) (hl : ns.length ≤ sizeLine) (hr : RmG k callerA) (F : ∀ base : Heap, K.In base → base.Ns mainGlobals mg → ∃ fd ps, Binds K fd ps [] ∧ FnG P w K mg base k fa fd ps sp)
    (want : ∀ H : Hp, Only H → SqL K H a (ns.map V.int) → sp [.ref a] H (fun v _ => v = .bl true) fun _ _ _ => False) (noX : ∀ H e z', L2.CX P w [] H z₁ (fun _ _ _ => False) e z' → False) :
    codeAny (model P w) callerA (.call (.ref fa) ⟨[.ref a], []⟩) (Fine z₁) z₁ := by
  have rv := vals_ints hi
  have lv := hi.length
  rcases hk : K.lookup a with _ | o
  · have only : Only (upd (fun _ => none) a (.frz { cls := .type "list", data := .seq vs.toArray } (.lst (ns.map V.int)))) := by
      intro c
      by_cases hc : c = a
      · subst hc
        exact .inr ⟨_, _, upd_same⟩
      · exact .inl (upd_ne hc)
    refine end_at KX gl bl bb lim gn ha hr F only ?_ ?_ (fun _ => hk) (want _ only (.inl (.inr ⟨_, upd_same⟩))) (noX _)
    · intro c u hc
      by_cases hca : c = a
      · subst hca
        rw [upd_same] at hc
        cases hc
        refine ⟨ha, ?_, vs, _, rv, ha⟩
        rw [List.length_map]
        exact hl
      · rw [upd_ne hca] at hc
        cases hc
    · intro c hc
      by_cases hca : c = a
      · exact hca
      · exact absurd (upd_ne hca) hc
  · have ho := KX a o hk
    rw [ha] at ho
    cases ho
    have only : Only (fun _ => none) := fun _ => .inl rfl
    refine end_at KX gl bl bb lim gn ha hr F only (fun c u hc => by cases hc) (fun c hc => absurd rfl hc) (fun hc => absurd rfl hc) (want _ only (.inr ⟨_, vs.toArray, _, hk, rfl, rfl, rfl, ?_, by simpa using rv⟩)) (noX _)
    rw [List.size_toArray, lv]
    exact hl
end
/-- the script as a datum -/
abbrev scriptD (ns : List Int) : D := .fz (ns.map D.int)
theorem walkG {l : PySem.W.OpenLaw} {k : Nat} {q : Program} {loose : List Str} {XP : (Str → Option Value) → Heap → Prop} {YP : World → Heap → Prop} {d : DefRec} {K : Params → PySem.W.Frag} {f : List D → M D}
    (hB : Tabl.B = []) (hn : l.most = some 63) (hdf : d.params.defaults = []) (hr : RmG k callerA) (hY : ∀ (w : World) (h : Heap), YP w h → (K w.params).In h)
    (F : ∀ (w : World) (mg : Str → Option Value) (h : Heap), (K w.params).In h → h.Ns mainGlobals mg → ∀ base : Heap, DefOk l.prog w ⟨mg, K w.params⟩ base k d.name 1 f)
    (hf : ∀ ns : List Int, ns.length ≤ 63 → f [scriptD ns] (fun d => d = .bl true) F0) : PySem.W.WalkO q loose XP YP l.row.toRowW d [] (fun f vs => PySem.call f vs) := by
  refine Att.attach_call hn hdf fun w z₀ z₁ mg mb fa o pm cd doc a vs ns G Y ho hd hcd hmg hobj hints hlen hg => ?_
  have KX := hY w _ Y
  refine end_law (sp := spD ⟨mg, K w.params⟩ 1 f) KX G.T.g G.T.b G.T.builtins G.T.nolimit hg hobj hints (Nat.le_trans hlen (by decide)) hr (fun base _ _ => ?_) (fun H only hS => ?_) fun H e z' c => ?_
  · obtain ⟨fa', fd, ps, h1, h2, h3, h4, h5⟩ := (F w mg _ KX G.T.g base).ex
    have e : fa' = fa := by
      have e' := h1.symm.trans hmg
      cases e'
      rfl
    subst e
    exact ⟨fd, ps, h3, h5⟩
  · refine ⟨⟨H, fun _ => False, fun _ => False⟩, [scriptD ns], _, _, ⟨Same.refl H, fun _ t => t.elim, fun _ t => t.elim, fun _ h => (by rw [hB] at h; cases h), fun b ps e => by rcases only b with z | ⟨_, _, z⟩ <;> rw [z] at e <;> cases e⟩, .cons (.fz hS (Reps.ints ns)) .nil, rfl, hf ns hlen, fun W' H' v d _ r e => ?_, fun _ _ _ _ _ _ _ h => h⟩
    subst e
    cases r
    rfl
  · obtain ⟨_, _, _, _, _, _, _, _, _, _, _, _, z⟩ := c
    exact z.elim
end FP
/-! FP7: the dice; a comprehension that empties a list of one's own. -/
namespace FP
open PySem L2
variable [Tabl]
section
variable {ι : Type} {Xs : ι → Cx} {mg : Gm} {Wx : WX} {pos : Pos}
/-! ### dice -/
theorem Step.dice {W : Wd} {H : Hp} (h : Holds W H) {a : Addr} (t : W.Dc a) {x y z : Int} : Step W H W (upd H a (.lst [.int x, .int y, .int z])) := by
  obtain ⟨ta, x0, y0, z0, ea⟩ := h.tok a t
  obtain ⟨na, _⟩ := h.exm a ta
  refine ⟨Le.refl W, ⟨fun b u e => ?_, fun b tb => ?_, fun b tb => ?_, fun q hq => ?_, fun b ps e => ?_⟩, fun b u e n => ?_, fun _ _ _ => rfl, fun b t => .inl t, fun b u e => ?_⟩
  · rw [upd_ne (ne_of_none e na)]
    exact h.same b u e
  · obtain ⟨h1, u, h2⟩ := h.exm b tb
    by_cases hb : b = a
    · subst hb
      exact ⟨h1, _, upd_same⟩
    · exact ⟨h1, u, by rw [upd_ne hb]; exact h2⟩
  · by_cases hb : b = a
    · subst hb
      exact ⟨ta, x, y, z, upd_same⟩
    · rw [upd_ne hb]
      exact h.tok b tb
  · obtain ⟨h1, ps, h2, h3, h4⟩ := h.tab q hq
    have nq : q.1 ≠ a := fun z => by
      rw [z, ea] at h2
      cases h2
    refine ⟨h1, ps, by rw [upd_ne nq]; exact h2, h3, fun pos cv hc => ?_⟩
    obtain ⟨c, e1, e2⟩ := h4 pos cv hc
    have nc : c ≠ a := fun z => by
      rw [z, ea] at e2
      cases e2
    exact ⟨c, e1, by rw [upd_ne nc]; exact e2⟩
  · by_cases hb : b = a
    · rw [hb, upd_same] at e
      cases e
    · rw [upd_ne hb] at e
      exact h.all b ps e
  · rw [upd_ne fun q => n (by rw [q]; exact ta)]
    exact e
  · by_cases hb : b = a
    · subst hb
      exact ⟨_, upd_same⟩
    · rw [upd_ne hb]
      exact ⟨u, e⟩
/-- x[k] = e, x dice -/
abbrev dTok (i : Nat) (k : Int) (f : DTE) : DTS := fun N ρ => f ρ (fun d => match d, ρ[i]? with
  | .int _, some (.d .tok) => (0 ≤ k ∧ k < 3) ∧ N.nx ρ
  | _, _ => False) (fun x => N.rs x ρ)
theorem ds_tok (i : Nat) {x : Str} {k : Int} {e : Expr} {f : DTE} {p p2 p3 : Pos} {jj : Nat} (h : DE Xs mg Wx e f) (hN : ∀ j, (Xs j).N[i]? = some x := by intro _; rfl) (hv : ∀ j, Vis (Xs j).env.scope x := by intro _; first | exact Or.inl rfl | exact Or.inr (Or.inl rfl) | exact Or.inr (Or.inr rfl))
    (pg : ∀ j t, PE (Xs j) e t → PS (Xs j) (.Assign [.Subscript (.Name x p) (.Constant (.int k) jj p2) p3] e pos) (tAsg t (gSub (tVar i) (tC (.int k)) rSetL))) : DS Xs mg Wx (.Assign [.Subscript (.Name x p) (.Constant (.int k) jj p2) p3] e pos) (dTok i k f) := by
  obtain ⟨t, h1, h2⟩ := h
  refine ⟨_, fun j => pg j t (h1 j), fun W0 B N ρ hf W σ H Ds s e n => ?_⟩
  refine h2 B ρ _ _ hf W σ H _ s.holds e (n.ex s e) fun W1 H1 v d s1 r1 k1 => ?_
  dsimp only at k1
  split at k1
  · rename_i c hr
    obtain ⟨hk, k2⟩ := k1
    have e1 := e.step s1
    obtain ⟨v', g1, g2⟩ := e1.get hr
    cases r1
    cases g2 with
    | @tok a ta =>
      obtain ⟨_, x0, y0, z0, ha⟩ := s1.holds.tok a ta
      have hj : ∃ j u1 u2 u3, ixN 3 k = some j ∧ ([V.int x0, V.int y0, V.int z0].set j (V.int c)) = [V.int u1, V.int u2, V.int u3] := by
        have hi : k = 0 ∨ k = 1 ∨ k = 2 := by omega
        rcases hi with rfl | rfl | rfl
        · exact ⟨0, c, y0, z0, rfl, rfl⟩
        · exact ⟨1, x0, c, z0, rfl, rfl⟩
        · exact ⟨2, x0, y0, c, rfl, rfl⟩
      obtain ⟨j, u1, u2, u3, hj, hs⟩ := hj
      have st := Step.dice s1.holds ta (x := u1) (y := u2) (z := u3)
      refine ⟨_, g1, a, _, k, j, rfl, rfl, ha, hj, ?_⟩
      rw [hs]
      exact n.nx W1 _ σ ρ ((s.trans s1).trans st) (e1.step st) k2
  · exact k1.elim
/-- return [a, b, c]: new dice -/
abbrev dRetTok (g : DTA) : DTS := fun N ρ => g ρ (fun ds => match ds with
  | [.int _, .int _, .int _] => N.rt .tok ρ
  | _ => False) (fun x => N.rs x ρ)
theorem ds_retTok {es : List Expr} {g : DTA} {p : Pos} (h : DA Xs mg Wx es g) : DS Xs mg Wx (.Return (some (.List es p)) pos) (dRetTok g) := by
  obtain ⟨t, h1, h2⟩ := h
  refine ⟨_, fun j => ps_ret (pe_lst (h1 j)), fun W0 B N ρ hf W σ H Ds s e n => ?_⟩
  refine h2 B ρ _ _ hf W σ H _ s.holds e (n.ex s e) fun W1 H1 vs ds s1 r1 k1 => ?_
  split at k1
  · rename_i x y z
    cases r1 with
    | cons r rs =>
      cases r
      cases rs with
      | cons r rs =>
        cases r
        cases rs with
        | cons r rs =>
          cases r
          cases rs
          refine ⟨by show 3 ≤ sizeLine; decide, fun p hp => ?_⟩
          have hh := s1.holds
          have nw := hh.same.free hp
          have h0 := hh.lay (o := .lst [.int x, .int y, .int z]) hp (by intro _ h; cases h)
          have st : Step W1 H1 { W1 with T := fun b => W1.T b ∨ b = p, Dc := fun b => W1.Dc b ∨ b = p } (upd H1 p (.lst [.int x, .int y, .int z])) := by
            refine ⟨⟨Same.refl _, fun _ t => .inl t, fun _ t => .inl t⟩, ⟨h0.same, fun b tb => ?_, fun b tb => ?_, fun q hq => ⟨.inl (h0.tab q hq).1, (h0.tab q hq).2⟩, h0.all⟩, fun b u q _ => ?_, fun _ _ _ => rfl, fun b tb => ?_, fun b u q => ?_⟩
            · rcases tb with tb | rfl
              · exact h0.exm b tb
              · exact ⟨nw, _, upd_same⟩
            · rcases tb with tb | rfl
              · exact ⟨.inl (h0.tok b tb).1, (h0.tok b tb).2⟩
              · exact ⟨.inr rfl, x, y, z, upd_same⟩
            · rw [upd_ne (ne_of_none q hp)]
              exact q
            · rcases tb with tb | rfl
              · exact .inl tb
              · exact .inr hp
            · exact ⟨u, by rw [upd_ne (ne_of_none q hp)]; exact q⟩
          exact n.rt _ _ σ ρ _ _ ((s.trans s1).trans st) (e.step (s1.trans st)) (.tok (.inr rfl)) k1
  · exact k1.elim
/-! ### list(x) as a list of one's own; its length -/
abbrev dListO (g : DTA) : DTA := fun ρ Q E => g ρ (fun ds => match ds with
  | [.lst xs] => Q xs
  | [.tup xs] => Q xs
  | _ => False) E
abbrev dLenO (i : Nat) : DTE := fun ρ Q _ => match ρ[i]? with
  | some (.own xs) => Q (.int xs.length)
  | _ => False
/-! ### return [own.pop(index) for .. in ..] -/
theorem EnvR.off {B : Hp} {W : Wd} {H : Hp} {σ : St} {ρ : Env} (e : EnvR mg B W H σ ρ) {A : Addr} {o : HO} (h : ∀ (j : Nat) (t : Sl) (o : Option V), ρ[j]? = some t → σ[j]? = some o → A ∉ t.fp o) : EnvR mg B W (upd H A o) σ ρ := by
  refine ⟨e.len, fun j sl hj => ?_, e.dis⟩
  obtain ⟨o', h1, h2⟩ := e.sl j sl hj
  refine ⟨o', h1, h2.keep (Le.refl W) fun a ha u h5 h6 h7 => ⟨?_, h6, h7⟩⟩
  have ne : a ≠ A := fun q => h j sl o' hj h1 (by rw [← q]; exact ha)
  rw [upd_ne ne]
  exact h5
def popD (T : Tg) (i : Nat) (f : DTE) (ρ : Env) (vs : List Nat) : List D → List D → (List D → Prop) → Prop
  | [], _, Q => Q []
  | d :: ds, xs, Q => ∃ ρ2, T.put d (wipeD (ρ.set i (.own xs)) vs) = some ρ2 ∧ ρ2[i]? = some (.own xs) ∧ f ρ2 (fun z => match z with
    | .int k => ∃ y, (0 ≤ k ∧ k < xs.length ∧ k < 2 ^ 62) ∧ xs[k.toNat]? = some y ∧ popD T i f ρ vs ds (xs.eraseIdx k.toNat) fun rs => Q (y :: rs)
    | _ => False) F0
abbrev dRetPop (w : DTI) (T : Tg) (i : Nat) (f : DTE) (vs : List Nat) : DTS := fun N ρ => match ρ[i]? with
  | some (.own xs) => w ρ (fun ds => ds.length ≤ sizeLine ∧ popD T i f ρ vs ds xs fun rs => N.rt (.lst rs) (noEnv ρ)) (fun x => N.rs x ρ)
  | _ => False
end
end FP
/-! FP8: a def of the text; empty dicts; what the dice helpers promise. -/
namespace FP
open PySem L2
variable [Tabl]
theorem boot_len : bootBuiltins "len" = some (.builtin "len") := by decide +kernel
theorem boot_abs : bootBuiltins "abs" = some (.builtin "abs") := by decide +kernel
theorem boot_max : bootBuiltins "max" = some (.builtin "max") := by decide +kernel
theorem boot_min : bootBuiltins "min" = some (.builtin "min") := by decide +kernel
theorem boot_repr : bootBuiltins "repr" = some (.builtin "repr") := by decide +kernel
theorem boot_isinstance : bootBuiltins "isinstance" = some (.builtin "isinstance") := by decide +kernel
theorem boot_int : bootBuiltins "int" = some (.type "int") := by decide +kernel
theorem boot_str : bootBuiltins "str" = some (.type "str") := by decide +kernel
section
variable {ι : Type} {Xs : ι → Cx} {mg : Gm} {Wx : WX} {pos : Pos}
theorem mkDef {P : Program} {w : World} {base : Heap} {x : Str} {st : Stmt} {N ps : List Str} {k : Nat} {f : List D → M D} (d : ∃ fa fd, mg.mg x = some (.ref fa) ∧ Fun mg.K x x st fa fd) (S : FnScope N ps (defScope st))
    (hb : ∀ (kV doc pm : Value) (an : Option Addr) (cdv ct : Value) (us : List Value), us.length = ps.length → bindArgs (PySem.W.fnOf x x (defArgs st) (defBody st) (defScope st) .none kV doc pm an cdv ct) ⟨us, []⟩ = pure (ps.zip us))
    (h : ∀ (fa : Addr) (cdv : Value) (A : Around) (outer : List PySem.Env) (s : Shared) (H : Hp) (E : XK), RmG k (A.deeper (PyProof.Rows.envOfC x (defScope st) s.heap.objs.size fa cdv)) →
      ∃ g, DSs (fun _ : Unit => cxOf (L2.CX P w) P w mg.K mg.mg base N x (defScope st) fa cdv A outer s H E) mg (fun cls d _ H' => E cls d H') (defBody st) g ∧
        ∀ ds Q Ex, ds.length = ps.length → f ds Q Ex → g ⟨fun _ => Q .non, fun d _ => Q d, fun _ => False, fun _ => False, fun x _ => Ex x⟩ (startD N.length ds)) :
    DefOk P w mg base (k + 1) x ps.length f := by
  obtain ⟨fa, fd, hm, F⟩ := d
  exact ⟨fa, fd, ps, hm, F.kp, F.binds hb, rfl, def_ok F S (h fa)⟩
end
/-! ### the dice helpers -/
def f_dice : List D → M D := fun ds Q _ => match ds with
  | [.fz xs, .int k] => (∃ ns : List Int, xs = ns.map D.int) ∧ (0 ≤ k ∧ k < 1000) ∧ Q .tok
  | _ => False
def f_roll : List D → M D := fun ds Q _ => match ds with
  | [.tok, .int n] => (0 < n ∧ n < 1073741824) ∧ ∀ r, 0 ≤ r → r < n → Q (.int r)
  | _ => False
def f_pick : List D → M D := fun ds Q _ => match ds with
  | [.tok, .lst xs] => (0 < xs.length ∧ xs.length < 1073741824) ∧ ∀ d, d ∈ xs → Q d
  | [.tok, .tup xs] => (0 < xs.length ∧ xs.length < 1073741824) ∧ ∀ d, d ∈ xs → Q d
  | _ => False
theorem at_of {α : Type} {xs : List α} {z : Int} {j : Nat} {v : α} (e : z = (j : Int)) (h : xs[j]? = some v) : atI xs z = some v := by
  rw [e]
  exact atI_nat h
theorem atI_mem {xs : List D} {r : Int} (h0 : 0 ≤ r) (h1 : r < xs.length) : ∃ d, atI xs r = some d ∧ d ∈ xs := by
  have hr : r.toNat < xs.length := by omega
  refine ⟨xs[r.toNat], ?_, List.getElem_mem hr⟩
  exact at_of (j := r.toNat) (by omega) (by simp [hr])
theorem atI_ints {ns : List Int} {r : Int} (h0 : 0 ≤ r) (h1 : r < (ns.map D.int).length) : ∃ i, atI (ns.map D.int) r = some (.int i) := by
  obtain ⟨d, h, hm⟩ := atI_mem h0 h1
  obtain ⟨i, _, e⟩ := List.mem_map.mp hm
  exact ⟨i, by rw [h, e]⟩
/-! ### comprehensions in pure words -/
/-- a loop by what holds between its turns -/
theorem forD_inv {T : Tg} {f : DTS} {N : Nd} (I : Env → Prop) : ∀ (ds : List D) (ρ : Env), I ρ → (∀ d ∈ ds, ∀ (ρ : Env) (K : Env → Prop), I ρ → (∀ ρ', I ρ' → K ρ') → ∃ ρ1, T.put d ρ = some ρ1 ∧ f { N with nx := K, ct := K, bk := N.nx } ρ1) → (∀ ρ, I ρ → N.nx ρ) → forD T f N ds ρ
  | [], ρ, h, _, he => he ρ h
  | d :: ds, ρ, h, hs, he => hs d List.mem_cons_self ρ _ h fun ρ' h' => forD_inv I ds ρ' h' (fun e h2 => hs e (List.mem_cons_of_mem _ h2)) he
/-- one statement, then the others, by what holds between them -/
theorem seq_by {f g : DTS} {N : Nd} {ρ : Env} (I : Env → Prop) (h1 : ∀ nx : Env → Prop, (∀ ρ', I ρ' → nx ρ') → f { N with nx := nx } ρ) (h2 : ∀ ρ', I ρ' → g N ρ') : dSeq f g N ρ := h1 _ h2
/-- how many spots a law looks at -/
theorem spots (n : Nat) : 1 ≤ (if (if (n : Int) < 8 then (n : Int) else 8) > 1 then (if (n : Int) < 8 then (n : Int) else 8) else 1) ∧ (if (if (n : Int) < 8 then (n : Int) else 8) > 1 then (if (n : Int) < 8 then (n : Int) else 8) else 1) ≤ 8 := by
  split <;> split <;> omega
theorem mem_range {lo : Int} {n : Nat} {d : D} (h : d ∈ rangeD lo n) : ∃ j : Nat, d = .int (lo + j) ∧ j < n := by
  unfold rangeD at h
  obtain ⟨j, hj, e⟩ := List.mem_map.mp h
  exact ⟨j, e.symm, List.mem_range.mp hj⟩
theorem eq_same (x : Str) {Q : D → Prop} (h : Q (.bl true)) : rdEq (.str x) (.str x) Q := by
  have e : eqS (.str x) (.str x) = some true := by simp [eqS]
  unfold rdEq
  rw [e]
  exact h
/-! ### texts -/
theorem str_app (a b : Str) : (a ++ b).cps.toList = a.cps.toList ++ b.cps.toList := by
  show (a.cps ++ b.cps).toList = _
  simp
/-! ### values of the judged kinds -/
def okStr (z : Str) : Prop := z.length ≤ 1000 ∧ ∀ c ∈ z.cps.toList, c < 1114112
def okV : D → Prop
  | .fz _ => False
  | .ins _ _ => False
  | .cl _ => False
  | .fn _ _ => False
  | .str z => okStr z
  | _ => True
instance (a n : Int) : Decidable (CPowW a n) := by
  unfold CPowW
  exact inferInstance
theorem cmulL {i j : Int} (h : -(2 ^ 64) < i ∧ i < 2 ^ 64) : CMul i j := .inl h
theorem cmulR {i j : Int} (h : -(2 ^ 64) < j ∧ j < 2 ^ 64) : CMul i j := .inr h
end FP
/-! FP9: slices, two names at once, lists joined as one's own. -/
namespace FP
open PySem L2
variable [Tabl]
section
variable {ι : Type} {Xs : ι → Cx} {mg : Gm} {Wx : WX} {pos : Pos}
def cutD (xs : List D) (lo hi : Option Int) : List D := (xs.drop (HT.sIx xs.length 0 lo)).take (HT.sIx xs.length xs.length hi - HT.sIx xs.length 0 lo)
theorem Reps.cut {W : Wd} {vs : List V} {ds : List D} (r : Reps mg W vs ds) (lo hi : Option Int) : Reps mg W (cutV vs lo hi) (cutD ds lo hi) := by
  unfold cutV cutD
  rw [r.length]
  exact (r.drop _).take _
/-- xs + ys as a list of one's own -/
abbrev dCatO (fa fb : DTE) : DTA := fun ρ Q E => fa ρ (fun x => fb ρ (fun y => match x, y with
  | .lst xs, .lst ys => xs.length + ys.length ≤ sizeLine ∧ Q (xs ++ ys)
  | _, _ => False) E) E
theorem do_cat {a b : Expr} {fa fb : DTE} (ha : DE Xs mg Wx a fa) (hb : DE Xs mg Wx b fb) : DO Xs mg Wx (.BinOp a .Add b pos) (dCatO fa fb) := by
  obtain ⟨ta, a1, a2⟩ := ha
  obtain ⟨tb, b1, b2⟩ := hb
  refine ⟨_, fun i => pe_op op_cat (a1 i) (b1 i), fun B ρ Q E h W σ H Q' hh e x q => ?_⟩
  refine a2 B ρ _ E h W σ H _ hh e x fun W1 H1 v1 d1 s1 r1 h1 => ?_
  refine b2 B ρ _ E h1 W1 σ H1 _ s1.holds (e.step s1) (x.step s1) fun W2 H2 v2 d2 s2 r2 h2 => ?_
  have r1' := r1.mono s2.le
  dsimp only at h2
  split at h2
  · cases r1' with
    | lst ha ra =>
      cases r2 with
      | lst hb rb => exact ⟨_, _, _, _, rfl, rfl, s2.holds.same _ _ ha, s2.holds.same _ _ hb, by rw [ra.length, rb.length]; exact h2.1, fun p hp => q W2 H2 p _ _ (s1.trans s2) hp (ra.append rb) h2.2⟩
  · exact h2.elim
end
/-! ### pure words -/
theorem line {n : Nat} (h : Nat.ble n 16777216 = true) : n ≤ sizeLine := Nat.le_of_ble_eq_true h
theorem ne_deep {x y : D} {p q : PyData} {Q : D → Prop} (hx : toPy x = some p) (hy : toPy y = some q) (hn : eqS x y = none) (sp : SeqAt.shaped p = true) (sq : SeqAt.shaped q = true) (e : PyData.eqv p q = true) (h : Q (.bl false)) : rdNe x y Q := by
  unfold rdNe
  rw [hn]
  refine ⟨p, q, hx, hy, sp, sq, ?_⟩
  rw [e]
  exact h
theorem eq_deep {x y : D} {p q : PyData} {Q : D → Prop} (hx : toPy x = some p) (hy : toPy y = some q) (hn : eqS x y = none) (sp : SeqAt.shaped p = true) (sq : SeqAt.shaped q = true) (e : PyData.eqv p q = true) (h : Q (.bl true)) : rdEq x y Q := by
  unfold rdEq
  rw [hn]
  refine ⟨p, q, hx, hy, sp, sq, ?_⟩
  rw [e]
  exact h
end FP
/-! FP10: classes of one's own: fields, making, methods, properties, isinstance. -/
namespace FP
open PySem L2
variable [Tabl]
/-- a class of the text -/
structure ClsF (mg : Gm) (c : Str) (C : Addr) : Prop where
  nm : mg.mg c = some (.ref C)
  cl : Cls mg.K C
  ha : PySem.W.findIn mg.K (.ref C) "__class__" = some (some (.builtin "object.__class__"))
  hn : PySem.W.specialIn mg.K (.builtin "object.__class__") "__get__" = some (some (.builtin "getset_descriptor.__get__"))
  htk : PySem.W.takesIn mg.K (.builtin "object.__class__") = some true
  hm : PySem.W.mroIn mg.K C (.type "object") = some true
theorem ClsF.eq {mg : Gm} {c : Str} {C C' : Addr} (f : ClsF mg c C) (h : mg.mg c = some (.ref C')) : C' = C := by
  have e := h.symm.trans f.nm
  cases e
  rfl
section
variable {ι : Type} {Xs : ι → Cx} {mg : Gm} {Wx : WX} {pos : Pos}
/-! ### fields -/
/-! ### making an object -/
/-- an __init__'s promise: the fields that the object has behind it -/
def spI (mg : Gm) (c : Str) (C : Addr) (n : Nat) (f : List D → ((List (Str × D)) → Prop) → (XD → Prop) → Prop) : Sp := fun vs H Q E => ∃ W ds us H1 x dx Qd Ed, vs = .ref x :: us ∧ H1 x = none ∧ H1 dx = none ∧ dx ≠ x ∧ H = upd (upd H1 dx (.own x)) x (.ins C dx []) ∧ Holds W H1 ∧ Reps mg W us ds ∧ ds.length = n ∧ f ds Qd Ed ∧
  (∀ W' H' gs fs dy, Step W H1 W' H' → H' x = some (.ins C dy gs) → W'.H x = none → ¬ W'.T x → gs.map (·.1) = fs.map (·.1) → Reps mg W' (gs.map (·.2)) (fs.map (·.2)) → Qd fs → Q .non H') ∧ ∀ W' H' cls dd y, Step W H1 W' H' → RepX mg W' H' cls dd y → Ed y → E cls dd H'
structure InitOk (P : Program) (w : World) (mg : Gm) (base : Heap) (k : Nat) (c : Str) (C : Addr) (n : Nat) (f : List D → ((List (Str × D)) → Prop) → (XD → Prop) → Prop) : Prop where
  ex : ∃ fa fd ps, Mk mg.K C fa ∧ Binds mg.K fd ps [] ∧ ps.length = n + 1 ∧ FnG P w mg.K mg.mg base k fa fd ps (spI mg c C n f)
end
end FP
/-! FP11: methods, properties, isinstance with an own class, len, in, [], str of own objects. -/
namespace FP
open PySem L2
variable [Tabl]
section
variable {ι : Type} {Xs : ι → Cx} {mg : Gm} {Wx : WX} {pos : Pos}
/-! ### methods -/
/-! ### properties -/
/-! ### isinstance with a class of the text -/
def isiD (cs : List Str) (yes : Str → Bool) : D → Option Bool
  | .ins c _ => if c ∈ cs then some (yes c) else none
  | .fz _ => none
  | .cl _ => none
  | .fn _ _ => none
  | _ => some false
end
end FP
/-! FP12: what Python asks of own objects by special methods: len, in, ==, str, []. -/
namespace FP
open PySem L2
variable [Tabl]
theorem CX.none {P : Program} {w : World} {out : List PySem.Env} {H : Hp} {z : Shared} {e : Value} {z' : Shared} (h : L2.CX P w out H z E0 e z') : False := by
  obtain ⟨_, _, _, _, _, _, _, _, _, _, _, _, w⟩ := h
  exact w
end FP
/-! FP13: sets of texts: set(list of texts), sorted(set(..)), len(set(..)). -/
namespace FP
open PySem L2 PySem.Spec PyProof.Rows
variable [Tabl]
def keyS (e : Int × Value) : Str := match e.2 with
  | .str k _ => k
  | _ => Str.empty
def GoodS (w : World) (e : Int × Value) : Prop := ∃ k tk, e.2 = Value.str k tk ∧ e.1 = hashStr w k
/-- the set of texts at a has the members of M; its table can be walked -/
def SetS (w : World) (h : Heap) (a : Addr) (M : List Str) : Prop :=
  ∃ o es ep t, h.get? a = some o ∧ o.ExactSet ∧ o.data = .set es ep t ∧ (∀ e ∈ es.toList, GoodS w e) ∧ (es.toList.map keyS).Nodup ∧ (∀ k, k ∈ M ↔ k ∈ es.toList.map keyS) ∧
    es.size < scanBound ∧ t.fits es.size = true ∧ es.size ≤ M.length ∧ Ris t.place.toList ∧ (w.params.followText "set-order" = true ∨ t.led = true)
section
variable {P : Program} {w : World} {h h' : Heap} {a : Addr} {M : List Str}
theorem SetS.at (R : SetS w h a M) (k : ∀ o, h.get? a = some o → h'.get? a = some o) : SetS w h' a M := by
  obtain ⟨o, es, ep, t, ho, r⟩ := R
  exact ⟨o, es, ep, t, k o ho, r⟩
end
/-! ### set(list of texts) -/
end FP
/-! FP14: the order of texts; sorted(texts), sorted(set(texts)), len(set(texts)). -/
namespace FP
open PySem L2 PySem.Spec PyProof.Rows
variable [Tabl]
/-! ### the order of texts, pure -/
abbrev ltS (a b : Str) : Bool := ltCps a.cps.toList b.cps.toList
theorem ltS_iff {a b : Str} : ltS a b = true ↔ a.cps.toList < b.cps.toList := by
  unfold ltS
  rw [ltCps_eq]
  exact decide_eq_true_iff
theorem ltS_irrefl (a : Str) : ltS a a = false := by
  cases q : ltS a a with
  | false => rfl
  | true => exact (List.lt_irrefl _ (ltS_iff.mp q)).elim
theorem ltS_trans {a b c : Str} (h : ltS a b = true) (g : ltS b c = true) : ltS a c = true := ltS_iff.mpr (List.lt_trans (ltS_iff.mp h) (ltS_iff.mp g))
theorem str_of_list {a b : Str} (h : a.cps.toList = b.cps.toList) : a = b := by
  cases a; cases b
  simp only [Str.mk.injEq]
  exact Array.toList_inj.mp h
theorem ltS_tri {a b : Str} (h : ltS a b = false) (g : ltS b a = false) : a = b := by
  have h1 : ¬ a.cps.toList < b.cps.toList := fun z => by rw [ltS_iff.mpr z] at h; cases h
  have h2 : ¬ b.cps.toList < a.cps.toList := fun z => by rw [ltS_iff.mpr z] at g; cases g
  exact str_of_list (List.le_antisymm (List.not_lt.mp h2) (List.not_lt.mp h1))
theorem ltS_asym {a b : Str} (h : ltS a b = true) : ltS b a = false := by
  cases q : ltS b a with
  | false => rfl
  | true => have := ltS_trans h q; rw [ltS_irrefl] at this; cases this
theorem geS_trans {a b c : Str} (h : ltS b a = false) (g : ltS c b = false) : ltS c a = false := by
  cases q : ltS c a with
  | false => rfl
  | true =>
    by_cases e : a = b
    · rw [e] at q; rw [q] at g; cases g
    · have : ltS a b = true := by
        cases z : ltS a b with
        | true => rfl
        | false => exact (e (ltS_tri z h)).elim
      rw [ltS_trans q this] at g
      cases g
abbrev UpS (l : List Str) : Prop := l.Pairwise (fun a b => ltS b a = false)
def insS (x : Str) : List Str → List Str
  | [] => [x]
  | y :: r => if ltS y x then y :: insS x r else x :: y :: r
def sortS : List Str → List Str
  | [] => []
  | x :: r => insS x (sortS r)
theorem insS_perm (x : Str) : ∀ l, (insS x l).Perm (x :: l)
  | [] => .refl _
  | y :: r => by
    unfold insS
    split
    · exact ((insS_perm x r).cons y).trans (.swap ..)
    · exact .refl _
theorem sortS_perm : ∀ l, (sortS l).Perm l
  | [] => .refl _
  | x :: r => (insS_perm x _).trans ((sortS_perm r).cons x)
theorem insS_up {x : Str} : ∀ {l}, UpS l → UpS (insS x l)
  | [], _ => List.pairwise_singleton _ _
  | y :: r, h => by
    obtain ⟨h1, h2⟩ := List.pairwise_cons.mp h
    unfold insS
    split
    · rename_i q
      refine List.pairwise_cons.mpr ⟨fun z hz => ?_, insS_up h2⟩
      rcases List.mem_cons.mp ((insS_perm x r).mem_iff.mp hz) with e | e
      · rw [e]; exact ltS_asym q
      · exact h1 z e
    · rename_i q
      have q' : ltS y x = false := by simpa using q
      refine List.pairwise_cons.mpr ⟨fun z hz => ?_, h⟩
      rcases List.mem_cons.mp hz with e | e
      · rw [e]; exact q'
      · exact geS_trans q' (h1 z e)
theorem sortS_up : ∀ l, UpS (sortS l)
  | [] => .nil
  | x :: r => insS_up (sortS_up r)
theorem upS_eq {l l' : List Str} (h : UpS l) (h' : UpS l') (p : l.Perm l') : l = l' := List.Perm.eq_of_pairwise (fun a b _ _ x y => ltS_tri y x) h h' p
/-- without what comes twice -/
def nubS : List Str → List Str
  | [] => []
  | x :: r => if x ∈ nubS r then nubS r else x :: nubS r
theorem nubS_mem {k : Str} : ∀ {l}, k ∈ nubS l ↔ k ∈ l
  | [] => Iff.rfl
  | x :: r => by
    unfold nubS
    split
    · rename_i h
      rw [nubS_mem, List.mem_cons]
      exact ⟨.inr, fun z => z.elim (fun e => by rw [e]; exact nubS_mem.mp h) id⟩
    · rw [List.mem_cons, List.mem_cons, nubS_mem]
theorem nubS_nodup : ∀ l, (nubS l).Nodup
  | [] => .nil
  | x :: r => by
    unfold nubS
    split
    · exact nubS_nodup r
    · rename_i h
      exact List.nodup_cons.mpr ⟨h, nubS_nodup r⟩
/-- sorted(set(l)) -/
def sortU (l : List Str) : List Str := sortS (nubS l)
theorem sortU_mem {k : Str} {l : List Str} : k ∈ sortU l ↔ k ∈ l := by
  unfold sortU
  rw [(sortS_perm _).mem_iff, nubS_mem]
theorem sortU_nodup (l : List Str) : (sortU l).Nodup := (sortS_perm _).nodup_iff.mpr (nubS_nodup l)
theorem nodup_perm {l l' : List Str} (h : l.Nodup) (h' : l'.Nodup) (m : ∀ k, k ∈ l ↔ k ∈ l') : l.Perm l' := by
  rw [List.perm_iff_count]
  intro a
  rw [h.count, h'.count]
  by_cases q : a ∈ l
  · rw [if_pos q, if_pos ((m a).mp q)]
  · rw [if_neg q, if_neg fun z => q ((m a).mpr z)]
theorem sortU_congr {l l' : List Str} (m : ∀ k, k ∈ l ↔ k ∈ l') : sortU l = sortU l' :=
  upS_eq (sortS_up _) (sortS_up _) (nodup_perm (sortU_nodup l) (sortU_nodup l') fun k => by rw [sortU_mem, sortU_mem]; exact m k)
/-! ### the rules -/
def SetSO (w : World) (a : Addr) (M : List Str) : HO := .ext fun h => SetS w h a M
section
variable {X : Cx}
def rSetL (K : PySem.W.Frag) (w : World) : List V → Hp → VK → Prop := fun vs H Q => ∃ (l : Addr) (xs : List Str), vs = [V.ref l] ∧ SqL K H l (xs.map V.str) ∧ xs.length + 1 < scanBound ∧ ∀ p, H p = none → Q (.ref p) (upd H p (SetSO w p xs))
end
end FP
/-! FP15: sorted(set(..)), len(set(..)), sorted(..) by data; o[i]; star displays; two-clause comprehensions. -/
namespace FP
open PySem L2
end FP
/-! FP16: comprehensions with two clauses. -/
namespace FP
open PySem L2
end FP
/-! FP17: f-strings; dicts: d[k], k in d, dict comprehensions. -/
namespace FP
open PySem L2
variable [Tabl]
section
variable {ι : Type} {Xs : ι → Cx} {mg : Gm} {Wx : WX} {pos : Pos}
/-! ### f-strings -/
/-! ### dicts -/
def keyD : D → Option Key
  | .int i => some (.inl i)
  | .str z => some (.inr z)
  | _ => none
def putKD (kvs : List (Key × D)) (k : Key) (v : D) : List (Key × D) :=
  if (kvs.any fun kv => decide (kv.1 = k)) = true then kvs.map (fun kv => if kv.1 = k then (kv.1, v) else kv) else kvs ++ [(k, v)]
theorem keyD_v {W : Wd} {x : V} {d : D} {k : Key} (r : Rep mg W x d) (h : keyD d = some k) : x = kV k := by
  cases r with
  | int i => cases h; rfl
  | str i => cases h; rfl
  | _ => cases h
theorem any_key {k : Key} : ∀ {kvs : List (Key × V)} {ds : List (Key × D)}, kvs.map (·.1) = ds.map (·.1) → (kvs.any fun kv => decide (kv.1 = k)) = (ds.any fun kv => decide (kv.1 = k))
  | [], [], _ => rfl
  | p :: kvs, q :: ds, hk => by
    obtain ⟨h1, h2⟩ := List.cons.inj hk
    have h1 : p.1 = q.1 := h1
    rw [List.any_cons, List.any_cons, h1, any_key h2]
  | [], _ :: _, hk => by cases hk
  | _ :: _, [], hk => by cases hk
theorem put_rep {W : Wd} {k : Key} {v : V} {d : D} {kvs : List (Key × V)} {ds : List (Key × D)} (hk : kvs.map (·.1) = ds.map (·.1)) (hr : Reps mg W (kvs.map (·.2)) (ds.map (·.2))) (r : Rep mg W v d) :
    (putK kvs k v).map (·.1) = (putKD ds k d).map (·.1) ∧ Reps mg W ((putK kvs k v).map (·.2)) ((putKD ds k d).map (·.2)) := by
  unfold putK putKD
  rw [any_key hk]
  split
  · rename_i hq
    clear hq
    induction kvs generalizing ds with
    | nil =>
      cases ds with
      | nil => exact ⟨rfl, .nil⟩
      | cons q ds => cases hk
    | cons p kvs ih =>
      cases ds with
      | nil => cases hk
      | cons q ds =>
        obtain ⟨h1, h2⟩ := List.cons.inj hk
        cases hr with
        | cons r1 rs =>
          obtain ⟨i1, i2⟩ := ih h2 rs
          simp only [List.map_cons]
          by_cases e : q.1 = k
          · have e' : p.1 = k := h1.trans e
            rw [if_pos e, if_pos e']
            exact ⟨by rw [i1]; exact congrArg (· :: _) h1, .cons r i2⟩
          · have e' : ¬ p.1 = k := fun z => e (h1.symm.trans z)
            rw [if_neg e, if_neg e']
            exact ⟨by rw [i1]; exact congrArg (· :: _) h1, .cons r1 i2⟩
  · rw [List.map_append, List.map_append, List.map_append, List.map_append]
    exact ⟨by rw [hk]; rfl, hr.append (.cons r .nil)⟩
end
end FP
/-! FP18: dict comprehensions. -/
namespace FP
open PySem L2
variable [Tabl]
section
variable {ι : Type} {Xs : ι → Cx} {mg : Gm} {Wx : WX} {pos : Pos}
def dcD (body : D → (Option (Key × D) → Prop) → Prop) : List D → List (Key × D) → (List (Key × D) → Prop) → Prop
  | [], acc, Q => Q acc
  | d :: ds, acc, Q => body d fun o => match o with
    | some kv => dcD body ds (putKD acc kv.1 kv.2) Q
    | none => dcD body ds acc Q
abbrev dDc (w : DTI) (T : Tg) (ft : DTT) (fk fv : DTE) (vs : List Nat) : DTE := fun ρ Q E => w ρ (fun ds => ds.length ≤ sizeLine ∧ dcD (fun d k => ∃ ρ2, T.put d (wipeD ρ vs) = some ρ2 ∧ ft ρ2 (fun b => bit b
  (fk ρ2 (fun y => fv ρ2 (fun z => ∃ kk, keyD y = some kk ∧ k (some (kk, z))) F0) F0) (k none)) F0) ds [] fun kvs => Q (.dct kvs)) E
theorem putKD_len (kvs : List (Key × D)) (k : Key) (v : D) : (putKD kvs k v).length ≤ kvs.length + 1 := by
  unfold putKD
  split
  · rw [List.length_map]; omega
  · rw [List.length_append]; exact Nat.le_refl _
theorem Rep.newDct {W : Wd} {kvs : List (Key × V)} {ds : List (Key × D)} {p : Addr} {o : Obj} (hk : kvs.map (·.1) = ds.map (·.1)) (r : Reps mg W (kvs.map (·.2)) (ds.map (·.2))) (n : W.H p = none) : Rep mg (W.put p (.frz o (.dK kvs))) (.ref p) (.dct ds) :=
  .dct (show upd W.H p _ p = _ from upd_same) hk (r.mono (Wd.le_put n))
theorem len_keys {kvs : List (Key × V)} {ds : List (Key × D)} (h : kvs.map (·.1) = ds.map (·.1)) : kvs.length = ds.length := by
  have := congrArg List.length h
  simpa using this
theorem Cp.dc {wi : TI} {g : TG} {tt : TT} {tk tv : TE} {w : DTI} {T : Tg} {ft : DTT} {fk fv : DTE} {vs : List Nat} (hi : CpI mg Wx wi w) (hg : CpG mg g T) (hv : ∀ i ∈ T.slots, i ∈ vs) (ht : CpT mg Wx0 tt ft) (hk : Cp mg Wx0 tk fk) (he : Cp mg Wx0 tv fv) : Cp mg Wx (tLk (tDc wi g tt tk tv vs)) (dDc w T ft fk fv vs) := by
  intro B ρ Q E hf W σ H Q' hh e x q
  refine hi B ρ _ E hf W σ H _ hh e x fun W1 H1 J ds s1 wk k1 => ?_
  obtain ⟨hsz, k1⟩ := k1
  intro A hA
  have e1 := e.step s1
  refine ⟨fun i m H' => m = ds.length - i ∧ i ≤ ds.length ∧ ∃ W' us acc, Step W1 H1 W' H' ∧ H' A = some (.dK us) ∧ W'.H A = none ∧ ¬ W'.T A ∧ us.map (·.1) = acc.map (·.1) ∧ Reps mg W' (us.map (·.2)) (acc.map (·.2)) ∧ acc.length ≤ i ∧ dcD _ (ds.drop i) acc (fun kvs => Q (.dct kvs)),
    ⟨ds.length, by simp, Nat.zero_le _, W1, [], [], Step.lay s1.holds hA, upd_same, s1.holds.same.free hA, s1.holds.nT hA, rfl, .nil, Nat.le_refl _, k1⟩, ?_⟩
  rintro i m H' ⟨rfl, hi, W', us, acc, s', hL, nw, nt, ks, rs, la, k'⟩
  obtain ⟨go, stop, yld⟩ := wk W' H' s'.le s'.holds
  by_cases hlt : i < ds.length
  · refine .inr ⟨go i hlt, fun H2 => ∃ W2 us2 acc2, Step W1 H1 W2 H2 ∧ H2 A = some (.dK us2) ∧ W2.H A = none ∧ ¬ W2.T A ∧ us2.map (·.1) = acc2.map (·.1) ∧ Reps mg W2 (us2.map (·.2)) (acc2.map (·.2)) ∧ acc2.length ≤ i + 1 ∧ dcD _ (ds.drop (i + 1)) acc2 (fun kvs => Q (.dct kvs)), fun H2 q => ⟨ds.length - (i + 1), by omega, rfl, hlt, q⟩, fun y H2 hy => ?_⟩
    obtain ⟨W2, d, s2, hd, r⟩ := yld i y H2 hlt hy
    have ed : ds.drop i = d :: ds.drop (i + 1) := by
      rw [List.drop_eq_getElem_cons hlt]
      have := (List.getElem?_eq_some_iff.mp hd).2
      rw [this]
    rw [ed] at k'
    obtain ⟨ρ1, p1, k2⟩ := k'
    have sA : ∀ {Wa Wb : Wd} {Ha Hb : Hp} {ws : List (Key × V)}, Step Wa Ha Wb Hb → Ha A = some (.dK ws) → Wa.H A = none → ¬ Wa.T A → Hb A = some (.dK ws) ∧ Wb.H A = none ∧ ¬ Wb.T A := fun st a1 a2 a3 => ⟨st.keep A _ a1 a3, by rw [st.fresh A _ a1]; exact a2, fun t => by
      rcases st.freshT A t with t | t
      · exact a3 t
      · rw [a1] at t
        cases t⟩
    refine hg B W2 H2 y d _ _ ρ1 _ s2.holds r ((e1.step s').step s2 |>.wipe vs) p1 fun σ3 e3 w3 => ?_
    refine ⟨(w3 vs hv).trans (wipe_wipe σ vs), ?_⟩
    refine ht B ρ1 _ _ k2 W2 σ3 H2 _ s2.holds e3 ExR.f0 fun W3 H3 b s3 k3 => ?_
    obtain ⟨b1, b2, b3⟩ := sA (s2.trans s3) hL nw nt
    cases b with
    | true =>
      rw [if_pos rfl]
      refine hk B ρ1 _ _ k3 W3 σ3 H3 _ s3.holds (e3.step s3) ExR.f0 fun W4 H4 y dy s4 r4 k4 => ?_
      refine he B ρ1 _ _ k4 W4 σ3 H4 _ s4.holds ((e3.step s3).step s4) ExR.f0 fun W5 H5 z dz s5 r5 k5 => ?_
      obtain ⟨kk, h1, k6⟩ := k5
      have ey := keyD_v r4 h1
      subst ey
      obtain ⟨c1, c2, c3⟩ := sA (s4.trans s5) b1 b2 b3
      have s15 := (s'.trans s2).trans (s3.trans (s4.trans s5))
      have rs5 := rs.mono ((s2.trans s3).trans (s4.trans s5)).le
      obtain ⟨u1, u2⟩ := put_rep (k := kk) ks rs5 r5
      refine ⟨us, kk, rfl, c1, ?_, W5, putK us kk z, putKD acc kk dz, s15.own hA c1 c2 c3, upd_same, c2, c3, u1, u2, ?_, k6⟩
      · rw [len_keys ks]
        omega
      · have := putKD_len acc kk dz
        omega
    | false =>
      rw [if_neg Bool.false_ne_true]
      exact ⟨W3, us, acc, (s'.trans s2).trans s3, b1, b2, b3, ks, rs.mono (s2.trans s3).le, by omega, k3⟩
  · have ei : i = ds.length := by omega
    subst ei
    rw [List.drop_length] at k'
    exact .inl ⟨stop, A, _, rfl, hL, True.intro, fun od => q (W'.put A (.frz od (.dK us))) _ _ _ (s1.trans ((s'.own hA hL nw nt).taken hA upd_same nw nt)) (Rep.newDct ks rs nw) k'⟩
end
end FP
/-! FP19: for x in o, where o's class has an __iter__ that returns iter(self.f), f a tuple. -/
namespace FP
open PySem L2
end FP
/-! FP20: classes as values, classmethods, cls(..). -/
namespace FP
open PySem L2
end FP
/-! FP21: raise X('..'); try .. except X. -/
namespace FP
open PySem L2
variable [Tabl]
section
variable {ι : Type} {Xs : ι → Cx} {mg : Gm} {Wx : WX} {pos : Pos}
/-- an own exception without own __init__ -/
structure ExcF (mg : Gm) (x : Str) (C : Addr) (bmB : List Value) (newId : String) : Prop where
  nm : mg.mg x = some (.ref C)
  ei : PySem.W.excIn mg.K C bmB newId = true
  kp : PySem.W.keepIn mg.K (.ref C) = true
  sb : PySem.W.subIn mg.K (.ref C) (.type "BaseException") = some true
  ty : PySem.W.typeIn mg.K (.ref C) = some (.type "type")
/-- which of the errors cs the clause takes -/
structure CatF (mg : Gm) (c : Value) (cs : List Str) (yes : Str → Bool) : Prop where
  cl : ∀ x ∈ cs, ∃ C, mg.mg x = some (.ref C) ∧ PySem.W.exmOne mg.K (.ref C) c = some (yes x)
end
end FP
/-! FP22: owned objects: a pure expression reads one as data (view). -/
namespace FP
open PySem L2
variable [Tabl]
def OF.toD : OF → D
  | .d x => x
  | .l xs => .lst xs
  | .ll xss => .lst (xss.map .lst)
def toDs (fs : List (Str × OF)) : List (Str × D) := fs.map fun p => (p.1, p.2.toD)
def plainD : D → Bool
  | .non => true
  | .bl _ => true
  | .int _ => true
  | .str _ => true
  | _ => false
theorem Rep.flat {mg : Gm} {W W' : Wd} {v : V} {d : D} (r : Rep mg W v d) (h : plainD d = true) : Rep mg W' v d := by
  cases r with
  | non => exact .non
  | bl b => exact .bl b
  | int b => exact .int b
  | str b => exact .str b
  | _ => cases h
/-- the world with some addresses as they stand -/
def Wd.seen (W : Wd) (H : Hp) (as : List Addr) : Wd := { W with H := fun b => if b ∈ as then H b else W.H b }
def Wd.cut (W : Wd) (as : List Addr) : Wd := { W with H := fun b => if b ∈ as then none else W.H b }
section
variable {mg : Gm} {B : Hp} {W W' : Wd} {H H' : Hp} {σ : St} {ρ : Env} {as : List Addr}
theorem seen_le (k : ∀ b ∈ as, W.H b = none) : Le W (W.seen H as) := ⟨fun b o e => by
  show (if b ∈ as then H b else W.H b) = some o
  by_cases q : b ∈ as
  · rw [k b q] at e
    cases e
  · rw [if_neg q]
    exact e, fun _ t => t, fun _ t => t⟩
theorem seen_holds (h : Holds W H) (k : ∀ b ∈ as, ¬ W.T b) : Holds (W.seen H as) H := ⟨fun b o e => by
  have e : (if b ∈ as then H b else W.H b) = some o := e
  by_cases q : b ∈ as
  · rw [if_pos q] at e
    exact e
  · rw [if_neg q] at e
    exact h.same b o e, fun a t => by
  obtain ⟨h1, h2⟩ := h.exm a t
  refine ⟨?_, h2⟩
  show (if a ∈ as then H a else W.H a) = none
  rw [if_neg fun q => k a q t]
  exact h1, h.tok, h.tab, h.all⟩
theorem seen_step {W1 : Wd} {H1 : Hp} (s : Step (W.seen H as) H W1 H1) (k : ∀ b ∈ as, W.H b = none) : Step W H (W1.cut as) H1 := by
  refine ⟨⟨fun b o e => ?_, s.le.t, s.le.dc⟩, ⟨fun b o e => ?_, fun a t => ?_, s.holds.tok, s.holds.tab, s.holds.all⟩, s.keep, fun b o e => ?_, s.freshT, s.live⟩
  · show (if b ∈ as then none else W1.H b) = some o
    have q : b ∉ as := fun q => by rw [k b q] at e; cases e
    rw [if_neg q]
    exact s.le.h b o ((seen_le k).h b o e)
  · have e : (if b ∈ as then none else W1.H b) = some o := e
    by_cases q : b ∈ as
    · rw [if_pos q] at e
      cases e
    · rw [if_neg q] at e
      exact s.holds.same b o e
  · obtain ⟨h1, h2⟩ := s.holds.exm a t
    refine ⟨?_, h2⟩
    show (if a ∈ as then none else W1.H a) = none
    by_cases q : a ∈ as
    · rw [if_pos q]
    · rw [if_neg q]
      exact h1
  · show (if b ∈ as then none else W1.H b) = W.H b
    by_cases q : b ∈ as
    · rw [if_pos q, k b q]
    · rw [if_neg q, s.fresh b o e]
      show (if b ∈ as then H b else W.H b) = W.H b
      rw [if_neg q]
theorem seen_in {b : Addr} (h : b ∈ as) : (W.seen H as).H b = H b := if_pos h
theorem Reps.lsts {W : Wd} : ∀ {Ls : List Addr} {xss : List (List D)}, Ls.length = xss.length → (∀ (i : Nat) (l : Addr) (xs : List D), Ls[i]? = some l → xss[i]? = some xs → ∃ vs, W.H l = some (.lst vs) ∧ Reps mg W vs xs) → Reps mg W (Ls.map V.ref) (xss.map D.lst)
  | [], [], _, _ => .nil
  | L :: Ls, xs :: xss, hl, h => by
    obtain ⟨vs, h1, h2⟩ := h 0 L xs rfl rfl
    exact .cons (.lst h1 h2) (Reps.lsts (by simpa using hl) fun i l ys q1 q2 => h (i + 1) l ys q1 q2)
  | [], _ :: _, hl, _ => by cases hl
  | _ :: _, [], hl, _ => by cases hl
theorem OFR.rep {v : V} {x : OF} {bs : List Addr} (h : OFR mg W H v x bs) (l : Le W (W.seen H as)) (k : ∀ b ∈ bs, b ∈ as) : Rep mg (W.seen H as) v x.toD := by
  cases x with
  | d x => exact h.2.mono l
  | l xs =>
    obtain ⟨L, vs, rfl, rfl, h3, h4⟩ := h
    exact .lst (by rw [seen_in (k L (by simp))]; exact h3) (h4.mono l)
  | ll xss =>
    obtain ⟨L, Ls, rfl, rfl, h3, h4, h5⟩ := h
    refine .lst (by rw [seen_in (k L (by simp))]; exact h3) (Reps.lsts h4 fun i b xs q1 q2 => ?_)
    obtain ⟨vs, g1, g2⟩ := h5 i b xs q1 q2
    exact ⟨vs, by rw [seen_in (k b (List.mem_cons_of_mem _ (List.mem_of_getElem? q1)))]; exact g1, g2.mono l⟩
theorem OFs.rep (l : Le W (W.seen H as)) : ∀ {vs : List (Str × V)} {fs : List (Str × OF)} {bs : List Addr}, OFs mg W H vs fs bs → (∀ b ∈ bs, b ∈ as) → vs.map (·.1) = (toDs fs).map (·.1) ∧ Reps mg (W.seen H as) (vs.map (·.2)) ((toDs fs).map (·.2))
  | [], [], _, _, _ => ⟨rfl, .nil⟩
  | (f, v) :: vs, (g, x) :: fs, _, ⟨e, as1, as2, rfl, h1, h2⟩, k => by
    obtain ⟨i1, i2⟩ := OFs.rep l h2 fun b hb => k b (List.mem_append_right _ hb)
    refine ⟨?_, .cons (h1.rep l fun b hb => k b (List.mem_append_left _ hb)) i2⟩
    show f :: vs.map (·.1) = g :: (toDs fs).map (·.1)
    rw [e, i1]
  | [], _ :: _, _, h, _ => h.elim
  | _ :: _, [], _, h, _ => h.elim
/-- the environment seen -/
theorem EnvR.seen (e : EnvR mg B W H σ ρ) {i : Nat} {c : Str} {fs : List (Str × OF)} (hi : ρ[i]? = some (.ow c as fs)) :
    (∀ b ∈ as, W.H b = none ∧ ¬ W.T b) ∧ EnvR mg B (W.seen H as) H σ (ρ.set i (.d (.ins c (toDs fs)))) := by
  obtain ⟨o, h1, a, as', vs, ea, ho, ⟨C, dx, hc, h2⟩, h3, h4, h5⟩ := e.sl i _ hi
  have k : ∀ b ∈ as, W.H b = none ∧ ¬ W.T b := fun b hb => ⟨(h5 b hb).2.1, (h5 b hb).2.2.1⟩
  have l := seen_le (W := W) (H := H) fun b hb => (k b hb).1
  refine ⟨k, by simpa using e.len, fun j sl hj => ?_, fun j m s1 s2 o1 o2 b hjk q1 q2 q3 q4 m1 m2 => ?_⟩
  · rcases get_set hj with ⟨rfl, rfl⟩ | ⟨nj, hj⟩
    · obtain ⟨g1, g2⟩ := OFs.rep (as := as) l h3 fun b hb => by rw [ea]; exact List.mem_cons_of_mem _ hb
      exact ⟨o, h1, _, ho, .ins hc (by rw [seen_in (by rw [ea]; exact List.mem_cons_self)]; exact h2) g1 g2⟩
    · obtain ⟨o', g1, g2⟩ := e.sl j sl hj
      refine ⟨o', g1, g2.keep l fun b hb u h5 h6 h7 => ⟨h5, ?_, h7⟩⟩
      show (if b ∈ as then H b else W.H b) = none
      have nb : b ∉ as := fun q => e.dis i j _ sl o o' b nj hi hj h1 g1 q hb
      rw [if_neg nb]
      exact h6
  · rcases get_set q1 with ⟨_, z⟩ | ⟨n1, q1⟩
    · rw [← z] at m1
      cases m1
    · rcases get_set q2 with ⟨_, z⟩ | ⟨n2, q2⟩
      · rw [← z] at m2
        cases m2
      · exact e.dis j m s1 s2 o1 o2 b hjk q1 q2 q3 q4 m1 m2
end
end FP
/-! FP23: owned objects: what changes them. -/
namespace FP
open PySem L2
variable [Tabl]
def putO (f : Str) (x : OF) : List (Str × OF) → List (Str × OF)
  | [] => []
  | (g, y) :: r => if f == g then (g, x) :: r else (g, y) :: putO f x r
section
variable {mg : Gm} {B : Hp} {W : Wd} {H : Hp} {σ : St} {ρ : Env} {as : List Addr}
/-- a field is found; another thing is put in its place, its address kept -/
theorem OFs.get {f : Str} {x : OF} : ∀ {vs : List (Str × V)} {fs : List (Str × OF)} {as : List Addr}, OFs mg W H vs fs as → fs.lookup f = some x → as.Nodup →
    ∃ v pre bs post, vs.lookup f = some v ∧ as = pre ++ (bs ++ post) ∧ OFR mg W H v x bs ∧
      ∀ x' bs' H', (∀ b u, H b = some u → b ∉ bs → H' b = some u) → OFR mg W H' v x' bs' → OFs mg W H' vs (putO f x' fs) (pre ++ (bs' ++ post))
  | [], [], _, _, hl, _ => by cases hl
  | (g, v) :: vs, (g', y) :: fs, as, ⟨e, as1, as2, ea, h1, h2⟩, hl, nd => by
    subst e
    rw [List.lookup_cons] at hl
    rw [List.lookup_cons]
    rw [ea] at nd
    by_cases q : (f == g) = true
    · rw [q] at hl ⊢
      cases hl
      refine ⟨v, [], as1, as2, rfl, ea, h1, fun x' bs' H' hH r => ?_⟩
      have ep : putO f x' ((g, x) :: fs) = (g, x') :: fs := by
        show (if (f == g) = true then _ else _) = _
        rw [if_pos q]
      rw [ep]
      refine ⟨rfl, bs', as2, rfl, r, h2.keep (Le.refl W) fun b hb u hu => hH b u hu fun z => ?_⟩
      exact (List.nodup_append.mp nd).2.2 b z b hb rfl
    · have q : (f == g) = false := by simpa using q
      rw [q] at hl ⊢
      obtain ⟨w, pre, bs, post, g1, g2, g3, g4⟩ := OFs.get h2 hl (List.nodup_append.mp nd).2.1
      refine ⟨w, as1 ++ pre, bs, post, g1, by rw [ea, g2, List.append_assoc], g3, fun x' bs' H' hH r => ?_⟩
      have ep : putO f x' ((g, y) :: fs) = (g, y) :: putO f x' fs := by
        show (if (f == g) = true then _ else _) = _
        rw [q, if_neg Bool.false_ne_true]
      rw [ep, List.append_assoc]
      refine ⟨rfl, as1, _, rfl, h1.keep (Le.refl W) fun b hb u hu => hH b u hu fun z => ?_, g4 x' bs' H' hH r⟩
      exact (List.nodup_append.mp nd).2.2 b hb b (by rw [g2]; exact List.mem_append_right _ (List.mem_append_left _ z)) rfl
  | [], _ :: _, _, h, _, _ => h.elim
  | _ :: _, [], _, h, _, _ => h.elim
end
end FP
/-! FP24: owned objects: fields stored. -/
namespace FP
open PySem L2
variable [Tabl]
/-- a field is put, at the end if it is new -/
def setO (f : Str) (x : OF) : List (Str × OF) → List (Str × OF)
  | [] => [(f, x)]
  | (g, y) :: r => if g = f then (f, x) :: r else (g, y) :: setO f x r
section
variable {mg : Gm} {B : Hp} {W : Wd} {H : Hp} {σ : St} {ρ : Env} {as : List Addr}
theorem OFs.length : ∀ {vs : List (Str × V)} {fs : List (Str × OF)} {as : List Addr}, OFs mg W H vs fs as → vs.length = fs.length
  | [], [], _, _ => rfl
  | _ :: _, _ :: _, _, ⟨_, _, _, _, _, h⟩ => congrArg (· + 1) (OFs.length h)
  | [], _ :: _, _, h => h.elim
  | _ :: _, [], _, h => h.elim
/-- a datum's field may be stored -/
def datF (f : Str) (fs : List (Str × OF)) : Bool := match fs.lookup f with
  | none => true
  | some (.d _) => true
  | _ => false
theorem OFs.put {f : Str} {v : V} {d : D} (r : Rep mg W v d) : ∀ {vs : List (Str × V)} {fs : List (Str × OF)} {as : List Addr}, OFs mg W H vs fs as → datF f fs = true → OFs mg W H (putF f v vs) (setO f (.d d) fs) as
  | [], [], as, h, _ => by
    have h : as = [] := h
    subst h
    exact ⟨rfl, [], [], rfl, ⟨rfl, r⟩, rfl⟩
  | (g, w) :: vs, (g', y) :: fs, as, ⟨e, as1, as2, ea, h1, h2⟩, hd => by
    subst e
    unfold putF setO
    by_cases q : g = f
    · rw [if_pos q, if_pos q]
      have hy : ∃ d0, y = .d d0 := by
        unfold datF at hd
        rw [List.lookup_cons, show (f == g) = true from by rw [q]; exact beq_self_eq_true f] at hd
        cases y with
        | d d0 => exact ⟨d0, rfl⟩
        | l _ => cases hd
        | ll _ => cases hd
      obtain ⟨d0, rfl⟩ := hy
      obtain ⟨z, _⟩ := h1
      subst z
      exact ⟨q, [], as2, ea, ⟨rfl, r⟩, h2⟩
    · rw [if_neg q, if_neg q]
      refine ⟨rfl, as1, as2, ea, h1, OFs.put r h2 ?_⟩
      unfold datF at hd ⊢
      rw [List.lookup_cons, show (f == g) = false from by simpa using fun z => q z.symm] at hd
      exact hd
  | [], _ :: _, _, h, _ => h.elim
  | _ :: _, [], _, h, _ => h.elim
end
end FP
/-! FP25: owned objects: a new field that holds a new list (x.f = []), or a new list of new lists (x.f = [[]]). -/
namespace FP
open PySem L2
variable [Tabl]
section
variable {mg : Gm} {B : Hp} {W : Wd} {H : Hp} {σ : St} {ρ : Env}
theorem OFs.snoc {f : Str} {v : V} {x : OF} {bs : List Addr} (r : OFR mg W H v x bs) : ∀ {vs : List (Str × V)} {fs : List (Str × OF)} {as : List Addr}, OFs mg W H vs fs as → fs.lookup f = none → OFs mg W H (putF f v vs) (fs ++ [(f, x)]) (as ++ bs)
  | [], [], as, h, _ => by
    have h : as = [] := h
    subst h
    exact ⟨rfl, bs, [], by simp, r, rfl⟩
  | (g, w) :: vs, (g', y) :: fs, as, ⟨e, as1, as2, ea, h1, h2⟩, hl => by
    subst e
    rw [List.lookup_cons] at hl
    have q : (f == g) = false := by
      cases z : f == g with
      | false => rfl
      | true => rw [z] at hl; cases hl
    rw [q] at hl
    unfold putF
    rw [if_neg fun z => by rw [z, beq_self_eq_true] at q; cases q]
    exact ⟨rfl, as1, as2 ++ bs, by rw [ea, List.append_assoc], h1, OFs.snoc r h2 hl⟩
  | [], _ :: _, _, h, _ => h.elim
  | _ :: _, [], _, h, _ => h.elim
end
end FP
/-! FP26: owned lists of owned lists: x.f.append([]), x.f[-1].append(e), y = x.f.pop(). -/
namespace FP
open PySem L2
end FP
/-! FP27: x.f[-1].append(e). -/
namespace FP
open PySem L2
end FP
/-! FP28: y = x.f.pop() of an owned list of owned lists. -/
namespace FP
open PySem L2
end FP
/-! FP29: methods that change an owned object; making an owned object; handing it to the world. -/
namespace FP
open PySem L2
variable [Tabl]
section
variable {mg : Gm} {B B' : Hp} {W W' : Wd} {H H' : Hp} {σ : St} {ρ : Env} {as : List Addr}
theorem SlR.rebase {o : Option V} {s : Sl} (h : SlR mg B W H o s) (k : ∀ a ∈ s.fp o, B a = none → B' a = none) : SlR mg B' W H o s := by
  cases s with
  | no => exact h
  | exc => exact h
  | d x => exact h
  | own xs =>
    obtain ⟨a, vs, h1, h2, h3, h4, h5, r⟩ := h
    subst h1
    exact ⟨a, vs, rfl, h2, h3, h4, k a (List.mem_singleton.mpr rfl) h5, r⟩
  | od xs =>
    obtain ⟨a, vs, h1, h2, h3, h4, h5, r⟩ := h
    subst h1
    exact ⟨a, vs, rfl, h2, h3, h4, k a (List.mem_singleton.mpr rfl) h5, r⟩
  | ob c a fs =>
    obtain ⟨vs, h1, h2, h3, h4, h5, r⟩ := h
    exact ⟨vs, h1, h2, h3, h4, k a (List.mem_singleton.mpr rfl) h5, r⟩
  | ow c as fs =>
    obtain ⟨a, as', vs, h1, h2, h3, h4, h5, h6⟩ := h
    exact ⟨a, as', vs, h1, h2, h3, h4, h5, fun b hb => ⟨(h6 b hb).1, (h6 b hb).2.1, (h6 b hb).2.2.1, k b hb (h6 b hb).2.2.2⟩⟩
  | o2 as x =>
    obtain ⟨a, Ls, h1, h2, h3, h4, h6⟩ := h
    exact ⟨a, Ls, h1, h2, h3, h4, fun b hb => ⟨(h6 b hb).1, (h6 b hb).2.1, (h6 b hb).2.2.1, k b hb (h6 b hb).2.2.2⟩⟩
end
/-! ### the promise of a method that changes its object -/
end FP
/-! FP30: t == (), t != (); max of a list; x, y = [], e; a def that is not called. -/
namespace FP
open PySem L2
end FP
/-! FP31: class facts put together; special methods by their bodies. -/
namespace FP
open PySem L2
variable [Tabl]
section
variable {mg : Gm}
theorem FnG.imp {P : Program} {w : World} {K : PySem.W.Frag} {mg : Str → Option Value} {base : Heap} {k : Nat} {f : Addr} {fd : FuncData} {ps : List Str} {sp sp' : Sp} (F : FnG P w K mg base k f fd ps sp) (h : ∀ vs H Q E, sp' vs H Q E → sp vs H Q E) : FnG P w K mg base k f fd ps sp' :=
  ⟨fun vs H Q E hs => F.ln vs H Q E (h vs H Q E hs), fun A out z H ag us vs Q E m e0 bd rv hs => F.go A out z H ag us vs Q E m e0 bd rv (h vs H Q E hs)⟩
theorem spD_imp {n : Nat} {f f' : List D → M D} (h : ∀ ds Q E, f' ds Q E → f ds Q E) : ∀ vs H Q E, spD mg n f' vs H Q E → spD mg n f vs H Q E := by
  rintro vs H Q E ⟨W, ds, Qd, Ed, h1, h2, h3, h4, h5⟩
  exact ⟨W, ds, Qd, Ed, h1, h2, h3, h ds Qd Ed h4, h5⟩
theorem DefOk.mono {P : Program} {w : World} {base : Heap} {k k' n : Nat} {x : Str} {f f' : List D → M D} (F : DefOk P w mg base k x n f) (hk : k ≤ k') (h : ∀ ds Q E, f' ds Q E → f ds Q E) : DefOk P w mg base k' x n f' := by
  obtain ⟨fa, fd, ps, h1, h2, h3, h4, G⟩ := F.ex
  exact ⟨fa, fd, ps, h1, h2, h3, h4, (G.up hk).imp (spD_imp h)⟩
/-- nothing is caught -/
theorem CatF.nil {c : Value} {yes : Str → Bool} : CatF mg c [] yes := ⟨fun _ h => absurd h List.not_mem_nil⟩
end
end FP
/-! FP32: max(e, default=d) of whole numbers. -/
namespace FP
open PySem PyProof.Rows L2
end FP
/-! FP33: binary operators of own objects. -/
namespace FP
open PySem PyProof.Rows L2
end FP
/-! FP34: dicts walked (keys, values, items), d.get(k, x), dict(rows of pairs). -/
namespace FP
open PySem L2
end FP
/-! FP35: a list comprehension whose element raises. -/
namespace FP
open PySem L2
/-! ### the comprehension: what is wanted of an error, with the frame known -/
/-! ### the block's context, with a wish about errors -/
end FP
/-! FP36: the list comprehension whose element raises, by data. -/
namespace FP
open PySem L2
end FP
/-! FP37: a lambda without parameters is made: the heap behind it, told exactly. -/
namespace FP
open PySem L2 LamX
variable [Tabl]
/-- the heap behind the making: the same, or with one entry more in the table and a new code object -/
def Made (H : Hp) (P : Addr) (q : Str) (H1 : Hp) : Prop := H1 = H ∨ ∃ ps more c, H P = some (.tbl ps) ∧ H c = none ∧ H1 = upd (upd H P (.tbl (ps ++ more))) c (CodeO c q)
/-- the world is borne behind the making -/
theorem Made.step {W : Wd} {H H1 : Hp} {P : Addr} {q : Str} (hh : Holds W H) (mem : (P, q) ∈ Tabl.B) (m : Made H P q H1) (tabs : Tabs Tabl.B H1) : Step W H W H1 := by
  rcases m with rfl | ⟨ps, more, c, hP, nC, rfl⟩
  · exact Step.refl hh
  have tP : W.T P := (hh.tab _ mem).1
  have at' : ∀ b, b ≠ P → b ≠ c → upd (upd H P (.tbl (ps ++ more))) c (CodeO c q) b = H b := fun b h1 h2 => by rw [upd_ne h2, upd_ne h1]
  have atP : upd (upd H P (.tbl (ps ++ more))) c (CodeO c q) P = some (.tbl (ps ++ more)) := by rw [upd_ne (ne_of_none hP nC), upd_same]
  have nc : ∀ {b u}, H b = some u → b ≠ c := fun e => ne_of_none e nC
  have live : ∀ b o, H b = some o → ∃ o', upd (upd H P (.tbl (ps ++ more))) c (CodeO c q) b = some o' := fun b o e => by
    by_cases hb : b = P
    · rw [hb, atP]
      exact ⟨_, rfl⟩
    · rw [at' b hb (nc e)]
      exact ⟨o, e⟩
  have nP : ∀ b o, W.H b = some o → b ≠ P := fun b o e k => by
    rw [k, (hh.exm P tP).1] at e
    cases e
  refine ⟨Le.refl W, ⟨fun b o e => ?_, fun a t => ?_, fun a t => ?_, fun p hp => ⟨(hh.tab p hp).1, tabs p hp⟩, fun b qs e => ?_⟩, fun b o e nt => ?_, fun _ _ _ => rfl, fun _ t => .inl t, live⟩
  · rw [at' b (nP b o e) (nc (hh.same b o e))]
    exact hh.same b o e
  · obtain ⟨h1, o, h2⟩ := hh.exm a t
    exact ⟨h1, live a o h2⟩
  · obtain ⟨h1, x, y, z, h2⟩ := hh.tok a t
    have ne : a ≠ P := fun k => by
      rw [k, hP] at h2
      cases h2
    exact ⟨h1, x, y, z, by rw [at' a ne (nc h2)]; exact h2⟩
  · by_cases hb : b = P
    · exact ⟨q, by rw [hb]; exact mem⟩
    · by_cases hc : b = c
      · rw [hc, upd_same] at e
        exact absurd (Option.some.inj e) (codeO_ne _)
      · rw [at' b hb hc] at e
        exact hh.all b qs e
  · have ne : b ≠ P := fun k => nt (by rw [k]; exact tP)
    rw [at' b ne (nc e)]
    exact e
end FP
/-! FP38: x(lambda: e), where x calls what it got. -/
namespace FP
open PySem L2 LamX
variable [Tabl]
/-- the data of an environment alone -/
def Sl.only : Sl → Sl
  | .d x => .d x
  | _ => .no
abbrev dataE (ρ : Env) : Env := ρ.map Sl.only
theorem EnvR.data {mg : Gm} {B B' : Hp} {W W' : Wd} {H H' : Hp} {σ : St} {ρ : Env} (e : EnvR mg B W H σ ρ) (l : Le W W') : EnvR mg B' W' H' σ (dataE ρ) := by
  refine ⟨by simpa using e.len, fun i s h => ?_, fun i j xs ys o1 o2 a _ h1 _ _ _ m1 _ => ?_⟩
  · rw [List.getElem?_map] at h
    cases q : ρ[i]? with
    | none =>
      rw [q] at h
      cases h
    | some s0 =>
      rw [q] at h
      cases h
      obtain ⟨o, h1, h2⟩ := e.sl _ _ q
      refine ⟨o, h1, ?_⟩
      cases s0 with
      | d x =>
        obtain ⟨v, h3, h4⟩ := h2
        exact ⟨v, h3, h4.mono l⟩
      | _ => exact True.intro
  · rw [List.getElem?_map] at h1
    cases q : ρ[i]? with
    | none =>
      rw [q] at h1
      cases h1
    | some s0 =>
      rw [q] at h1
      cases h1
      cases s0 <;> cases m1
/-! ### what was got is called -/
/-! ### a def that calls what it got -/
end FP
/-! FP39: the end of a law whose defs make lambdas. -/
namespace FP
open PySem PySem.Spec PyProof.Rows L2 LamX
end FP
/-! FP40: dict(list of pairs); facts of operators and of exceptions. -/
namespace FP
open PySem L2
variable [Tabl]
section
variable {ι : Type} {Xs : ι → Cx} {mg : Gm} {Wx : WX} {pos : Pos}
def mergeD (kvs more : List (Key × D)) : List (Key × D) := more.foldl (fun acc kv => putKD acc kv.1 kv.2) kvs
theorem merge_v {W : Wd} : ∀ {us : List (Key × V)} {kvs : List (Key × D)} {us0 : List (Key × V)} {kvs0 : List (Key × D)}, us.map (·.1) = kvs.map (·.1) → Reps mg W (us.map (·.2)) (kvs.map (·.2)) → us0.map (·.1) = kvs0.map (·.1) → Reps mg W (us0.map (·.2)) (kvs0.map (·.2)) →
    (mergeK us0 us).map (·.1) = (mergeD kvs0 kvs).map (·.1) ∧ Reps mg W ((mergeK us0 us).map (·.2)) ((mergeD kvs0 kvs).map (·.2))
  | [], [], _, _, _, _, h3, h4 => ⟨h3, h4⟩
  | (k, v) :: us, (k', d) :: kvs, _, _, h1, h2, h3, h4 => by
    rw [List.map_cons, List.map_cons] at h1
    injection h1 with e1 e2
    have e1 : k = k' := e1
    subst e1
    cases h2 with
    | cons r t =>
      obtain ⟨g1, g2⟩ := put_rep (k := k) h3 h4 r
      exact merge_v (us := us) (kvs := kvs) (us0 := putK _ k v) (kvs0 := putKD _ k d) e2 t g1 g2
  | [], _ :: _, _, _, h1, _, _, _ => by cases h1
  | _ :: _, [], _, _, h1, _, _, _ => by cases h1
/-- one of two readings of an operator -/
theorem OpOk.or {f : Value → Value → Sem Value} {rd rd' : RD2} (a : OpOk Xs mg f rd) (b : OpOk Xs mg f rd') : OpOk Xs mg f (fun x y Q => rd x y Q ∨ rd' x y Q) := by
  obtain ⟨r, a1, a2⟩ := a
  obtain ⟨r', b1, b2⟩ := b
  refine ⟨fun x y H Q => r x y H Q ∨ r' x y H Q, fun i pins s σ H x y v u Q I rx ry h => ?_, fun W H x y dx dy Q Q' hh rx ry h q => ?_⟩
  · rcases h with h | h
    · exact a1 i pins s σ H x y v u Q I rx ry h
    · exact b1 i pins s σ H x y v u Q I rx ry h
  · rcases h with h | h
    · exact .inl (a2 W H x y dx dy Q Q' hh rx ry h q)
    · exact .inr (b2 W H x y dx dy Q Q' hh rx ry h q)
/-! ### facts of operators -/
end
/-! ### facts of exceptions -/
abbrev veBm : List Value := [.type "ValueError", .type "Exception", .type "BaseException", .type "object"]
theorem veB : ExcBaseFacts "ValueError" "ValueError.__new__" "ValueError.__init__" veBm := PySem.F.excBase_ValueError
theorem InitOk.imp {P : Program} {w : World} {mg : Gm} {base : Heap} {k n : Nat} {c : Str} {C : Addr} {f f' : List D → ((List (Str × D)) → Prop) → (XD → Prop) → Prop} (G : InitOk P w mg base k c C n f) (h : ∀ ds Q E, f' ds Q E → f ds Q E) : InitOk P w mg base k c C n f' := by
  obtain ⟨fa, fd, ps, h1, h2, h3, F⟩ := G.ex
  refine ⟨fa, fd, ps, h1, h2, h3, F.imp ?_⟩
  rintro vs H Q E ⟨W, ds, us, H1, x, dx, Qd, Ed, g1, g2, g3, g4, g5, g6, g7, g8, g9, g10⟩
  exact ⟨W, ds, us, H1, x, dx, Qd, Ed, g1, g2, g3, g4, g5, g6, g7, g8, h _ _ _ g9, g10⟩
end FP
/-! FP41: displays of dicts. -/
namespace FP
open PySem L2
variable [Tabl]
section
variable {ι : Type} {Xs : ι → Cx} {mg : Gm} {Wx : WX} {pos : Pos}
abbrev DTP := Env → M (List (Key × D))
def CpPs (mg : Gm) (Wx : WX) (trs : List (TE × TE)) (f : DTP) : Prop := ∀ B ρ Q E, f ρ Q E → ∀ W σ H Q', Holds W H → EnvR mg B W H σ ρ → ExR mg Wx W H σ E →
  (∀ W' H' (kvs : List (Key × V)) (ds : List (Key × D)), Step W H W' H' → kvs.map (·.1) = ds.map (·.1) → Reps mg W' (kvs.map (·.2)) (ds.map (·.2)) → Q ds → Q' (kvs.map fun kv => (kV kv.1, kv.2)) H') → tPairs trs σ H Q'
def DPs (Xs : ι → Cx) (mg : Gm) (Wx : WX) (pos : Pos) (ks : List (Option Expr)) (vs : List Expr) (f : DTP) : Prop := ∃ trs, (∀ i, PPs (Xs i) pos ks vs trs) ∧ CpPs mg Wx trs f
abbrev dPn : DTP := fun _ Q _ => Q []
abbrev dPc (fk fv : DTE) (g : DTP) : DTP := fun ρ Q E => fk ρ (fun x => fv ρ (fun y => ∃ k, keyD x = some k ∧ g ρ (fun r => Q ((k, y) :: r)) E) E) E
theorem dps_nil : DPs Xs mg Wx pos [] [] dPn := ⟨[], fun _ => pps_nil, fun B ρ Q E h W σ H Q' hh _ _ q => q W H [] [] (Step.refl hh) rfl .nil h⟩
theorem dps_cons {k v : Expr} {ks : List (Option Expr)} {vs : List Expr} {fk fv : DTE} {g : DTP} (hk : DE Xs mg Wx k fk) (hv : DE Xs mg Wx v fv) (hr : DPs Xs mg Wx pos ks vs g) : DPs Xs mg Wx pos (some k :: ks) (v :: vs) (dPc fk fv g) := by
  obtain ⟨tk, a1, a2⟩ := hk
  obtain ⟨tv, b1, b2⟩ := hv
  obtain ⟨trs, c1, c2⟩ := hr
  refine ⟨_, fun i => pps_cons (a1 i) (b1 i) (c1 i), fun B ρ Q E hf W σ H Q' hh e x q => ?_⟩
  refine a2 B ρ _ E hf W σ H _ hh e x fun W1 H1 v1 d1 s1 r1 k1 => ?_
  refine b2 B ρ _ E k1 W1 σ H1 _ s1.holds (e.step s1) (x.step s1) fun W2 H2 v2 d2 s2 r2 k2 => ?_
  obtain ⟨kk, hkk, k3⟩ := k2
  have s12 := s1.trans s2
  refine c2 B ρ _ E k3 W2 σ H2 _ s2.holds (e.step s12) (x.step s12) fun W3 H3 kvs ds s3 h1 h2 k4 => ?_
  have ek := keyD_v r1 hkk
  subst ek
  exact q W3 H3 ((kk, v2) :: kvs) ((kk, d2) :: ds) (s12.trans s3) (by rw [List.map_cons, List.map_cons, h1]) (.cons (r2.mono s3.le) h2) k4
abbrev dDisp (g : DTP) : DTE := fun ρ Q E => g ρ (fun kvs => kvs.length ≤ 15 ∧ Q (.dct (mergeD [] kvs))) E
theorem de_disp {ks : List (Option Expr)} {vs : List Expr} {g : DTP} (h : DPs Xs mg Wx pos ks vs g) (hall : ks.all (·.isSome) = true := by rfl) (hl : ks.length = vs.length := by rfl) (h0 : ks ≠ [] := by intro h; cases h) (h15 : ks.length ≤ 15 := by decide) : DE Xs mg Wx (.Dict ks vs pos) (dDisp g) := by
  obtain ⟨trs, h1, h2⟩ := h
  refine ⟨_, fun i => pe_lk (pe_disp (h1 i) hall hl h0 h15), ?_⟩
  intro B ρ Q E hf W σ H Q' hh e x q p hp
  have s0 := Step.lay hh hp (o := .dK [])
  refine h2 B ρ _ E hf W σ (upd H p (.dK [])) _ s0.holds (e.step s0) (x.step s0) fun W' H' kvs ds s1 hk hr ⟨hn, k2⟩ => ?_
  obtain ⟨c1, c2, c3⟩ := s1.mine (a := p) upd_same (hh.same.free hp) (hh.nT hp)
  refine ⟨c1, kvs, rfl, by rw [len_keys hk]; exact hn, p, _, rfl, upd_same, True.intro, fun od => ?_⟩
  rw [upd_upd]
  obtain ⟨m1, m2⟩ := merge_v (us0 := []) (kvs0 := []) hk hr rfl .nil
  exact q _ _ _ _ (((s0.trans s1).own hp c1 c2 c3).taken hp upd_same c2 c3) (Rep.newDct m1 m2 c2) k2
end
end FP
/-! FP42: own exceptions with one field: made and raised; several except clauses, with and without a name; the field read. -/
namespace PySem
namespace XcM
open PySem.W PySem.Calls PyProof.Rows PySem.HandSPX Builtin Builtin.ObjectAttr
/-! ### the text of the __init__ -/
def initA (f : Str) (p1 p2 : Pos) : Arguments := { posonlyargs := [], args := [{ arg := "self", annotation := none, pos := p1 }, { arg := f, annotation := none, pos := p2 }], vararg := none, kwonlyargs := [], kw_defaults := [], kwarg := none, defaults := [] }
def initB (f : Str) (q1 q2 q3 q4 : Pos) : List Stmt := [.Assign [.Attribute (.Name "self" q1) f q2] (.Name f q3) q4]
def initS (f : Str) : Scope := { kind := .function, names := [("self", .local), (f, .local)], isGenerator := false, isCoroutine := false, more := [] }
/-- a def of this text -/
structure IsInit (f : Str) (A : Arguments) (b : List Stmt) (sc : Scope) : Prop where
  ne : f ≠ "self"
  nd : (f == ("__debug__" : Str)) = false
  a : ∃ p1 p2, A = initA f p1 p2
  b : ∃ q1 q2 q3 q4, b = initB f q1 q2 q3 q4
  s : sc = initS f
/-- what the written part says of an own exception class over a built-in one, at C, and of its __init__, at fI, that keeps its one argument -/
structure XcT (K : Frag) (C fI : Addr) (f : Str) (bmB : List Value) (newId : String) : Prop where
  ei : excInitIn K C bmB newId = true
  ov : excOver K C bmB = true
  sa : findIn K (.ref C) "__setattr__" = some (some (.builtin "object.__setattr__"))
  no : findIn K (.ref C) f = some none
  hd : hasDictIn K C = true
  iC : findIn K (.ref C) "__init__" = some (some (.ref fI))
  iF : isFn K (.ref fI) = true
  fn : ∃ (nm qual : Str) (A : Arguments) (b : List Stmt) (sc : Scope) (oc : Value) (od : Option Addr) (dV kV doc pm : Value) (an : Option Addr) (cdv ct : Value) (osl : Array (Option Value)),
    K.lookup fI = some ⟨oc, od, .func (fnOf nm qual A b sc dV kV doc pm an cdv ct), osl⟩ ∧ codeIn K cdv qual = true ∧ IsInit f A b sc ∧
      ∀ x v, bindArgs (fnOf nm qual A b sc dV kV doc pm an cdv ct) ⟨[x, v], []⟩ = pure [(("self" : Str), x), (f, v)]
section
variable {prog : Program} {w : World} {A : Around} {E : Value → Shared → Prop} {R : Result → Shared → Prop} {K : Frag} {C fI : Addr} {f : Str} {B newId initId : String} {bmB : List Value}
/-- the first field of an exception without a dict -/
theorem osa_one {hp : Heap} {g : Array GenState} {d : Drawn} {t : Nat} {os : OsState} {tk : Tok} {v : Value} {x : Addr} {fv : Array Value} (SF : StoreFacts B bmB "object.__setattr__" "object") (X : K.In hp) (T : XcT K C fI f bmB newId) (hx : hp.get? x = some { cls := .ref C, data := .fields fv })
    (hq : ∀ h' tk' dx, (∀ b o, b ≠ x → hp.get? b = some o → h'.get? b = some o) → hp.objs.size ≤ dx → dx ≠ x → h'.get? x = some { cls := .ref C, dict := some dx, data := .fields fv } →
      h'.Ns1 dx (fun y => if y = f then some v else none) → R (.ok (.ret .none)) ⟨h', g, d, tk', os⟩) :
    codeAny (model prog w) A (.call (.builtin "object.__setattr__") ⟨[.ref x, .str f tk, v], []⟩) R ⟨hp, g, d, t, os⟩ := by
  have J : InstAt hp x { cls := .ref C, data := .fields fv } C none := ⟨hx, rfl, rfl, trivial⟩
  have ht : takerIn K C f = some none := by
    unfold takerIn
    rw [T.no]
    rfl
  refine osa_openX SF X J T.ov ht fun b => ?_
  obtain ⟨cd, hc, -⟩ := any_some T.ov
  have hh : cd.hasDict = true := by
    have q := T.hd
    unfold hasDictIn at q
    rw [hc] at q
    exact q
  have hcls : Looks (model prog w) hp (classData C) cd := looks_clsIn X hc
  have hxs : x ≠ hp.objs.size := Nat.ne_of_lt (Heap.lt_size hx)
  show wpAny _ _ (storeInOwnDict (.ref x) (.ref C) (.str f tk) f v b) _ _ _
  obtain ⟨nm, bs, mro, ns, qn, hd, sn, sb, ab, col, del⟩ := cd
  dsimp only at hh
  subst hh
  unfold storeInOwnDict ownDictForStores
  repeat (first | with_reducible refine store_in_new ?_ ?_ | with_reducible refine wpAny_loadPart_at hx ?_ | with_reducible refine hcls.at ?_ | wp_step)
  · exact ⟨_, #[], _, (Heap.get?_update_ne _ _ _ _ hxs.symm).trans (Heap.get?_push_at rfl rfl), rfl, fun e he => absurd he (by simp), fun _ => rfl⟩
  · intro h' tk' hn' hs
    refine hq h' tk' hp.objs.size (fun b o hb ho => ?_) (Nat.le_refl _) hxs.symm ?_ hn'
    · exact (hs.2 b (Nat.ne_of_lt (Heap.lt_size ho))).trans ((Heap.get?_update_ne _ _ _ _ hb).trans (Heap.get?_push_of_some _ ho))
    · exact (hs.2 x hxs).trans (Heap.get?_update_self _ (Heap.get?_push_of_some _ hx) rfl)
/-- what the making leaves: the exception at e, its dict at dd -/
structure XMade (h h' : Heap) (e C dd : Addr) (f : Str) (v : Value) : Prop where
  up : ∀ b o, h.get? b = some o → h'.get? b = some o
  ge : h.objs.size ≤ e
  ob : ∃ oe vs, h'.get? e = some oe ∧ oe.cls = .ref C ∧ oe.dict = some dd ∧ oe.data = .fields vs ∧ vs[1]? = some .none
  gd : h.objs.size ≤ dd
  ne : dd ≠ e
  ns : h'.Ns1 dd (fun y => if y = f then some v else none)
theorem init_run {s : Shared} (SF : StoreFacts B bmB "object.__setattr__" "object") (T : XcT K C fI f bmB newId) {x t0 : Addr} {v : Value} (X : K.In s.heap) (hlim : s.heap.NoLimit) (hx : s.heap.get? x = some (excO C t0)) (hroom : A.depth < recursionLimit)
    (hq : ∀ h' tk dx, (∀ b o, b ≠ x → s.heap.get? b = some o → h'.get? b = some o) → h'.get? x = some { cls := .ref C, dict := some dx, data := .fields #[.ref t0, .none, .none, .none, .bool false, .none] } → s.heap.objs.size ≤ dx → dx ≠ x → h'.Ns1 dx (fun y => if y = f then some v else none) →
      R (.ok (.ret .none)) { s with heap := h', toks := tk }) :
    codeAny (model prog w) A (.call (.ref fI) ⟨[.ref x, v], []⟩) R s := by
  obtain ⟨nm, qual, A', b', sc, oc, od, dV, kV, doc, pm, an, cdv, ct, osl, ho, hcd, ⟨hne, hnd, ⟨p1, p2, rfl⟩, ⟨q1, q2, q3, q4, rfl⟩, rfl⟩, hb⟩ := T.fn
  have lk1 : (initS f).names.lookup ("self" : Str) = some NameKind.local := rfl
  have lk2 : (initS f).names.lookup f = some NameKind.local := by
    have e : (f == ("self" : Str)) = false := by simpa using hne
    simp [initS, List.lookup, e]
  refine Att.call_fn (binds := [(("self" : Str), .ref x), (f, v)]) X hlim ho hcd hroom (BindsTo.of_eq (hb _ _)) (by simp [lk1, lk2]) (fun s₁ IC => ?_) rfl rfl rfl
  obtain ⟨h₁, tk₁, rfl⟩ := IC.toInCall.same
  have k := IC.toInCall.keep
  have hn := IC.toInCall.ns
  have hx₁ := k _ _ hx
  have m1 : bindL (envOfC qual (initS f) s.heap.objs.size fI cdv).kindOf [(("self" : Str), .ref x), (f, v)] (fun _ => none) "self" = some (.ref x) := by
    have z1 : (envOfC qual (initS f) s.heap.objs.size fI cdv).kindOf "self" = some .local := lk1
    have z2 : (envOfC qual (initS f) s.heap.objs.size fI cdv).kindOf f = some .local := lk2
    simp only [bindL, z1, z2, if_pos]
    rw [if_neg (Ne.symm hne)]
  have m2 : bindL (envOfC qual (initS f) s.heap.objs.size fI cdv).kindOf [(("self" : Str), .ref x), (f, v)] (fun _ => none) f = some v := by
    have z2 : (envOfC qual (initS f) s.heap.objs.size fI cdv).kindOf f = some .local := lk2
    simp only [bindL, z2, if_pos]
  show wpAny _ _ (execs _ _) _ _ _
  refine wpAny_execs_cons (plainObj_wpAny_Assign_Attribute ?_)
  refine wpAny_Name (wpAny_loadName_local rfl lk2 hn m2 ?_) hnd
  refine wpAny_Name (wpAny_loadName_local rfl lk1 hn m1 ?_) (by decide)
  refine set_plain (X.keeps k) (ox := excO C t0) (od := none) ⟨hx₁, rfl, rfl, trivial⟩ T.sa ?_
  refine osa_one SF (X.keeps k) T hx₁ fun h₃ tk₃ dx k₃ dn dne hx₃ hn₃ => ?_
  show wpAny _ _ (execs _ _) _ _ _
  exact wpAny_execs_nil (hq h₃ tk₃ dx (fun b o hb e => k₃ b o hb (k b o e)) hx₃ (Nat.le_of_lt (Nat.lt_of_lt_of_le hn.lt dn)) dne hn₃)
theorem made_run {s : Shared} (FB : ExcBaseFacts B newId initId bmB) (SF : StoreFacts B bmB "object.__setattr__" "object") (T : XcT K C fI f bmB newId) {v : Value} (X : K.In s.heap) (hlim : s.heap.NoLimit) (hroom : A.depth + 1 < recursionLimit)
    (hq : ∀ h' tk e d, XMade s.heap h' e C d f v → R (.ok (.ret (.ref e))) { s with heap := h', toks := tk }) : codeAny (model prog w) A (.call (.ref C) ⟨[v], []⟩) R s := by
  obtain ⟨nm, N, qn, bs, bm, hdct, sn, sub, ab, col, dd, k0, k1, k2, k3, k5, hC, hT⟩ := excInit_of X T.ei
  obtain ⟨oI, hoI, hcI⟩ : ∃ oI, s.heap.get? fI = some oI ∧ oI.cls = .type "function" := by
    obtain ⟨o, z1, z2⟩ := Option.map_eq_some_iff.mp (show (K.lookup fI).map (·.cls) = some (.type "function") from beq_iff_eq.mp T.iF)
    exact ⟨o, X _ _ z1, z2⟩
  have hfind : Looks (model prog w) s.heap (typeLookup (.ref C) "__init__") (some (.ref fI)) := looks_findIn X T.iC
  obtain ⟨hp, g, dr, tk, os⟩ := s
  have up : ∀ b o, hp.get? b = some o → ((hp.push (kdv_tup [v])).push (excO C hp.objs.size)).get? b = some o := fun b o e => Heap.get?_push_of_some _ (Heap.get?_push_of_some _ e)
  have new : ((hp.push (kdv_tup [v])).push (excO C hp.objs.size)).get? (hp.objs.size + 1) = some (excO C hp.objs.size) := by heap_get
  refine call_own FB hT hC hfind (fun self => exc_bind hoI hcI self) (by rw [sizeLine_eq]; exact (by decide : 1 ≤ 16777216)) ?_
  refine init_run (s := ⟨(hp.push (kdv_tup [v])).push (excO C hp.objs.size), g, dr, tk, os⟩) SF T (X.keeps up) (hlim.keeps up) new hroom fun h' tk' dx k' hx dn dne hns => ⟨rfl, hq h' tk' (hp.objs.size + 1) dx ⟨fun b o e => ?_, Nat.le_succ _, ⟨_, _, hx, rfl, rfl, rfl, rfl⟩, ?_, dne, hns⟩⟩
  · exact k' b o (Nat.ne_of_lt (Nat.lt_succ_of_lt (Heap.lt_size e))) (up b o e)
  · have q : ((hp.push (kdv_tup [v])).push (excO C hp.objs.size)).objs.size ≤ dx := dn
    rw [Heap.size_push, Heap.size_push] at q
    exact Nat.le_trans (Nat.le_add_right hp.objs.size 2) q
end
end XcM
end PySem
namespace FP
open PySem L2
variable [Tabl]
/-- an own exception class with one field, of the text -/
structure XcF (mg : Gm) (x : Str) (C : Addr) (f : Str) (bmB : List Value) (newId : String) : Prop where
  nm : mg.mg x = some (.ref C)
  t : ∃ fI, PySem.XcM.XcT mg.K C fI f bmB newId
  kp : PySem.W.keepIn mg.K (.ref C) = true
  sb : PySem.W.subIn mg.K (.ref C) (.type "BaseException") = some true
  ty : PySem.W.typeIn mg.K (.ref C) = some (.type "type")
  ga : PySem.W.findIn mg.K (.ref C) "__getattribute__" = some (some (.builtin "BaseException.__getattribute__"))
  gg : PySem.W.findIn mg.K (.ref C) "__getattr__" = some none
section
variable {X : Cx} {C fI : Addr} {f : Str} {B newId initId : String} {bmB : List Value}
theorem relO_one {v : V} {v' : Value} (r : RelV v v') (g : Str) : RelO (List.lookup g [(f, v)]) (if g = f then some v' else none) := by
  by_cases h : g = f
  · subst h
    have q : List.lookup g [(g, v)] = some v := by simp [List.lookup]
    rw [q, if_pos rfl]
    exact r
  · have e : (g == f) = false := by simpa using h
    have q : List.lookup g [(f, v)] = none := by simp [List.lookup, e]
    rw [q, if_neg h]
    exact True.intro
end
end FP
/-! FP43: try with several except clauses, with and without a name; the field of the error read. -/
namespace FP
open PySem PySem.Spec PyProof.Rows L2
/-- a clause: its class, its name's place, its suite's reading -/
structure Cl where
  c : Value
  i : Option Nat
  ts : Addr → Value → Option Addr → TS
def Cl.ends (k : Cl) (D : Ends) : Ends := match k.i with
  | none => D
  | some i => { nx := fun σ H => D.nx (σ.set i none) H, rt := D.rt, bk := fun σ H => D.bk (σ.set i none) H, ct := fun σ H => D.ct (σ.set i none) H }
def Cl.slots (k : Cl) (a : Addr) (σ : L2.St) : L2.St := match k.i with
  | none => σ
  | some i => σ.set i (some (.ref a))
variable [Tabl]
/-! ### by data -/
end FP
/-! FP44: zip of lists and tuples, in any mixture. -/
namespace FP
open PySem PySem.Spec PyProof.Rows L2
/-- a list or a tuple -/
inductive Sd where
  | l | t
def Sd.sq (K : PySem.W.Frag) (H : Hp) (a : Addr) (xs : List V) : Sd → Prop
  | .l => SqL K H a xs
  | .t => SqT K H a xs
def Sd.is (h : Heap) (a : Addr) (its : Array Value) : Sd → Prop
  | .l => h.IsList a its
  | .t => h.IsTuple a its
def Sd.ob (a : Addr) : Sd → Obj
  | .l => { cls := .type "list_iterator", data := .fields #[.ref a, .int 0 0] }
  | .t => { cls := .type "tuple_iterator", data := .fields #[.ref a, .int 0 0] }
theorem Sd.inj {X : Cx} {pins : List (Addr × Obj)} {σ : L2.St} {H : Hp} {z : Shared} {a : Addr} {xs ys : List V} {s : Sd} (I : Inv X pins σ H z) (p : s.sq X.K H a xs) (q : s.sq X.K H a ys) : xs = ys := by
  cases s with
  | l => exact I.list_inj p q
  | t => exact I.tuple_inj p q
variable [Tabl]
end FP
/-! FP45: list(zip(a, b)), a and b lists or tuples. -/
namespace PySem.ZipL
open PySem PySem.W PySem.Calls PyProof.Rows
end PySem.ZipL
/-! FP46: list(zip(a, b)) by data. -/
namespace FP
open PySem PySem.Spec PyProof.Rows L2
end FP
/-! FP47: facts of own exceptions, by their built-in bases. -/
namespace FP
open PySem L2
variable [Tabl]
abbrev rtBm : List Value := [.type "RuntimeError", .type "Exception", .type "BaseException", .type "object"]
abbrev lkBm : List Value := [.type "LookupError", .type "Exception", .type "BaseException", .type "object"]
abbrev ixBm : List Value := [.type "IndexError", .type "LookupError", .type "Exception", .type "BaseException", .type "object"]
abbrev arBm : List Value := [.type "ArithmeticError", .type "Exception", .type "BaseException", .type "object"]
abbrev ovBm : List Value := [.type "OverflowError", .type "ArithmeticError", .type "Exception", .type "BaseException", .type "object"]
theorem rtB : ExcBaseFacts "RuntimeError" "RuntimeError.__new__" "RuntimeError.__init__" rtBm := PySem.F.excBase_RuntimeError
theorem lkB : ExcBaseFacts "LookupError" "LookupError.__new__" "LookupError.__init__" lkBm := PySem.F.excBase_LookupError
theorem ixB : ExcBaseFacts "IndexError" "IndexError.__new__" "IndexError.__init__" ixBm := PySem.F.excBase_IndexError
theorem arB : ExcBaseFacts "ArithmeticError" "ArithmeticError.__new__" "ArithmeticError.__init__" arBm := PySem.F.excBase_ArithmeticError
theorem ovB : ExcBaseFacts "OverflowError" "OverflowError.__new__" "OverflowError.__init__" ovBm := PySem.F.excBase_OverflowError
theorem veS : StoreFacts "ValueError" veBm "object.__setattr__" "object" := PySem.F.store_ValueError
theorem rtS : StoreFacts "RuntimeError" rtBm "object.__setattr__" "object" := PySem.F.store_RuntimeError
theorem lkS : StoreFacts "LookupError" lkBm "object.__setattr__" "object" := PySem.F.store_LookupError
theorem ixS : StoreFacts "IndexError" ixBm "object.__setattr__" "object" := PySem.F.store_IndexError
theorem arS : StoreFacts "ArithmeticError" arBm "object.__setattr__" "object" := PySem.F.store_ArithmeticError
theorem ovS : StoreFacts "OverflowError" ovBm "object.__setattr__" "object" := PySem.F.store_OverflowError
/-! ### the end of a law: facts by the written part -/
theorem CatF.none {mg : Gm} {c : Value} {yes : Str → Bool} : CatF mg c [] yes := ⟨fun _ h => absurd h List.not_mem_nil⟩
theorem CatF.cons {mg : Gm} {c : Value} {cs : List Str} {yes : Str → Bool} {x : Str} {C : Addr} {b : Bool} (h1 : mg.mg x = some (.ref C)) (h2 : PySem.W.exmOne mg.K (.ref C) c = some b) (h3 : yes x = b) (r : CatF mg c cs yes) : CatF mg c (x :: cs) yes := ⟨fun y hy => by
  rcases List.mem_cons.mp hy with e | hy
  · subst e
    exact ⟨C, h1, by rw [h2, h3]⟩
  · exact r.cl y hy⟩
theorem xcF_mk {K : PySem.W.Frag} {mg : Str → Option Value} {x f nm qual : Str} {C fI : Addr} {bmB : List Value} {newId : String} {st : Stmt} {oc : Value} {od : Option Addr} {kV doc pm : Value} {an : Option Addr} {cdv ct : Value} {osl : Array (Option Value)} (h1 : mg x = some (.ref C)) (h2 : PySem.W.excInitIn K C bmB newId = true)
    (h3 : PySem.W.excOver K C bmB = true) (h4 : PySem.W.findIn K (.ref C) "__setattr__" = some (some (.builtin "object.__setattr__"))) (h5 : PySem.W.findIn K (.ref C) f = some none) (h6 : PySem.W.hasDictIn K C = true) (h7 : PySem.W.findIn K (.ref C) "__init__" = some (some (.ref fI))) (h8 : PySem.W.isFn K (.ref fI) = true)
    (h9 : K.lookup fI = some ⟨oc, od, .func (PySem.W.fnOf nm qual (defArgs st) (defBody st) (defScope st) .none kV doc pm an cdv ct), osl⟩) (h10 : PySem.W.codeIn K cdv qual = true) (h11 : PySem.XcM.IsInit f (defArgs st) (defBody st) (defScope st))
    (h12 : ∀ y v, bindArgs (PySem.W.fnOf nm qual (defArgs st) (defBody st) (defScope st) .none kV doc pm an cdv ct) ⟨[y, v], []⟩ = pure [(("self" : Str), y), (f, v)]) (h13 : PySem.W.keepIn K (.ref C) = true) (h14 : PySem.W.subIn K (.ref C) (.type "BaseException") = some true) (h15 : PySem.W.typeIn K (.ref C) = some (.type "type"))
    (h16 : PySem.W.findIn K (.ref C) "__getattribute__" = some (some (.builtin "BaseException.__getattribute__"))) (h17 : PySem.W.findIn K (.ref C) "__getattr__" = some none) : XcF ⟨mg, K⟩ x C f bmB newId :=
  ⟨h1, ⟨fI, h2, h3, h4, h5, h6, h7, h8, ⟨_, _, _, _, _, _, _, _, _, _, _, _, _, _, _, h9, h10, h11, h12⟩⟩, h13, h14, h15, h16, h17⟩
end FP
/-! FP48: list(d.items()). -/
namespace FP
open PySem PySem.Spec PyProof.Rows L2
end FP
/-! FP49: text.count(text). -/
namespace FP
open PySem PySem.Spec PyProof.Rows L2
end FP
/-! FP50: isinstance with a built-in class, of data that may be an object of the text. -/
namespace FP
open PySem PySem.Spec PyProof.Rows L2
end FP
/-! FP51: a text times a whole number. -/
namespace FP
open PySem PySem.Spec PyProof.Rows L2
variable [Tabl]
theorem op_mulS {X : Cx} : OpR X (binaryOp .Mult) (fun x y H Q => ∃ a n, x = .str a ∧ y = .int n ∧ MulOk a n ∧ Q (.str (Txt.mul a n)) H) := by
  intro pins s σ H x y v u Q I rx ry h
  obtain ⟨a, n, rfl, rfl, hz, q⟩ := h
  obtain ⟨t, rfl⟩ := rx
  obtain ⟨t', rfl⟩ := ry
  exact SB.mul hz (fun t' tk => ⟨.str (Txt.mul a n), H, I.tok _, ⟨_, rfl⟩, q⟩)
def rdMulS : RD2 := fun x y Q => match x, y with
  | .str a, .int n => MulOk a n ∧ Q (.str (Txt.mul a n))
  | _, _ => False
section
variable {ι : Type} {Xs : ι → Cx} {mg : Gm} {Wx : WX} {pos : Pos}
theorem ok_mulS : OpOk Xs mg (binaryOp .Mult) rdMulS := by
  refine ⟨_, fun j => op_mulS, ?_⟩
  intro W H x y dx dy Q Q' hh rx ry h q
  unfold rdMulS at h
  split at h
  · rename_i a n
    cases rx
    cases ry
    exact ⟨a, n, rfl, rfl, h.1, q W H _ _ (Step.refl hh) (.str _) h.2⟩
  · exact h.elim
end
end FP
/-! FP52: x != o, where x is no object of the text and o is one. -/
namespace FP
open PySem PySem.Spec PyProof.Rows PySem.W
end FP
/-! FP53: the operator != with a value on the left that is no object of the text. -/
namespace FP
open PySem PySem.Spec PyProof.Rows PySem.W
open L2
end FP
/-! FP54: operators of own objects with several kinds on the right. -/
namespace FP
open PySem PySem.Spec PyProof.Rows L2
end FP
/-! FP55: repr, of the empty dict too. -/
namespace FP
open PySem PySem.Spec PyProof.Rows L2
variable [Tabl]
theorem call_repr_dnil {X : Cx} (hg : X.A.guards = some []) (hu : X.A.units + 64 < cLine) : CallR X (.builtin "repr") (fun xs H Q => ∃ a o, xs = [.ref a] ∧ H a = some (.frz o (.dK [])) ∧ Q (.str "{}") H) := by
  intro pins s σ H vs us Q I rx h
  obtain ⟨a, o, rfl, e, q⟩ := h
  cases rx with
  | cons r rs =>
    cases rs
    cases r
    obtain ⟨_, hx⟩ := (show ObjOk X.prog X.w H s.heap a (.frz o (.dK [])) from I.hok a _ e)
    obtain ⟨_, hn, vs, kv, o', es, ep, h1, h2, h3, _, h5, _⟩ := hx
    have hvs : vs = [] := by
      cases kv
      rfl
    subst hvs
    have hes : es.toList = [] := by
      cases h : es.toList with
      | nil => rfl
      | cons x y =>
        rw [h] at h5
        cases h5
    have rd : Reads s.heap (.ref a) (.dict []) ([a] ++ []) := by
      refine Reads.dict (as := []) (bs := []) h1 h2.1 h3 ?_ ?_
      · rw [hes]
        exact .nil
      · rw [hes]
        exact .nil
    have es2 : PyData.shown (.dict []) = "{}" := by decide +kernel
    have q2 : Q (.str (PyData.shown (.dict []))) H := by
      rw [es2]
      exact q
    have hdp : PyData.depth (.dict []) ≤ 60 := by decide +kernel
    refine repr_of_reads' rd (by decide +kernel) (fun _ hm => ?_) hg (by omega) (fun _ _ q => q) (fun h' u tk kp => ⟨.str _, H, I.kept kp, ⟨u, rfl⟩, q2⟩) (by decide +kernel)
    rw [List.append_nil, List.mem_singleton] at hm
    rw [← hm] at hn
    simp at hn
def rdReprE : RDL := fun ds Q => (ds = [.dct []] ∧ Q (.str "{}")) ∨ rdRepr ds Q
section
variable {ι : Type} {Xs : ι → Cx} {mg : Gm} {Wx : WX} {pos : Pos}
theorem ok_reprE (hg : ∀ j, (Xs j).A.guards = some []) (hu : ∀ j, (Xs j).A.units + 64 < cLine) (hK : ∀ j, (Xs j).K = mg.K := by intro _; rfl) : CallOk Xs mg (.builtin "repr") rdReprE := by
  obtain ⟨r, r1, r2⟩ := ok_repr (Xs := Xs) (mg := mg) hg hu hK
  refine ⟨fun xs H Q => (∃ a o, xs = [.ref a] ∧ H a = some (.frz o (.dK [])) ∧ Q (.str "{}") H) ∨ r xs H Q, fun j => ?_, ?_⟩
  · intro pins s σ H vs us Q I rx h
    rcases h with h | h
    · exact call_repr_dnil (hg j) (hu j) pins s σ H vs us Q I rx h
    · exact r1 j pins s σ H vs us Q I rx h
  · intro W H vs ds Q Q' hh rx h q
    rcases h with ⟨rfl, h⟩ | h
    · cases rx with
      | cons x rs =>
        cases rs
        cases x with
        | @dct a o kvs ds' ha hk rr =>
          have hkv : kvs = [] := by
            cases kvs with
            | nil => rfl
            | cons p q => cases hk
          subst hkv
          exact .inl ⟨a, o, rfl, hh.same _ _ ha, q W H _ _ (Step.refl hh) (.str _) h⟩
    · exact .inr (r2 W H vs ds Q Q' hh rx h q)
end
end FP
/-! FP56: dicts of one's own: made, changed, asked, handed on. -/
namespace FP
open PySem L2
end FP
/-! FP57: one statement, then the others, by the values of the first one (small goals). -/
namespace FP
open PySem L2
variable [Tabl]
section
variable {f : DTE} {g : DTS} {N : Nd} {ρ : Env} {i : Nat}
/-- the expression comes to a datum with P -/
abbrev EvP (f : DTE) (ρ : Env) (P : D → Prop) : Prop := ∀ (Q : D → Prop) (E : XD → Prop), (∀ d, P d → Q d) → f ρ Q E
/-- the expression comes to just this datum -/
abbrev Ev (f : DTE) (ρ : Env) (d : D) : Prop := ∀ (Q : D → Prop) (E : XD → Prop), Q d → f ρ Q E
theorem Ev.p {d : D} (h : Ev f ρ d) : EvP f ρ (fun x => x = d) := fun Q E q => h Q E (q d rfl)
theorem seq_p (P : D → Prop) (hf : EvP f ρ P) (hg : ∀ d, P d → g N (ρ.set i (.d d))) : dSeq (dSet i f) g N ρ := hf _ _ hg
theorem seq_v (d : D) (hf : Ev f ρ d) (hg : g N (ρ.set i (.d d))) : dSeq (dSet i f) g N ρ := hf _ _ hg
theorem ret_v (d : D) (hf : Ev f ρ d) (hq : N.rt d ρ) : dRet f N ρ := hf _ _ hq
/-- a test that comes to just this truth -/
abbrev EvT (f : DTT) (ρ : Env) (b : Bool) : Prop := ∀ (Q : Bool → Prop) (E : XD → Prop), Q b → f ρ Q E
end
end FP
/-! FP58: list(d), dict(d), sorted(d); own objects in f-strings. -/
namespace FP
open PySem L2
end FP
/-! FP59: o[i] of an own class that may raise. -/
namespace FP
open PySem L2
end FP
/-! FP60: defs with a default; C() of a class whose __init__ has one. -/
namespace FP
open PySem L2
variable [Tabl]
/-- a def as it stands, whatever its defaults -/
structure FunA (K : PySem.W.Frag) (x qual : Str) (st : Stmt) (f : Addr) (fd : FuncData) : Prop where
  ex : ∃ (oc : Value) (od : Option Addr) (dV kV doc pm : Value) (an : Option Addr) (cdv ct : Value) (osl : Array (Option Value)),
    fd = PySem.W.fnOf x qual (defArgs st) (defBody st) (defScope st) dV kV doc pm an cdv ct ∧ K.lookup f = some ⟨oc, od, .func fd, osl⟩ ∧ PySem.W.codeIn K cdv qual = true
  kp : PySem.W.keepIn K (.ref f) = true
abbrev FunDf (K : PySem.W.Frag) (x qual : Str) (st : Stmt) (dvs : List V) (f : Addr) (fd : FuncData) : Prop := FunD K x qual (defArgs st) (defBody st) (defScope st) dvs [] f fd
theorem FunDf.any {K : PySem.W.Frag} {x qual : Str} {st : Stmt} {dvs : List V} {f : Addr} {fd : FuncData} (F : FunDf K x qual st dvs f fd) : FunA K x qual st f fd := by
  obtain ⟨oc, od, dV, kV, doc, pm, an, cdv, ct, osl, h1, h2, h3, _, _⟩ := F.ex
  exact ⟨⟨oc, od, dV, kV, doc, pm, an, cdv, ct, osl, h1, h2, h3⟩, F.kp⟩
end FP
/-! FP61: displays with ** . -/
namespace FP
open PySem L2
end FP
/-! FP62: {**a, **b}, {**a, k: v}. -/
namespace FP
open PySem L2
end FP
/-! FP63: dicts of plain data compared. -/
namespace FP
open PySem L2
end FP
/-! FP64: more small steps. -/
namespace FP
open PySem L2
variable [Tabl]
section
variable {f f2 : DTE} {g : DTS} {N : Nd} {ρ : Env} {i j : Nat}
theorem seq_ifF {c : DTT} {f1 : DTS} (hc : EvT c ρ false) (h : g N ρ) : dSeq (dIfS c f1 dNext) g N ρ := hc _ _ h
theorem end_if {c : DTT} {f1 f2 : DTS} (b : Bool) (hc : EvT c ρ b) (h : bit b (f1 N ρ) (f2 N ρ)) : dIfS c f1 f2 N ρ := hc _ _ h
/-! ### tests by their values -/
variable {c d : DTT} {b b2 : Bool}
theorem or_f (hc : EvT c ρ false) (hd : EvT d ρ b) : EvT (dOr c d) ρ b := fun Q E q => hc _ _ (hd _ _ q)
theorem not_v (hc : EvT c ρ b) : EvT (dNot c) ρ (!b) := fun Q E q => hc _ _ q
theorem b_v (hf : Ev f ρ (.bl b)) : EvT (dB f) ρ b := fun Q E q => hf _ _ q
theorem Ev.eq {x y : D} (h : Ev f ρ x) (e : x = y) : Ev f ρ y := e ▸ h
theorem EvT.eq (h : EvT c ρ b) (e : b = b2) : EvT c ρ b2 := e ▸ h
end
end FP
/-! FP65: what expressions come to, put together by values. -/
namespace FP
open PySem L2
variable [Tabl]
section
variable {ρ : Env} {f g fa fb fk fv : DTE} {c d : D}
/-- the arguments come to just these data -/
abbrev EvA (g : DTA) (ρ : Env) (ds : List D) : Prop := ∀ (Q : List D → Prop) (E : XD → Prop), Q ds → g ρ Q E
/-- what is gone through comes to just these data -/
abbrev EvI (w : DTI) (ρ : Env) (ds : List D) : Prop := ∀ (Q : List D → Prop) (E : XD → Prop), Q ds → w ρ Q E
theorem a0 : EvA dNil ρ [] := fun Q E q => q
theorem a1 {ga : DTA} {ds : List D} (h : Ev f ρ d) (hg : EvA ga ρ ds) : EvA (dCons f ga) ρ (d :: ds) := fun Q E q => h _ _ (hg _ _ q)
theorem ev_op {rd : RD2} {x y : D} (ha : Ev fa ρ x) (hb : Ev fb ρ y) (h : ∀ Q : D → Prop, Q d → rd x y Q) : Ev (dOp rd fa fb) ρ d := fun Q E q => ha _ _ (hb _ _ (h _ q))
theorem ev_call {F : List D → M D} {n : Nat} {ga : DTA} {ds : List D} (ha : EvA ga ρ ds) (hn : ds.length = n) (h : ∀ (Q : D → Prop) (E : XD → Prop), Q d → F ds Q E) : Ev (dCall F n ga) ρ d := fun Q E q => ha _ _ ⟨hn, h _ _ q⟩
theorem ev_cb {rd : RDL} {ga : DTA} {ds : List D} (ha : EvA ga ρ ds) (h : ∀ Q : D → Prop, Q d → rd ds Q) : Ev (dCB rd ga) ρ d := fun Q E q => ha _ _ (h _ q)
theorem ev_if {t : DTT} {b : Bool} (ht : EvT t ρ b) (h1 : b = true → Ev fa ρ d) (h2 : b = false → Ev fb ρ d) : Ev (dIf t fa fb) ρ d := fun Q E q => ht _ _ (by
  cases b with
  | true => exact h1 rfl _ _ q
  | false => exact h2 rfl _ _ q)
theorem lcD_F {α : Type} {body : D → (Option D → Prop) → Prop} (e g : α → D) (b : α → Bool) : ∀ (xs : List α) (Q : List D → Prop), (∀ x ∈ xs, ∀ k : Option D → Prop, k (if b x then some (g x) else none) → body (e x) k) → Q ((xs.filter b).map g) → lcD body (xs.map e) Q
  | [], Q, _, h => h
  | x :: xs, Q, hb, h => by
    refine hb x List.mem_cons_self _ ?_
    cases hx : b x with
    | true =>
      refine lcD_F e g b xs _ (fun y hy => hb y (List.mem_cons_of_mem _ hy)) ?_
      rw [List.filter_cons, hx] at h
      exact h
    | false =>
      refine lcD_F e g b xs _ (fun y hy => hb y (List.mem_cons_of_mem _ hy)) ?_
      rw [List.filter_cons, hx] at h
      exact h
theorem ev_lcF {α : Type} {w : DTI} {T : Tg} {ft : DTT} {vs : List Nat} {xs : List α} (e g : α → D) (b : α → Bool) (hw : EvI w ρ (xs.map e)) (hl : xs.length ≤ sizeLine) (hb : ∀ x ∈ xs, ∃ ρ2, T.put (e x) (wipeD ρ vs) = some ρ2 ∧ EvT ft ρ2 (b x) ∧ (b x = true → Ev f ρ2 (g x))) : Ev (dLc w T ft f vs) ρ (.lst ((xs.filter b).map g)) := fun Q E q => hw _ _ ⟨by rw [List.length_map]; exact hl, lcD_F e g b xs _ (fun x hx k hk => by
  obtain ⟨ρ2, h1, h2, h3⟩ := hb x hx
  refine ⟨ρ2, h1, h2 _ _ ?_⟩
  cases hc : b x with
  | true =>
    rw [hc] at hk
    exact h3 hc _ _ hk
  | false =>
    rw [hc] at hk
    exact hk) q⟩
theorem ev_lc {α : Type} {w : DTI} {T : Tg} {vs : List Nat} {xs : List α} (e g : α → D) (hw : EvI w ρ (xs.map e)) (hl : xs.length ≤ sizeLine) (hb : ∀ x ∈ xs, ∃ ρ2, T.put (e x) (wipeD ρ vs) = some ρ2 ∧ Ev f ρ2 (g x)) : Ev (dLc w T dYes f vs) ρ (.lst (xs.map g)) := by
  have h := ev_lcF (f := f) (ft := dYes) e g (fun _ => true) hw hl fun x hx => by
    obtain ⟨ρ2, h1, h2⟩ := hb x hx
    exact ⟨ρ2, h1, fun Q E q => q, fun _ => h2⟩
  rw [List.filter_eq_self.mpr fun _ _ => rfl] at h
  exact h
theorem ev_tup {ga : DTA} {ds : List D} (ha : EvA ga ρ ds) (hl : ds.length ≤ sizeLine) : Ev (dTup ga) ρ (.tup ds) := fun Q E q => ha _ _ ⟨hl, q⟩
theorem ev_lst {ga : DTA} {ds : List D} (ha : EvA ga ρ ds) (hl : ds.length ≤ sizeLine) : Ev (dLst ga) ρ (.lst ds) := fun Q E q => ha _ _ ⟨hl, q⟩
abbrev EvKV (g : DTP) (ρ : Env) (kvs : List (Key × D)) : Prop := ∀ (Q : List (Key × D) → Prop) (E : XD → Prop), Q kvs → g ρ Q E
theorem kv0 : EvKV dPn ρ [] := fun Q E q => q
theorem kv1 {ga : DTP} {kvs : List (Key × D)} {y v : D} {kk : Key} (hk : Ev fk ρ y) (hy : keyD y = some kk) (hv : Ev fv ρ v) (hr : EvKV ga ρ kvs) : EvKV (dPc fk fv ga) ρ ((kk, v) :: kvs) := fun Q E q => hk _ _ (hv _ _ ⟨kk, hy, hr _ _ q⟩)
theorem ev_disp {ga : DTP} {kvs : List (Key × D)} (h : EvKV ga ρ kvs) (hl : kvs.length ≤ 15) : Ev (dDisp ga) ρ (.dct (mergeD [] kvs)) := fun Q E q => h _ _ ⟨hl, q⟩
end
end FP
/-! FP66: methods with a star parameter behind the first one. -/
namespace FP
open PySem L2
end FP
/-! FP67: list(d.values()). -/
namespace FP
open PySem PySem.Spec PyProof.Rows L2
end FP
/-! FP68: for i, x in enumerate(list or tuple). -/
namespace FP
open PySem PySem.Spec PyProof.Rows L2
end FP
/-! FP69: text.split(text). -/
namespace FP
open PySem PySem.Spec PyProof.Rows L2
end FP
/-! FP70: C.m(..) of a classmethod (cls, *lines). -/
namespace FP
open PySem L2
end FP
/-! FP71: C.m() of a classmethod (cls, *lines). -/
namespace FP
open PySem L2
end FP
/-! FP72: text.replace(written text, written text), behind a written text of the same display. -/
namespace FP
open PySem PySem.Spec PyProof.Rows L2
end FP
/-! FP73: a list times an integer. -/
namespace FP
open PySem L2
variable [Tabl]
def rdRep : RD2 := fun x y Q => match x, y with
  | .lst xs, .int k => (-(2 ^ 63) ≤ k ∧ k < 2 ^ 63) ∧ xs.length * k.toNat ≤ sizeLine ∧ Q (.lst (List.replicate k.toNat xs).flatten)
  | _, _ => False
section
variable {ι : Type} {Xs : ι → Cx} {mg : Gm} {Wx : WX} {pos : Pos}
theorem Reps.rep {W : Wd} {vs : List V} {ds : List D} (r : Reps mg W vs ds) : ∀ n : Nat, Reps mg W (List.replicate n vs).flatten (List.replicate n ds).flatten
  | 0 => .nil
  | n + 1 => by
    rw [List.replicate_succ, List.replicate_succ, List.flatten_cons, List.flatten_cons]
    exact r.append (Reps.rep r n)
theorem ok_rep : OpOk Xs mg (binaryOp .Mult) rdRep := by
  refine ⟨_, fun j => op_rep, ?_⟩
  intro W H x y dx dy Q Q' hh rx ry h q
  unfold rdRep at h
  split at h
  · rename_i xs k
    cases rx with
    | lst ha ra =>
      cases ry
      exact ⟨_, k, _, rfl, rfl, hh.same _ _ ha, h.1.1, h.1.2, by rw [ra.length]; exact h.2.1, to_lst q hh (Reps.rep ra k.toNat) h.2.2⟩
  · exact h.elim
end
end FP
/-! FP74: lists of one's own: seen, read, written at an index, insert, pop; range with a step. -/
namespace FP
open PySem L2
variable [Tabl]
section
variable {mg : Gm} {B : Hp} {W W' : Wd} {H H' : Hp} {σ : St} {ρ : Env}
/-- the environment where one's own list is seen -/
theorem EnvR.seenL (e : EnvR mg B W H σ ρ) {i : Nat} {xs : List D} (hi : ρ[i]? = some (.own xs)) :
    ∃ a, (W.H a = none ∧ ¬ W.T a) ∧ EnvR mg B (W.seen H [a]) H σ (ρ.set i (.d (.lst xs))) := by
  obtain ⟨o, h1, a, vs, ho, h2, h3, h4, h5, r⟩ := e.sl i _ hi
  subst ho
  have l := seen_le (W := W) (H := H) (as := [a]) fun b hb => by rw [List.mem_singleton.mp hb]; exact h3
  refine ⟨a, ⟨h3, h4⟩, by simpa using e.len, fun j sl hj => ?_, fun j m s1 s2 o1 o2 b hjk q1 q2 q3 q4 m1 m2 => ?_⟩
  · rcases get_set hj with ⟨rfl, rfl⟩ | ⟨nj, hj⟩
    · exact ⟨_, h1, _, rfl, .lst (by rw [seen_in (List.mem_singleton.mpr rfl)]; exact h2) (r.mono l)⟩
    · obtain ⟨o', g1, g2⟩ := e.sl j sl hj
      refine ⟨o', g1, g2.keep l fun b hb u h5 h6 h7 => ⟨h5, ?_, h7⟩⟩
      show (if b ∈ [a] then H b else W.H b) = none
      have nb : b ∉ [a] := fun q => e.dis i j _ sl _ o' b nj hi hj h1 g1 (by rw [List.mem_singleton.mp q]; exact List.mem_singleton.mpr rfl) hb
      rw [if_neg nb]
      exact h6
  · rcases get_set q1 with ⟨_, z⟩ | ⟨n1, q1⟩
    · rw [← z] at m1
      cases m1
    · rcases get_set q2 with ⟨_, z⟩ | ⟨n2, q2⟩
      · rw [← z] at m2
        cases m2
      · exact e.dis j m s1 s2 o1 o2 b hjk q1 q2 q3 q4 m1 m2
end
section
variable {ι : Type} {Xs : ι → Cx} {mg : Gm} {Wx : WX} {pos : Pos}
/-! ### seen by an expression that comes to a plain datum -/
abbrev dViewTL (i : Nat) (f : DTT) : DTT := fun ρ Q _ => match ρ[i]? with
  | some (.own xs) => f (ρ.set i (.d (.lst xs))) Q F0
  | _ => False
theorem dt_viewL (i : Nat) {e : Expr} {f : DTT} (h : DT Xs mg Wx e f) : DT Xs mg Wx e (dViewTL i f) := by
  obtain ⟨t, h1, h2⟩ := h
  refine ⟨t, h1, fun B ρ Q E hf W σ H Q' hh e x q => ?_⟩
  unfold dViewTL at hf
  split at hf
  · rename_i xs hi
    obtain ⟨a, k, e1⟩ := e.seenL hi
    refine h2 B _ _ _ hf _ σ H _ (seen_holds hh fun b hb => by rw [List.mem_singleton.mp hb]; exact k.2) e1 ExR.f0 fun W1 H1 b s1 k1 => ?_
    exact q _ H1 b (seen_step s1 fun b hb => by rw [List.mem_singleton.mp hb]; exact k.1) k1
  · exact hf.elim
/-! ### an item, a slice of it -/
abbrev dOwnIx (i : Nat) (f : DTE) : DTE := fun ρ Q E => match ρ[i]? with
  | some (.own xs) => f ρ (fun y => match y with
    | .int k => ∃ d, atI xs k = some d ∧ Q d
    | _ => False) E
  | _ => False
theorem de_ownIx (i : Nat) {x : Str} {b : Expr} {f : DTE} {p : Pos} (h : DE Xs mg Wx b f) (hN : ∀ j, (Xs j).N[i]? = some x := by intro _; rfl) (hv : ∀ j, Vis (Xs j).env.scope x := by intro _; first | exact Or.inl rfl | exact Or.inr (Or.inl rfl) | exact Or.inr (Or.inr rfl))
    (hd : (x == ("__debug__" : Str)) = false := by decide) (hcd : (x == ("__classdict__" : Str)) = false := by decide) (hs : PlainIx b := by exact fun _ _ => rfl) (hK : ∀ j, (Xs j).K = mg.K := by intro _; rfl) : DE Xs mg Wx (.Subscript (.Name x p) b pos) (dOwnIx i f) := by
  obtain ⟨tb, b1, b2⟩ := h
  refine ⟨_, fun j => pe_ix (ix_seqK (hK j)) (pe_var (i := i) (hN j) (hv j) hd hcd) (b1 j) hs, fun B ρ Q E hf W σ H Q' hh e x q => ?_⟩
  unfold dOwnIx at hf
  split at hf
  · rename_i xs hx
    obtain ⟨o, g1, a, vs, g2, g3, g4, g5, g6, r⟩ := e.sl i _ hx
    subst g2
    refine ⟨.ref a, g1, b2 B ρ _ E hf W σ H _ hh e x fun W1 H1 v d s1 r1 k1 => ?_⟩
    cases r1 with
    | int k =>
      obtain ⟨d, h1, h2⟩ := k1
      obtain ⟨v, k1, k2⟩ := r.atI h1
      exact .inl ⟨_, _, _, v, rfl, rfl, SqL.of (s1.keep a _ g3 g5), k1, q W1 H1 _ _ s1 (k2.mono s1.le) h2⟩
    | _ => exact k1.elim
  · exact hf.elim
/-! ### written at an index -/
abbrev dOwnSet (i : Nat) (fk fe : DTE) : DTS := fun N ρ => fe ρ (fun d => match ρ[i]? with
  | some (.own xs) => fk ρ (fun y => match y with
    | .int k => ∃ j, ixN xs.length k = some j ∧ N.nx (ρ.set i (.own (xs.set j d)))
    | _ => False) (fun x => N.rs x ρ)
  | _ => False) (fun x => N.rs x ρ)
theorem ds_ownSet (i : Nat) {x : Str} {k e : Expr} {fk fe : DTE} {p spos : Pos} (hk : DE Xs mg Wx k fk) (he : DE Xs mg Wx e fe)
    (pe : ∀ j tk te, PE (Xs j) k tk → PE (Xs j) e te → PS (Xs j) (.Assign [.Subscript (.Name x p) k spos] e pos) (tAsg te (gSub (tVar i) tk L2.rSetL))) : DS Xs mg Wx (.Assign [.Subscript (.Name x p) k spos] e pos) (dOwnSet i fk fe) := by
  obtain ⟨tk, k1, k2⟩ := hk
  obtain ⟨te, e1, e2⟩ := he
  refine ⟨tAsg te (gSub (tVar i) tk L2.rSetL), fun j => pe j tk te (k1 j) (e1 j), fun W0 B N ρ hf W σ H Ds s e n => ?_⟩
  refine e2 B ρ _ _ hf W σ H _ s.holds e (n.ex s e) fun W1 H1 v d s1 r1 k1 => ?_
  have ee1 := e.step s1
  split at k1
  · rename_i xs hx
    obtain ⟨o, g1, a, vs, g2, g3, g4, g5, g6, r⟩ := ee1.sl i _ hx
    subst g2
    refine ⟨.ref a, g1, ?_⟩
    refine k2 B ρ _ _ k1 W1 σ H1 _ s1.holds ee1 (n.ex (s.trans s1) ee1) fun W2 H2 y z s2 r2 q2 => ?_
    have ee2 := ee1.step s2
    cases r2 with
    | int m =>
      obtain ⟨jj, h1, h2⟩ := q2
      obtain ⟨o', w1, a', vs', w2, w3, w4, w5, w6, r'⟩ := ee2.sl i _ hx
      rw [g1] at w1
      cases w1
      cases w2
      refine ⟨a, vs', m, jj, rfl, rfl, w3, by rw [r'.length]; exact h1, ?_⟩
      exact n.nx W2 _ σ _ (((s.trans s1).trans s2).own w6 w3 w4 w5) (ee2.own (us := vs') hx g1 (r'.set jj (r1.mono s2.le))) h2
    | _ => exact q2.elim
  · exact k1.elim
/-! ### insert, pop -/
end
end FP
/-! FP75: range with a step, xs[::-1], a comprehension as one's own, three names at once with an own one. -/
namespace FP
open PySem L2
end FP
/-! FP76: a slice of one's own list; small steps for own lists. -/
namespace FP
open PySem L2
variable [Tabl]
section
variable {ρ : Env} {f fk fe : DTE} {g : DTS} {N : Nd} {i j k : Nat} {xs : List D} {d : D}
theorem t_viewL {c : DTT} {b : Bool} (h : ρ[i]? = some (.own xs)) (hf : EvT c (ρ.set i (.d (.lst xs))) b) : EvT (dViewTL i c) ρ b := fun Q E q => by
  unfold dViewTL
  rw [h]
  exact hf _ _ q
theorem ev_ownIx {m : Int} (h : ρ[i]? = some (.own xs)) (hf : Ev f ρ (.int m)) (hd : atI xs m = some d) : Ev (dOwnIx i f) ρ d := fun Q E q => by
  unfold dOwnIx
  rw [h]
  exact hf _ _ ⟨d, hd, q⟩
end
end FP
/-! FP77: a tuple times an integer. -/
namespace FP
open PySem L2
end FP
/-! FP78: xs.count(text), xs a list of texts. -/
namespace FP
open PySem L2
end FP
/-! FP79: a < b of rows of data, sum of a list of integers, x is not False. -/
namespace FP
open PySem PySem.Spec PyProof.Rows L2
end FP
/-! FP80: repr of data with dicts in them. -/
namespace FP
open PySem PySem.Spec PyProof.Rows L2
variable [Tabl]
def kP : Key → PyData
  | .inl i => .int i
  | .inr x => .str x
mutual
/-- a value that reads as data without lists, with dicts -/
inductive Dq (H : Hp) : V → PyData → Prop
  | non : Dq H .non .none
  | bl (b : Bool) : Dq H (.bl b) (.bool b)
  | int (i : Int) : Dq H (.int i) (.int i)
  | str (x : Str) : Dq H (.str x) (.str x)
  | tup {a : Addr} {xs : List V} {ds : List PyData} : H a = some (.tup xs) → DqAll H xs ds → Dq H (.ref a) (.tuple ds)
  | dct {a : Addr} {o : Obj} {kvs : List (Key × V)} {ps : List (PyData × PyData)} : H a = some (.frz o (.dK kvs)) → ps.map (·.1) = kvs.map (fun p => kP p.1) → DqAll H (kvs.map (·.2)) (ps.map (·.2)) → Dq H (.ref a) (.dict ps)
inductive DqAll (H : Hp) : List V → List PyData → Prop
  | nil : DqAll H [] []
  | cons {v : V} {vs : List V} {d : PyData} {ds : List PyData} : Dq H v d → DqAll H vs ds → DqAll H (v :: vs) (d :: ds)
end
section
variable {X : Cx} {pins : List (Addr × Obj)} {σ : L2.St} {H : Hp} {s : Shared}
theorem keys_read {h : Heap} : ∀ {kvs : List (Key × V)} {vs : List (Key × Value)} {es : List DictEntry}, KV kvs vs → Pairs (mixKind X.prog X.w) es vs → ReadsAll h (es.map (·.key)) (kvs.map fun p => kP p.1) [] ∧ Vals (kvs.map (·.2)) (es.map (·.val))
  | [], _, _, r, p => by
    cases r
    cases p
    exact ⟨.nil, .nil⟩
  | kv :: kvs, _, _, r, p => by
    cases r with
    | cons r1 r2 =>
      cases p with
      | cons hk hv hp =>
        obtain ⟨i1, i2⟩ := keys_read (h := h) r2 hp
        obtain ⟨a1, a2⟩ := r1
        refine ⟨ReadsAll.cons (as := []) (bs := []) ?_ i1, .cons ?_ i2⟩
        · show Reads h (DictEntry.key _) (kP kv.1) []
          rw [a1]
          rcases keyIs_shape hk with ⟨i, t, e1, e2⟩ | ⟨x, t, e1, e2⟩
          · rw [e1, e2]
            exact .int i t
          · rw [e1, e2]
            exact .str x t
        · show RelV kv.2 (DictEntry.val _)
          rw [hv]
          exact a2
mutual
theorem Dq.reads (I : Inv X pins σ H s) : ∀ {v : V} {d : PyData} {u : Value}, Dq H v d → RelV v u → ∃ as, Reads s.heap u d as ∧ sysModules ∉ as
  | _, _, _, .non, r => by
    cases r
    exact ⟨[], .none, List.not_mem_nil⟩
  | _, _, _, .bl b, r => by
    cases r
    exact ⟨[], .bool b, List.not_mem_nil⟩
  | _, _, _, .int i, r => by
    obtain ⟨t, rfl⟩ := r
    exact ⟨[], .int i t, List.not_mem_nil⟩
  | _, _, _, .str x, r => by
    obtain ⟨t, rfl⟩ := r
    exact ⟨[], .str x t, List.not_mem_nil⟩
  | _, _, _, .tup ha hs, r => by
    cases r
    obtain ⟨z, its, rv, o, ho, hc, n, hd⟩ := I.hok _ _ ha
    obtain ⟨as, h1, h2⟩ := DqAll.reads I hs rv
    exact ⟨_, Reads.tuple ho hc hd h1, h2⟩
  | _, _, _, .dct ha hk hs, r => by
    cases r
    obtain ⟨_, hx⟩ := (show ObjOk X.prog X.w H s.heap _ (.frz _ (.dK _)) from I.hok _ _ ha)
    obtain ⟨_, hn, vs, kv, o', es, ep, h1, h2, h3, _, h5, _⟩ := hx
    obtain ⟨k1, k2⟩ := keys_read (h := s.heap) kv h5
    obtain ⟨as, g1, g2⟩ := DqAll.reads I hs k2
    rw [← hk] at k1
    refine ⟨_, Reads.dict h1 h2.1 h3 k1 g1, fun hb => ?_⟩
    rw [List.cons_append, List.nil_append] at hb
    rcases List.mem_cons.mp hb with e | hb
    · rw [← e] at hn
      simp at hn
    · exact g2 hb
theorem DqAll.reads (I : Inv X pins σ H s) : ∀ {vs : List V} {ds : List PyData} {us : List Value}, DqAll H vs ds → Vals vs us → ∃ as, ReadsAll s.heap us ds as ∧ sysModules ∉ as
  | _, _, _, .nil, r => by
    cases r
    exact ⟨[], .nil, List.not_mem_nil⟩
  | _, _, _, .cons h1 h2, r => by
    cases r with
    | cons r1 r2 =>
      obtain ⟨as, a1, a2⟩ := Dq.reads I h1 r1
      obtain ⟨bs, b1, b2⟩ := DqAll.reads I h2 r2
      exact ⟨_, .cons a1 b1, fun hb => (List.mem_append.mp hb).elim a2 b2⟩
end
/-- an element of a list that is shown: without dicts, or without lists -/
def Elem (K : PySem.W.Frag) (H : Hp) (v : V) (d : PyData) : Prop := (Dp K H v d ∧ d.hasDict = false) ∨ Dq H v d
inductive Elems (K : PySem.W.Frag) (H : Hp) : List V → List PyData → Prop
  | nil : Elems K H [] []
  | cons {v : V} {vs : List V} {d : PyData} {ds : List PyData} : Elem K H v d → Elems K H vs ds → Elems K H (v :: vs) (d :: ds)
theorem Elem.reads (I : Inv X pins σ H s) {v : V} {d : PyData} {u : Value} (h : Elem X.K H v d) (r : RelV v u) : ∃ as, Reads s.heap u d as ∧ (d.hasDict = true → sysModules ∉ as) := by
  rcases h with ⟨h1, h2⟩ | h
  · obtain ⟨as, q⟩ := Dp.reads I d v u h1 r
    exact ⟨as, q, fun z => by rw [h2] at z; cases z⟩
  · obtain ⟨as, q1, q2⟩ := Dq.reads I h r
    exact ⟨as, q1, fun _ => q2⟩
theorem Elems.reads (I : Inv X pins σ H s) : ∀ {vs : List V} {ds : List PyData} {us : List Value}, Elems X.K H vs ds → Vals vs us → ∃ as, ReadsAll s.heap us ds as
  | _, _, _, .nil, r => by
    cases r
    exact ⟨[], .nil⟩
  | _, _, _, .cons h1 h2, r => by
    cases r with
    | cons r1 r2 =>
      obtain ⟨as, a1, _⟩ := h1.reads I r1
      obtain ⟨bs, b1⟩ := Elems.reads I h2 r2
      exact ⟨_, .cons a1 b1⟩
theorem Elems.shown (I : Inv X pins σ H s) : ∀ {vs : List V} {ds : List PyData} {us : List Value}, Elems X.K H vs ds → Vals vs us → PyData.showableAll ds = true → (∀ t ∈ PyData.shownAll ds, t.length ≤ sizeLine) → ∃ bs, ReadAtMost s.heap (PyData.depthAll ds) bs ∧ ReprAllK X.prog X.w bs s.heap (PyData.depthAll ds) us (PyData.shownAll ds)
  | _, _, _, .nil, r, _, _ => by
    cases r
    exact ⟨[], fun b hb => absurd hb List.not_mem_nil, by rw [PyData.shownAll]; exact .nil⟩
  | _, _, _, .cons (d := d) (ds := ds) h1 h2, r, hs, hz => by
    cases r with
    | cons r1 r2 =>
      rw [PyData.showableAll, Bool.and_eq_true] at hs
      rw [PyData.shownAll] at hz
      obtain ⟨as, a1, a2⟩ := h1.reads I r1
      obtain ⟨b1, p1, k1⟩ := ReprK.of_reads (prog := X.prog) (w := X.w) a1 hs.1 a2 (hz _ List.mem_cons_self)
      obtain ⟨b2, p2, k2⟩ := Elems.shown I h2 r2 hs.2 fun t ht => hz t (List.mem_cons_of_mem _ ht)
      rw [PyData.depthAll, PyData.shownAll]
      have l1 : d.depth ≤ max d.depth (PyData.depthAll ds) := Nat.le_max_left _ _
      have l2 : PyData.depthAll ds ≤ max d.depth (PyData.depthAll ds) := Nat.le_max_right _ _
      refine ⟨b1 ++ b2, (p1.mono l1).append (p2.mono l2), .cons (ReprK.level_le (k1.more fun b hb => List.mem_append_left _ hb) l1) (ReprAllK.more_le (fun b hb => List.mem_append_right _ hb) l2 k2)⟩
def rReprQ (K : PySem.W.Frag) : List V → Hp → VK → Prop := fun xs H Q => ∃ a vs ds, xs = [.ref a] ∧ H a = some (.lst vs) ∧ Elems K H vs ds ∧ ds ≠ [] ∧ PyData.showableAll ds = true ∧ PyData.depthAll ds ≤ 50 ∧ (PyData.shown (.list ds)).length ≤ sizeLine ∧ Q (.str (PyData.shown (.list ds))) H
theorem call_reprQ {K : PySem.W.Frag} (hK : X.K = K) (hg : X.A.guards = some []) (hu : X.A.units + 64 < cLine) : CallR X (.builtin "repr") (rReprQ K) := by
  subst hK
  intro pins s σ H xs us Q I r h
  obtain ⟨a, vs, ds, rfl, ha, he, hne, hs, hdp, hl, q⟩ := h
  obtain ⟨u, rfl, rx⟩ := vals1 r
  cases rx
  obtain ⟨z, its, n, rv, e⟩ := I.hok _ _ ha
  obtain ⟨as, rd⟩ := he.reads I rv
  have hl2 : (listText (PyData.shownAll ds)).length ≤ sizeLine := by
    rw [PyData.shown] at hl
    exact hl
  obtain ⟨bs, p1, p2⟩ := he.shown I rv hs fun t ht => Nat.le_trans (listText_mem_le ht) hl2
  have r1 : Reads s.heap (.ref a) (.list ds) _ := Reads.list e rfl rfl rd
  have hna : a ∉ bs := not_mem_of_deeper r1 (by rw [PyData.depth]; omega) p1
  rw [PyData.shown] at q
  refine call_repr_slot (by omega) ⟨_, e, rfl⟩ PySem.F.slot_list_repr.toG ?_
  cases its with
  | nil =>
    cases rd
    exact absurd rfl hne
  | cons x l =>
    exact call_list_reprK e rfl rfl hna (by simpa using p2.length_eq) (fun i y hy => p2.item i y (by simpa using hy)) hg (fun b _ => Clear.nil b) (by show X.A.units + 1 + _ < cLine; omega) (fun _ _ q => q) (fun h' u tk kp => ⟨_, _, rfl, V.str (listText (PyData.shownAll ds)), H, I.kept kp, ⟨u, rfl⟩, q⟩) hl2
end
section
variable {ι : Type} {Xs : ι → Cx} {mg : Gm} {Wx : WX} {pos : Pos}
mutual
def toPq : D → Option PyData
  | .non => some .none
  | .bl b => some (.bool b)
  | .int i => some (.int i)
  | .str x => some (.str x)
  | .tup xs => match toPqs xs with
    | some ps => some (.tuple ps)
    | none => none
  | .lst _ => none
  | .dct kvs => match toPqKV kvs with
    | some ps => some (.dict ps)
    | none => none
  | .fz _ => none
  | .ins _ _ => none
  | .tok => none
  | .cl _ => none
  | .fn _ _ => none
def toPqs : List D → Option (List PyData)
  | [] => some []
  | x :: xs => match toPq x, toPqs xs with
    | some p, some ps => some (p :: ps)
    | _, _ => none
def toPqKV : List (Key × D) → Option (List (PyData × PyData))
  | [] => some []
  | (k, x) :: xs => match toPq x, toPqKV xs with
    | some p, some ps => some ((kP k, p) :: ps)
    | _, _ => none
end
theorem toPqKV_split : ∀ {kvs : List (Key × D)} {ps : List (PyData × PyData)}, toPqKV kvs = some ps → ps.map (·.1) = kvs.map (fun p => kP p.1) ∧ toPqs (kvs.map (·.2)) = some (ps.map (·.2))
  | [], ps, h => by
    rw [toPqKV] at h
    cases h
    exact ⟨rfl, by rw [List.map_nil, toPqs]; rfl⟩
  | (k, x) :: kvs, ps, h => by
    rw [toPqKV] at h
    cases q1 : toPq x with
    | none => rw [q1] at h; cases h
    | some p =>
      cases q2 : toPqKV kvs with
      | none => rw [q1, q2] at h; cases h
      | some qs =>
        rw [q1, q2] at h
        cases h
        obtain ⟨i1, i2⟩ := toPqKV_split q2
        refine ⟨by rw [List.map_cons, List.map_cons, i1], ?_⟩
        rw [List.map_cons, toPqs, q1, i2]
        rfl
mutual
theorem Rep.dq {W : Wd} {H : Hp} (hh : Holds W H) : ∀ {v : V} {d : D} {p : PyData}, Rep mg W v d → toPq d = some p → Dq H v p
  | _, _, _, .non, e => by
    rw [toPq] at e
    cases e
    exact .non
  | _, _, _, .bl b, e => by
    rw [toPq] at e
    cases e
    exact .bl b
  | _, _, _, .int i, e => by
    rw [toPq] at e
    cases e
    exact .int i
  | _, _, _, .str x, e => by
    rw [toPq] at e
    cases e
    exact .str x
  | _, _, _, .tup ha r, e => by
    rw [toPq] at e
    split at e
    · rename_i ps hp
      cases e
      exact .tup (hh.same _ _ ha) (Reps.dq hh r hp)
    · cases e
  | _, _, _, .lst _ _, e => by
    rw [toPq] at e
    cases e
  | _, _, _, .fz _ _, e => by
    rw [toPq] at e
    cases e
  | _, _, _, .dct ha hk r, e => by
    rw [toPq] at e
    split at e
    · rename_i ps hp
      cases e
      obtain ⟨h1, h2⟩ := toPqKV_split hp
      refine .dct (hh.same _ _ ha) ?_ (Reps.dq hh r h2)
      rw [h1]
      have e2 := congrArg (List.map kP) hk
      rw [List.map_map, List.map_map] at e2
      exact e2.symm
    · cases e
  | _, _, _, .ins _ _ _ _, e => by
    rw [toPq] at e
    cases e
  | _, _, _, .tok _, e => by
    rw [toPq] at e
    cases e
  | _, _, _, .cl _, e => by
    rw [toPq] at e
    cases e
  | _, _, _, .fn _, e => by
    rw [toPq] at e
    cases e
theorem Reps.dq {W : Wd} {H : Hp} (hh : Holds W H) : ∀ {vs : List V} {ds : List D} {ps : List PyData}, Reps mg W vs ds → toPqs ds = some ps → DqAll H vs ps
  | _, _, _, .nil, e => by
    rw [toPqs] at e
    cases e
    exact .nil
  | _, _, _, .cons (d := d) (ds := ds) r rs, e => by
    rw [toPqs] at e
    cases q1 : toPq d with
    | none => rw [q1] at e; cases e
    | some p =>
      cases q2 : toPqs ds with
      | none => rw [q1, q2] at e; cases e
      | some qs =>
        rw [q1, q2] at e
        cases e
        exact .cons (Rep.dq hh r q1) (Reps.dq hh rs q2)
end
def elP (d : D) : Option PyData := match toPy d with
  | some p => if p.hasDict = true then none else some p
  | none => toPq d
def elPs : List D → Option (List PyData)
  | [] => some []
  | x :: xs => match elP x, elPs xs with
    | some p, some ps => some (p :: ps)
    | _, _ => none
theorem Rep.el {W : Wd} {H : Hp} (hh : Holds W H) {v : V} {d : D} {p : PyData} (r : Rep mg W v d) (h : elP d = some p) : Elem mg.K H v p := by
  unfold elP at h
  cases q : toPy d with
  | some p2 =>
    rw [q] at h
    dsimp only at h
    split at h
    · cases h
    · rename_i hd
      cases h
      refine .inl ⟨r.dp hh q, ?_⟩
      cases z : p.hasDict with
      | true => exact absurd z hd
      | false => rfl
  | none =>
    rw [q] at h
    exact .inr (r.dq hh h)
theorem Reps.el {W : Wd} {H : Hp} (hh : Holds W H) : ∀ {ds : List D} {vs : List V} {ps : List PyData}, Reps mg W vs ds → elPs ds = some ps → Elems mg.K H vs ps
  | [], _, _, .nil, e => by
    rw [elPs] at e
    cases e
    exact .nil
  | d :: ds, _, _, .cons r rs, e => by
    rw [elPs] at e
    cases q1 : elP d with
    | none => rw [q1] at e; cases e
    | some p =>
      cases q2 : elPs ds with
      | none => rw [q1, q2] at e; cases e
      | some qs =>
        rw [q1, q2] at e
        cases e
        exact .cons (r.el hh q1) (Reps.el hh rs q2)
/-- repr of a list with dicts among its elements -/
def rdReprQ : RDL := fun ds Q => match ds with
  | [.lst xs] => ∃ ps, elPs xs = some ps ∧ ps ≠ [] ∧ PyData.showableAll ps = true ∧ PyData.depthAll ps ≤ 50 ∧ (PyData.shown (.list ps)).length ≤ sizeLine ∧ Q (.str (PyData.shown (.list ps)))
  | _ => False
theorem ok_reprQ (hg : ∀ j, (Xs j).A.guards = some []) (hu : ∀ j, (Xs j).A.units + 64 < cLine) (hK : ∀ j, (Xs j).K = mg.K := by intro _; rfl) : CallOk Xs mg (.builtin "repr") rdReprQ := by
  refine ⟨_, fun j => call_reprQ (hK j) (hg j) (hu j), ?_⟩
  intro W H vs ds Q Q' hh r h q
  unfold rdReprQ at h
  split at h
  · cases r with
    | cons r rs =>
      cases rs
      obtain ⟨ps, h1, h2, h3, h4, h5, h6⟩ := h
      cases r with
      | lst ha rr => exact ⟨_, _, ps, rfl, hh.same _ _ ha, rr.el hh h1, h2, h3, h4, h5, q W H _ _ (Step.refl hh) (.str _) h6⟩
  · exact h.elim
end
end FP
/-! FP81: [*d, ..], d a dict. -/
namespace FP
open PySem PySem.Spec PyProof.Rows L2
end FP
/-! FP82: t[::-1] of a tuple, x.isdigit(), int(text), own.extend(list). -/
namespace FP
open PySem PySem.Spec PyProof.Rows L2
/-! ### a tuple turned round -/
end FP
/-! FP83: None in a list of data; isinstance of objects of other own classes. -/
namespace FP
open PySem PySem.Spec PyProof.Rows L2
end FP
/-! FP84: x, y = e, list(..), where y may change. -/
namespace FP
open PySem L2
end FP
/-! FP85: expressions that change what is mine, in assignments and comparisons; methods without arguments. -/
namespace FP
open PySem L2
end FP
/-! FP86: x.f.pop() of an owned list of data, and operators with a changing left side. -/
namespace FP
open PySem L2
end FP
/-! FP87: s.partition(t). -/
namespace FP
open PySem L2
end FP
/-! FP88: x.f[k], an item of an owned list of data in a field. -/
namespace FP
open PySem L2
end FP
/-! FP89: own errors with one field whose built-in base is KeyError (made by what LookupError has). -/
namespace PySem
namespace KeyX
open PySem.W PySem.Calls PyProof.Rows PySem.HandSPX PySem.XcM Builtin Builtin.ObjectAttr
/-- what is asked of the classes behind an own one -/
structure Tail3 (tl : List Value) (B : String) : Prop where
  b : tl.contains (.type B) = true
  a : tl.contains (.type "AttributeError") = false
  n : tl.contains (.type "NameError") = false
section
variable {Mo : Model} {Ar : Around} {En : Value → Shared → Prop} {hp : Heap} {gs : Array GenState} {dr : Drawn} {tk : Nat} {os : OsState}
variable {nm qn : Str} {C N : Addr} {bs tl b0 : List Value} {hd : Bool} {sn : List Str} {sub : List Value} {ab : Bool} {col : Option Bool} {dx : Option Addr} {k0 k1 k2 k3 k5 : Option Value} {B newId initId : String}
theorem kx_check (F : ExcBaseFacts B newId initId b0) (T3 : Tail3 tl B) {more : List Value} {Qu : Unit → Shared → Prop} (oC : hp.get? C = some (excClassObj nm qn C N bs tl hd sn sub ab col dx k0 k1 k2 k3 k5 newId)) (q : Qu () ⟨hp, gs, dr, tk, os⟩) :
    wpAny Mo Ar (checkBuiltinCall newId ⟨.ref C :: more, []⟩) Qu En ⟨hp, gs, dr, tk, os⟩ := by
  have cb : (Value.ref C :: tl).contains (.type B) = true := by rw [List.contains_cons, T3.b, Bool.or_true]
  have st := F.noStar
  simp only [checkBuiltinCall, F.newKind, F.newRow, F.newSplit]
  repeat (first | refine wpAny_loadPart_at oC ?_ | (refine wpAny_isSubtype_exc oC ?_; rw [cb]) | refine wpAny_staticBase_exc oC ?_ | refine wpAny_madeBy_exc oC ?_ | simp only [bne_self_eq_false, Bool.false_eq_true, if_false] | wp_step)
  exact q
end
section
variable {pr : Program} {w : World} {Ar : Around} {En : Value → Shared → Prop} {Re : Result → Shared → Prop} {hp : Heap} {gs : Array GenState} {dr : Drawn} {tk : Nat} {os : OsState}
variable {nm qn : Str} {C N : Addr} {bs tl b0 : List Value} {hd : Bool} {sn : List Str} {sub : List Value} {ab : Bool} {col : Option Bool} {dx : Option Addr} {k0 k1 k2 k3 k5 : Option Value} {B newId initId : String}
theorem kx_new (F : ExcBaseFacts B newId initId b0) (T3 : Tail3 tl B) {more : List Value} (oC : hp.get? C = some (excClassObj nm qn C N bs tl hd sn sub ab col dx k0 k1 k2 k3 k5 newId))
    (q : Re (.ok (.ret (.ref (hp.objs.size + 1)))) ⟨(hp.push (kdv_tup more)).push (excO C hp.objs.size), gs, dr, tk, os⟩) (hm : more.length ≤ sizeLine) : codeAny (model pr w) Ar (.builtin newId ⟨.ref C :: more, []⟩) Re ⟨hp, gs, dr, tk, os⟩ := by
  have en := F.ends
  have cb : (Value.ref C :: tl).contains (.type B) = true := by rw [List.contains_cons, T3.b, Bool.or_true]
  have ca : (Value.ref C :: tl).contains (.type "AttributeError") = false := by rw [List.contains_cons, T3.a]; rfl
  have cn : (Value.ref C :: tl).contains (.type "NameError") = false := by rw [List.contains_cons, T3.n]; rfl
  refine codeAny_builtinAt F.entry ?_; unfold Builtin.«BaseException.__new__»; refine wpAt_bind ?_
  show wpAt _ _ _ (stack >>= _) _ _ _; refine wpAt_bind (wpAt_stack fun p below => wpAt_of_wpAny ?_)
  wp_walk
  refine wpAt_of_wpAny ?_; rw [F.owner]
  repeat (first | with_reducible refine wpAny_madeHere_exc F.canon oC ?_ | with_reducible refine wpAny_loadPart_at oC ?_ | (with_reducible refine wpAny_isSubtype_exc oC ?_; first | rw [cb] | rw [ca] | rw [cn]) | wp_step)
  show Re _ _; rw [Heap.size_push]
  exact q
theorem kx_type (F : ExcBaseFacts B newId initId b0) (T3 : Tail3 tl B) {more : List Value} {fI : Addr} {Qf : Fin → Shared → Prop} (oC : hp.get? C = some (excClassObj nm qn C N bs tl hd sn sub ab col dx k0 k1 k2 k3 k5 newId))
    (li : W.Looks (model pr w) hp (typeLookup (.ref C) "__init__") (some (.ref fI))) (lb : ∀ x, W.Looks (model pr w) hp (bindSpecial (.ref fI) x) (.ref fI, [x])) (hm : more.length ≤ sizeLine)
    (q : codeAny (model pr w) Ar (.call (.ref fI) ⟨.ref (hp.objs.size + 1) :: more, []⟩) (fun r s' => match r with | .ok (.ret v) => v = .none ∧ Qf (.done (.ret (.ref (hp.objs.size + 1)))) s' | .ok _ => False | .error e => En e s') ⟨(hp.push (kdv_tup more)).push (excO C hp.objs.size), gs, dr, tk, os⟩) :
    wpAny (model pr w) Ar (Builtin.«type.__call__» ⟨.ref C :: more, []⟩) Qf En ⟨hp, gs, dr, tk, os⟩ := by
  repeat (first | with_reducible refine wpAny_loadPart_at oC ?_ | with_reducible refine wpAny_madeBy_exc oC ?_ | wp_step)
  refine codeAny_call_builtin_code (Code.quiet_builtin _ F.quiet) (kx_check F T3 oC (kx_new F T3 oC ?_ hm))
  show wpAny _ _ _ _ _ _
  have up : ∀ b o, hp.get? b = some o → ((hp.push (kdv_tup more)).push (excO C hp.objs.size)).get? b = some o := fun b o e => Heap.get?_push_of_some _ (Heap.get?_push_of_some _ e)
  have o1 := up _ _ oC
  have ox : ((hp.push (kdv_tup more)).push (excO C hp.objs.size)).get? (hp.objs.size + 1) = some (excO C hp.objs.size) := by heap_get
  have cc : (Value.ref C :: tl).contains (.ref C) = true := by simp
  have l1 := li.keeps up
  have l2 := (lb (.ref (hp.objs.size + 1))).keeps up
  unfold isInstance
  repeat (first | with_reducible refine wpAny_loadPart_at ox ?_ | (with_reducible refine wpAny_isSubtype_exc o1 ?_; rw [cc]) | wp_step)
  show wpAny _ _ (typeLookup (.ref C) _) _ _ _
  refine l1.at (wpAny_holding (wpAny_bind (l2.at (wpAny_bind (wpAny_call (codeAny_mono q fun r s' z => ?_))))))
  rcases r with e | (v | _ | _ | _) <;> first | exact z | exact z.elim | skip
  obtain ⟨rfl, z⟩ := z
  first | exact wpAny_pure (wpAny_pure z) | (wp_walk; exact z)
theorem kx_call (F : ExcBaseFacts B newId initId b0) (T3 : Tail3 tl B) {more : List Value} {fI : Addr} (oC : hp.get? C = some (excClassObj nm qn C N bs tl hd sn sub ab col dx k0 k1 k2 k3 k5 newId))
    (li : W.Looks (model pr w) hp (typeLookup (.ref C) "__init__") (some (.ref fI))) (lb : ∀ x, W.Looks (model pr w) hp (bindSpecial (.ref fI) x) (.ref fI, [x])) (hm : more.length ≤ sizeLine)
    (q : codeAny (model pr w) (Ar.under (.builtin "type.__call__" ⟨.ref C :: more, []⟩)) (.call (.ref fI) ⟨.ref (hp.objs.size + 1) :: more, []⟩) (W.InitBack (hp.objs.size + 1) Re) ⟨(hp.push (kdv_tup more)).push (excO C hp.objs.size), gs, dr, tk, os⟩) :
    codeAny (model pr w) Ar (.call (.ref C) ⟨more, []⟩) Re ⟨hp, gs, dr, tk, os⟩ := by
  have g1 := tc_lookup
  have g2 := tc_bind (.ref C)
  have ty : (⟨hp, gs, dr, tk, os⟩ : Shared).TypeIs (.ref C) "type" := ⟨_, oC, rfl⟩
  refine codeAny_of_tree ?_; show wpAny _ _ (callAny (.ref C) _) _ _ _
  repeat (any_goals (first | assumption | with_reducible refine wpAny_loadPart_at oC ?_ | wp_step))
  refine ⟨rfl, codeAny_call_builtin_at (Code.quiet_builtin _ (by decide +kernel)) entry_typeCall (wpAny_check_type_call_sub oC (kx_type F T3 oC li lb hm (codeAny_mono q fun r s' z => ?_)))⟩
  rcases r with e | (v | _ | _ | _) <;> exact z
end
end KeyX
end PySem
/-! FP90: raise X(e) of an own error over KeyError. -/
namespace PySem
namespace KeyX
open PySem.W PySem.Calls PyProof.Rows PySem.HandSPX PySem.XcM Builtin Builtin.ObjectAttr
abbrev keBm : List Value := [.type "KeyError", .type "LookupError", .type "Exception", .type "BaseException", .type "object"]
theorem keS : StoreFacts "KeyError" keBm "object.__setattr__" "object" :=
  ⟨by kernel_rfl, .of (owner := "object") (n := "__setattr__") (by rw [typeLookup_type, builtinLookup_eq_fast]; kernel_rfl) (by decide +kernel) (by decide +kernel) (by decide +kernel) (by first | exact .inl (by decide +kernel) | exact .inr (by decide +kernel)) (by rw [isSubtype_type]; kernel_rfl), PySem.F.entry_object_sa, by decide +kernel, by decide +kernel, by decide +kernel, fun a b c => by unfold argsOk; kernel_rfl, fun self => by kernel_rfl⟩
theorem ke3 : Tail3 keBm "LookupError" := ⟨by decide +kernel, by decide +kernel, by decide +kernel⟩
section
variable {prog : Program} {w : World} {A : Around} {R : Result → Shared → Prop} {K : Frag} {C fI : Addr} {f : Str} {B B2 newId initId : String} {bmB b0 : List Value}
theorem made_runK {s : Shared} (FB : ExcBaseFacts B newId initId b0) (T3 : Tail3 bmB B) (SF : StoreFacts B2 bmB "object.__setattr__" "object") (T : XcT K C fI f bmB newId) {v : Value} (X : K.In s.heap) (hlim : s.heap.NoLimit) (hroom : A.depth + 1 < recursionLimit)
    (hq : ∀ h' tk e d, XMade s.heap h' e C d f v → R (.ok (.ret (.ref e))) { s with heap := h', toks := tk }) : codeAny (model prog w) A (.call (.ref C) ⟨[v], []⟩) R s := by
  obtain ⟨nm, N, qn, bs, bm, hdct, sn, sub, ab, col, dd, k0, k1, k2, k3, k5, hC, hT⟩ := excInit_of X T.ei
  obtain ⟨oI, hoI, hcI⟩ : ∃ oI, s.heap.get? fI = some oI ∧ oI.cls = .type "function" := by
    obtain ⟨o, z1, z2⟩ := Option.map_eq_some_iff.mp (show (K.lookup fI).map (·.cls) = some (.type "function") from beq_iff_eq.mp T.iF)
    exact ⟨o, X _ _ z1, z2⟩
  have hfind : Looks (model prog w) s.heap (typeLookup (.ref C) "__init__") (some (.ref fI)) := looks_findIn X T.iC
  have T3' : Tail3 bm B := ⟨by rw [hT]; exact T3.b, by rw [hT]; exact T3.a, by rw [hT]; exact T3.n⟩
  obtain ⟨hp, g, dr, tk, os⟩ := s
  have up : ∀ b o, hp.get? b = some o → ((hp.push (kdv_tup [v])).push (excO C hp.objs.size)).get? b = some o := fun b o e => Heap.get?_push_of_some _ (Heap.get?_push_of_some _ e)
  have new : ((hp.push (kdv_tup [v])).push (excO C hp.objs.size)).get? (hp.objs.size + 1) = some (excO C hp.objs.size) := by heap_get
  refine kx_call FB T3' hC hfind (fun self => exc_bind hoI hcI self) (by rw [sizeLine_eq]; exact (by decide : 1 ≤ 16777216)) ?_
  refine init_run (s := ⟨(hp.push (kdv_tup [v])).push (excO C hp.objs.size), g, dr, tk, os⟩) SF T (X.keeps up) (hlim.keeps up) new hroom fun h' tk' dx k' hx dn dne hns => ⟨rfl, hq h' tk' (hp.objs.size + 1) dx ⟨fun b o e => ?_, Nat.le_succ _, ⟨_, _, hx, rfl, rfl, rfl, rfl⟩, ?_, dne, hns⟩⟩
  · exact k' b o (Nat.ne_of_lt (Nat.lt_succ_of_lt (Heap.lt_size e))) (up b o e)
  · have q : ((hp.push (kdv_tup [v])).push (excO C hp.objs.size)).objs.size ≤ dx := dn
    rw [Heap.size_push, Heap.size_push] at q
    exact Nat.le_trans (Nat.le_add_right hp.objs.size 2) q
end
end KeyX
end PySem
namespace FP
open PySem L2
variable [Tabl]
abbrev keBm : List Value := PySem.KeyX.keBm
end FP
/-! FP91: what built-in types do on the right of |, & and -. -/
namespace FP
open PySem L2
end FP
/-! FP92: own errors as values: made, held in lists, asked for their class, written as texts, their fields read. -/
namespace L2
open PySem PySem.Spec PyProof.Rows
variable [FP.Tabl]
/-- an exception object at a: its class, its dict, its arguments -/
def ExV (cls : Value) (dd t0 : Option Addr) (a : Addr) : HO := .ext fun h => ∃ (oe : Obj) (vs : Array Value), h.get? a = some oe ∧ Zc cls dd oe ∧ oe.data = .fields vs ∧ ∀ t, t0 = some t → vs[0]? = some (.ref t)
theorem exV_ok {P : Program} {w : World} {H : Hp} {h : Heap} {a : Addr} {cls : Value} {dd t0 : Option Addr} {oe : Obj} {vs : Array Value} (e : h.get? a = some oe) (z : Zc cls dd oe) (d : oe.data = .fields vs) (h0 : ∀ t, t0 = some t → vs[0]? = some (.ref t)) : ObjOk P w H h a (ExV cls dd t0 a) :=
  ⟨⟨oe, vs, e, z, d, h0⟩, ⟨oe, e⟩, fun _ _ ⟨o, v, q, r⟩ k => ⟨o, v, k o q, r⟩⟩
/-- what an own error's class says of its instances -/
structure ExK (K : PySem.W.Frag) (C : Addr) : Prop where
  cl : (PySem.W.clsIn K C).isSome = true
  ga : PySem.W.findIn K (.ref C) "__getattribute__" = some (some (.builtin "BaseException.__getattribute__"))
  gg : PySem.W.findIn K (.ref C) "__getattr__" = some none
  sb : PySem.W.subIn K (.ref C) (.type "BaseException") = some true
  ca : PySem.W.findIn K (.ref C) "__class__" = some (some (.builtin "object.__class__"))
  cg : PySem.W.specialIn K (.builtin "object.__class__") "__get__" = some (some (.builtin "getset_descriptor.__get__"))
  tk : PySem.W.takesIn K (.builtin "object.__class__") = some true
  mo : PySem.W.mroIn K C (.type "object") = some true
/-- an exception's dict -/
def DdOk (H : Hp) (dd : Option Addr) : Prop := dd = none ∨ ∃ p fs, dd = some p ∧ H p = some (.xd fs)
section
variable {X : Cx} {pins : List (Addr × Obj)} {σ : St} {H : Hp} {s : Shared} {C a : Addr} {dd t0 : Option Addr}
theorem exInst (I : Inv X pins σ H s) (ha : H a = some (ExV (.ref C) dd t0 a)) (hd : DdOk H dd) : ∃ ox od, PySem.W.InstAt s.heap a ox C od := by
  obtain ⟨⟨oe, vs, h1, hz, h2, _⟩, _, _⟩ := (show ObjOk X.prog X.w H s.heap a (ExV (.ref C) dd t0 a) from I.hok a _ ha)
  have hn : PySem.W.notCls oe = true := by unfold PySem.W.notCls; rw [h2] <;> rfl
  rcases hd with rfl | ⟨p, fs, rfl, hp⟩
  · exact ⟨oe, none, h1, hz.1, hn, by rw [hz.2]; trivial⟩
  · obtain ⟨mA, hns, _⟩ := (show ObjOk X.prog X.w H s.heap p (.xd fs) from I.hok p _ hp)
    obtain ⟨od, ho, _⟩ := lookIn_ns hns
    exact ⟨oe, some od, h1, hz.1, hn, by rw [hz.2]; exact ho⟩
/-- isinstance(e, c) -/
def rIsV (K : PySem.W.Frag) : List V → Hp → VK → Prop := fun xs H Q => ∃ (a C : Addr) (dd t0 : Option Addr) (c : V) (cv : Value) (b : Bool), xs = [.ref a, c] ∧ H a = some (ExV (.ref C) dd t0 a) ∧ DdOk H dd ∧ ExK K C ∧ ClsV c cv ∧ PySem.W.kitOne K (.ref C) cv = some b ∧ Q (.bl b) H
theorem call_isV : CallR X (.builtin "isinstance") (rIsV X.K) := by
  intro pins s σ H xs us Q I r h
  obtain ⟨a, C, dd, t0, c, cv, b, rfl, ha, hd, k, kc, e, q⟩ := h
  obtain ⟨u1, u2, rfl, r1, r2⟩ := vals2 r
  have e2 := kc.eq r2
  subst e2
  cases (show u1 = Value.ref a from r1)
  obtain ⟨ox, od, J⟩ := exInst I ha hd
  exact PySem.W.kia_one (PySem.W.kitx_exc k.cl k.ga k.gg k.sb k.ca k.cg k.tk k.mo) I.kIn J e (fun z => nomatch z) fun tk => ⟨.bl b, H, I.tok tk, rfl, q⟩
/-- str(e), e made of one text -/
def rStrV (K : PySem.W.Frag) : List V → Hp → VK → Prop := fun xs H Q => ∃ (a C t : Addr) (dd : Option Addr) (m : Str), xs = [.ref a] ∧ H a = some (ExV (.ref C) dd (some t) a) ∧ H t = some (.tup [.str m]) ∧
  PySem.W.findIn K (.ref C) "__str__" = some (some (.builtin "BaseException.__str__")) ∧ PySem.W.subIn K (.ref C) (.type "BaseException") = some true ∧ Q (.str m) H
theorem call_strV (hu : X.A.units + 2 < cLine) : CallR X (.type "str") (rStrV X.K) := by
  intro pins s σ H xs us Q I r h
  obtain ⟨a, C, t, dd, m, rfl, ha, ht, hs, hb, q⟩ := h
  obtain ⟨u, rfl, ru⟩ := vals1 r
  cases (show u = Value.ref a from ru)
  obtain ⟨⟨oe, vs, h1, hz, h2, h0⟩, _, _⟩ := (show ObjOk X.prog X.w H s.heap a (ExV (.ref C) dd (some t) a) from I.hok a _ ha)
  obtain ⟨_, its, rv, o, g1, g2, n, g3⟩ := (show ObjOk X.prog X.w H s.heap t (.tup [.str m]) from I.hok t _ ht)
  obtain ⟨w, rfl, rw⟩ := vals1 rv
  obtain ⟨tk, rfl⟩ := (show ∃ tk, w = Value.str m tk from rw)
  exact PySem.P.str_of_C_one hu ⟨I.kIn, oe, vs, h1, hz.1, h2, h0 t rfl⟩ ⟨o, n, g1, g2, g3⟩ hs hb ⟨.str m, H, I, ⟨tk, rfl⟩, q⟩
/-- e.f -/
def tXfV (C : Addr) (f : Str) (te : TE) : TE := fun σ H Q => te σ H fun x H1 => ∃ (a p : Addr) (t0 : Option Addr) (fs : List (Str × V)) (v : V), x = .ref a ∧ H1 a = some (ExV (.ref C) (some p) t0 a) ∧ H1 p = some (.xd fs) ∧ fs.lookup f = some v ∧ Q v H1
theorem pe_xfV {e : Expr} {te : TE} {pos : Pos} {n : Str} (T : XfC X.K C) (hno : PySem.W.findIn X.K (.ref C) n = some none) (he : PE X e te) (hb : attributeBase e n X.env (eval e X.env) = eval e X.env := by rfl) :
    PE X (.Attribute e n pos) (tXfV C n te) := by
  refine ⟨fun pins s σ H Q I h => ?_⟩
  refine attr_of hb (thn (he.run pins s σ H _ I h) fun u s1 hh => ?_)
  obtain ⟨x, H1, I1, rx, a, p, t0, fs, v, ex, ea, ed, l, q⟩ := hh
  subst ex
  obtain rfl : u = Value.ref a := rx
  obtain ⟨⟨oe, vs, h1, hz, h2, _⟩, _, _⟩ := (show ObjOk X.prog X.w H1 s1.heap a (ExV (.ref C) (some p) t0 a) from I1.hok a _ ea)
  obtain ⟨mA, hns, hr⟩ := (show ObjOk X.prog X.w H1 s1.heap p (.xd fs) from I1.hok p _ ed)
  obtain ⟨od, ho, hl⟩ := lookIn_ns hns
  obtain ⟨u, hu, ru⟩ := RelO.some_of (v := v) (o := mA n) (by rw [← l]; exact hr n)
  have J : PySem.W.InstAt s1.heap a oe C (some od) := ⟨h1, hz.1, by unfold PySem.W.notCls; rw [h2] <;> rfl, by rw [hz.2]; exact ho⟩
  exact HandSPX.exc_get I1.kIn J T.ga T.gg T.exC (PySem.W.findObj_own T.hdC hno rfl (by rw [hl, hu])) (handed_of ru) ⟨v, H1, I1.tok _, ru, q⟩
/-- X(e), a class without own __init__ -/
theorem pe_exT {bmB : List Value} {B newId initId : String} {x : Str} {e : Expr} {ta : TE} {p pos : Pos} (F : ExcBaseFacts B newId initId bmB) (q : PySem.W.excIn X.K C bmB newId = true) (gC : X.mg x = some (.ref C)) (kC : PySem.W.keepIn X.K (.ref C) = true) (hg : Gl X x)
    (he : PE X e ta) (hs : starEach [e] X.env = (false, eval e X.env) :: starEach [] X.env := by rfl) (hdb : (x == ("__debug__" : Str)) = false := by decide) :
    PE X (.Call (.Name x p) [e] [] pos) (fun σ H Q => ta σ H fun v H1 => ∀ t a, H1 t = none → H1 a = none → a ≠ t → Q (.ref a) (upd (upd H1 t (.tup [v])) a (ExV (.ref C) none (some t) a))) := by
  refine ⟨fun pins s σ H Q I h => ?_⟩
  refine wpAny_Call_Name_kw (ld_glob I hg gC ?_ hdb)
  refine PySem.W.callWith_K (h₀ := X.base) I.ok.mod.kin kC ?_ hs (by rfl)
  rw [hs]
  show wpAny _ _ (spliced ((false, eval e X.env) :: backTo pos (starEach [] X.env))) _ _ s
  refine Calls.spliced_cons (thn (he.run pins s σ H _ I h) fun u s1 ⟨v, H1, I1, r1, q1⟩ => ?_)
  refine Calls.spliced_nil ⟨I1.kIn, ?_⟩
  show wpAny _ _ (call (.ref C) [u]) _ _ _
  obtain ⟨bm, N, nm, qn, bs, hdct, sn, sub, ab, col, dd, k0, k1, k2, k3, k5, mN, hC, hN, hni, T⟩ := exc_obj I1.kIn q
  refine wpAny_call_exc_subT F T hC hN hni (fun h' a hm => ?_) (by show 1 ≤ sizeLine; rw [sizeLine_eq]; omega)
  have hn : H1 a = none := I1.hok.gone hm.new
  obtain ⟨t, ht, htn, htt⟩ := hm.there
  have htH : H1 t = none := I1.hok.gone htn
  have ne : t ≠ a := fun z => by
    rw [z] at htt
    have e1 := ht.symm.trans htt
    cases e1
  obtain ⟨G, g1, g2⟩ := restrict h' fun b => decide (b ≠ a)
  have gk : ∀ b, b ≠ a → G.get? b = h'.get? b := fun b hb => g1 b (decide_eq_true hb)
  have ga : G.get? a = none := g2 a (by simp)
  have kG : ∀ b o, s1.heap.get? b = some o → G.get? b = some o := fun b o z => by
    have hb : b ≠ a := fun y => by rw [y, hm.new] at z; cases z
    rw [gk b hb]
    exact hm.keeps b o z
  have ob : ObjOk X.prog X.w (upd H1 t (.tup [v])) G t (.tup [v]) := ⟨by rw [sizeLine_eq]; show 1 ≤ _; omega, [u], .cons r1 .nil, ⟨_, (gk t ne).trans htt, rfl, 0, rfl⟩⟩
  have J : Inv X pins σ (upd H1 t (.tup [v])) ⟨G, s1.gens, s1.drawn, s1.toks, s1.os⟩ := I1.laidN (t' := s1.toks) kG htn htH ob
  have ha2 : (upd H1 t (.tup [v])) a = none := by rw [upd_ne (Ne.symm ne)]; exact hn
  exact ⟨.ref a, _, J.laidN (t' := s1.toks) (fun b o z => by
    have hb : b ≠ a := fun y => by rw [y, ga] at z; cases z
    rw [← gk b hb]
    exact z) ga ha2 (exV_ok ht ⟨rfl, rfl⟩ rfl fun t' e => by cases e; rfl), rfl, q1 t a htH hn (Ne.symm ne)⟩
/-- what is left when an error with a field has been made -/
theorem made_inv {h' : Heap} {tk : Nat} {e d : Addr} {f : Str} {u : Value} {v : V} (I : Inv X pins σ H s) (rv : RelV v u) (M : PySem.XcM.XMade s.heap h' e C d f u) : H d = none ∧ H e = none ∧ e ≠ d ∧
    Inv X pins σ (upd (upd H d (.xd [(f, v)])) e (ExV (.ref C) (some d) none e)) ⟨h', s.gens, s.drawn, tk, s.os⟩ := by
  obtain ⟨oe, fv, hoe, hc, hd, hdat, h1⟩ := M.ob
  obtain ⟨G, g1, g2⟩ := restrict h' fun b => decide (b ≠ e)
  have gk : ∀ b, b ≠ e → G.get? b = h'.get? b := fun b hb => g1 b (decide_eq_true hb)
  have ge : G.get? e = none := g2 e (by simp)
  have ob : ObjOk X.prog X.w (upd H d (.xd [(f, v)])) G d (.xd [(f, v)]) := ⟨_, M.ns.at (fun o q => (gk d M.ne).trans q), fun y => FP.relO_one rv y⟩
  have J : Inv X pins σ (upd H d (.xd [(f, v)])) ⟨G, s.gens, s.drawn, tk, s.os⟩ :=
    I.laid (t' := tk) (fun b o q => (gk b (Nat.ne_of_lt (Nat.lt_of_lt_of_le (Heap.lt_size q) M.ge))).trans (M.up b o q)) M.gd ob
  have hdn : H d = none := I.hok.fresh M.gd
  have hen : H e = none := I.hok.fresh M.ge
  have he2 : (upd H d (.xd [(f, v)])) e = none := by rw [upd_ne (Ne.symm M.ne)]; exact hen
  exact ⟨hdn, hen, Ne.symm M.ne, J.laidN (t' := tk) (fun b o z => by
    have hb : b ≠ e := fun y => by rw [y, ge] at z; cases z
    rw [← gk b hb]
    exact z) ge he2 (exV_ok hoe ⟨hc, hd⟩ hdat fun t' e => by cases e)⟩
end
section
variable {X : Cx} {C fI : Addr} {f : Str} {B B2 newId initId : String} {bmB b0 : List Value}
abbrev tExF (C : Addr) (f : Str) (ta : TE) : TE := fun σ H Q => ta σ H fun v H1 => ∀ d e, H1 d = none → H1 e = none → e ≠ d → Q (.ref e) (upd (upd H1 d (.xd [(f, v)])) e (ExV (.ref C) (some d) none e))
/-- X(e), a class with an __init__ that keeps its argument -/
theorem pe_exF {a : Expr} {x : Str} {ta : TE} {p pos : Pos} {k : Nat} (FB : ExcBaseFacts B newId initId bmB) (SF : StoreFacts B bmB "object.__setattr__" "object") (T : PySem.XcM.XcT X.K C fI f bmB newId) (gC : X.mg x = some (.ref C)) (kC : PySem.W.keepIn X.K (.ref C) = true) (hr : Room k X.A) (ha : PE X a ta) (hg : Gl X x)
    (hdb : (x == ("__debug__" : Str)) = false) (hs : starEach [a] X.env = (false, eval a X.env) :: starEach [] X.env) : PE X (.Call (.Name x p) [a] [] pos) (tExF C f ta) := by
  refine ⟨fun pins s σ H Q I h => ?_⟩
  refine wpAny_Call_Name_kw (ld_glob I hg gC ?_ hdb)
  refine PySem.W.callWith_K (h₀ := X.base) I.ok.mod.kin kC ?_ hs (by rfl)
  rw [hs]
  show wpAny _ _ (spliced ((false, eval a X.env) :: backTo pos (starEach [] X.env))) _ _ s
  refine Calls.spliced_cons (thn (ha.run pins s σ H _ I h) fun u s1 ⟨v, H1, I1, rv, q1⟩ => ?_)
  refine Calls.spliced_nil ⟨I1.kIn, ?_⟩
  show wpAny _ _ (call (.ref C) [u]) _ _ _
  have hlim := I1.nolimit
  refine wpAny_call (PySem.XcM.made_run FB SF T I1.kIn hlim (by have := hr.dp; omega) fun h' tk' e d M => ?_)
  obtain ⟨h1, h2, h3, J⟩ := made_inv (tk := tk') I1 rv M
  exact ⟨.ref e, _, J, rfl, q1 d e h1 h2 h3⟩
theorem pe_exFK {a : Expr} {x : Str} {ta : TE} {p pos : Pos} {k : Nat} (FB : ExcBaseFacts B newId initId b0) (T3 : PySem.KeyX.Tail3 bmB B) (SF : StoreFacts B2 bmB "object.__setattr__" "object") (T : PySem.XcM.XcT X.K C fI f bmB newId) (gC : X.mg x = some (.ref C)) (kC : PySem.W.keepIn X.K (.ref C) = true) (hr : Room k X.A) (ha : PE X a ta) (hg : Gl X x)
    (hdb : (x == ("__debug__" : Str)) = false) (hs : starEach [a] X.env = (false, eval a X.env) :: starEach [] X.env) : PE X (.Call (.Name x p) [a] [] pos) (tExF C f ta) := by
  refine ⟨fun pins s σ H Q I h => ?_⟩
  refine wpAny_Call_Name_kw (ld_glob I hg gC ?_ hdb)
  refine PySem.W.callWith_K (h₀ := X.base) I.ok.mod.kin kC ?_ hs (by rfl)
  rw [hs]
  show wpAny _ _ (spliced ((false, eval a X.env) :: backTo pos (starEach [] X.env))) _ _ s
  refine Calls.spliced_cons (thn (ha.run pins s σ H _ I h) fun u s1 ⟨v, H1, I1, rv, q1⟩ => ?_)
  refine Calls.spliced_nil ⟨I1.kIn, ?_⟩
  show wpAny _ _ (call (.ref C) [u]) _ _ _
  have hlim := I1.nolimit
  refine wpAny_call (PySem.KeyX.made_runK FB T3 SF T I1.kIn hlim (by have := hr.dp; omega) fun h' tk' e d M => ?_)
  obtain ⟨h1, h2, h3, J⟩ := made_inv (tk := tk') I1 rv M
  exact ⟨.ref e, _, J, rfl, q1 d e h1 h2 h3⟩
end
end L2
/-! FP93: own errors as values: data (D.fn of the place and a world that holds the error). -/
namespace FP
open PySem L2
variable [Tabl]
/-- an error made of one datum; one that keeps a datum in a field; any error of a class of the text -/
def ExT (mg : Gm) (W : Wd) (a : Addr) (x : Str) (d : D) : Prop := ∃ (C t : Addr) (v : V), mg.mg x = some (.ref C) ∧ W.H a = some (ExV (.ref C) none (some t) a) ∧ W.H t = some (.tup [v]) ∧ Rep mg W v d
def ExFd (mg : Gm) (W : Wd) (a : Addr) (x f : Str) (d : D) : Prop := ∃ (C p : Addr) (v : V), mg.mg x = some (.ref C) ∧ W.H a = some (ExV (.ref C) (some p) none a) ∧ W.H p = some (.xd [(f, v)]) ∧ Rep mg W v d
def IsX (mg : Gm) (W : Wd) (a : Addr) (x : Str) : Prop := ∃ (C : Addr) (dd t0 : Option Addr), mg.mg x = some (.ref C) ∧ W.H a = some (ExV (.ref C) dd t0 a) ∧ DdOk W.H dd
section
variable {mg : Gm} {W : Wd} {a : Addr} {x f : Str} {d : D}
theorem ExT.is (h : ExT mg W a x d) : IsX mg W a x := by
  obtain ⟨C, t, v, h1, h2, _⟩ := h
  exact ⟨C, none, some t, h1, h2, .inl rfl⟩
theorem ExFd.is (h : ExFd mg W a x f d) : IsX mg W a x := by
  obtain ⟨C, p, v, h1, h2, h3, _⟩ := h
  exact ⟨C, some p, none, h1, h2, .inr ⟨p, _, rfl, h3⟩⟩
end
/-- what the classes of errors of the text answer about one class -/
structure IsvF (mg : Gm) (c : V) (cv : Value) (xs : List Str) (yes : Str → Bool) : Prop where
  kv : ClsV c cv
  cl : ∀ x ∈ xs, ∃ C, mg.mg x = some (.ref C) ∧ ExK mg.K C ∧ PySem.W.kitOne mg.K (.ref C) cv = some (yes x)
/-- the classes of errors whose texts are those of their arguments -/
structure StvF (mg : Gm) (xs : List Str) : Prop where
  cl : ∀ x ∈ xs, ∃ C, mg.mg x = some (.ref C) ∧ PySem.W.findIn mg.K (.ref C) "__str__" = some (some (.builtin "BaseException.__str__")) ∧ PySem.W.subIn mg.K (.ref C) (.type "BaseException") = some true
theorem IsvF.nil {mg : Gm} {c : V} {cv : Value} {yes : Str → Bool} (h : ClsV c cv) : IsvF mg c cv [] yes := ⟨h, fun _ h => absurd h List.not_mem_nil⟩
theorem IsvF.cons {mg : Gm} {c : V} {cv : Value} {xs : List Str} {yes : Str → Bool} {x : Str} {C : Addr} {b : Bool} (h1 : mg.mg x = some (.ref C)) (k : ExK mg.K C) (h2 : PySem.W.kitOne mg.K (.ref C) cv = some b) (h3 : yes x = b) (r : IsvF mg c cv xs yes) : IsvF mg c cv (x :: xs) yes := ⟨r.kv, fun y hy => by
  rcases List.mem_cons.mp hy with e | hy
  · subst e
    exact ⟨C, h1, k, by rw [h2, h3]⟩
  · exact r.cl y hy⟩
theorem StvF.nil {mg : Gm} : StvF mg [] := ⟨fun _ h => absurd h List.not_mem_nil⟩
theorem StvF.cons {mg : Gm} {xs : List Str} {x : Str} {C : Addr} (h1 : mg.mg x = some (.ref C)) (h2 : PySem.W.findIn mg.K (.ref C) "__str__" = some (some (.builtin "BaseException.__str__"))) (h3 : PySem.W.subIn mg.K (.ref C) (.type "BaseException") = some true) (r : StvF mg xs) : StvF mg (x :: xs) := ⟨fun y hy => by
  rcases List.mem_cons.mp hy with e | hy
  · subst e
    exact ⟨C, h1, h2, h3⟩
  · exact r.cl y hy⟩
/-- kitOne: an own class asked for another own class; for itself; for a built-in one -/
theorem kit_own {K : PySem.W.Frag} {B C : Addr} {b : Bool} (ic : PySem.W.isClsIn K C = true) (ty : PySem.W.typeIn K (.ref C) = some (.type "type")) (h : PySem.W.subIn K (.ref B) (.ref C) = some b) (hn : (Value.ref B == Value.ref C) = false) : PySem.W.kitOne K (.ref B) (.ref C) = some b := by
  unfold PySem.W.kitOne
  rw [hn, if_neg Bool.false_ne_true]
  show (if ((PySem.W.clsIn K C).isSome && PySem.W.typeIn K (.ref C) == some (.type "type")) = true then PySem.W.subIn K (.ref B) (.ref C) else none) = _
  have ic : (PySem.W.clsIn K C).isSome = true := ic
  rw [ic, ty, h]
  rfl
theorem kit_self {K : PySem.W.Frag} {C : Addr} : PySem.W.kitOne K (.ref C) (.ref C) = some true := by
  unfold PySem.W.kitOne
  have e : (Value.ref C == Value.ref C) = true := beq_self_eq_true _
  rw [e, if_pos rfl]
section
variable {ι : Type} {Xs : ι → Cx} {mg : Gm} {Wx : WX} {pos : Pos}
/-! ### isinstance -/
abbrev dIsV (mg : Gm) (xs : List Str) (yes : Str → Bool) (fe : DTE) : DTE := fun ρ Q E => fe ρ (fun d => ∃ a W x, d = .fn a W ∧ IsX mg W a x ∧ x ∈ xs ∧ Q (.bl (yes x))) E
theorem isV_run {W1 : Wd} {H1 : Hp} {v : V} {d : D} {c : V} {cv : Value} {xs : List Str} {yes : Str → Bool} (F : IsvF mg c cv xs yes) (hh : Holds W1 H1) (r : Rep mg W1 v d) {a : Addr} {W0 : Wd} {x : Str} (e : d = .fn a W0) (hx : IsX mg W0 a x) (hm : x ∈ xs) {Q : VK} (q : Q (.bl (yes x)) H1) : rIsV mg.K [v, c] H1 Q := by
  subst e
  obtain ⟨C, dd, t0, h1, h2, h3⟩ := hx
  obtain ⟨C', g1, g2, g3⟩ := F.cl x hm
  rw [h1] at g1
  cases g1
  cases r with
  | fn l =>
    refine ⟨a, C, dd, t0, c, cv, yes x, rfl, hh.same _ _ (l.h _ _ h2), ?_, g2, F.kv, g3, q⟩
    rcases h3 with rfl | ⟨p, fs, rfl, hp⟩
    · exact .inl rfl
    · exact .inr ⟨p, fs, rfl, hh.same _ _ (l.h _ _ hp)⟩
theorem call_isVK {X : Cx} {K : PySem.W.Frag} (hK : X.K = K) : CallR X (.builtin "isinstance") (rIsV K) := by
  subst hK
  exact call_isV
theorem de_isV {e : Expr} {f : DTE} {c : Str} {C : Addr} {xs : List Str} {yes : Str → Bool} {p p2 : Pos} (h : DE Xs mg Wx e f) (hm : mg.mg "isinstance" = none) (Fc : mg.mg c = some (.ref C)) (F : IsvF mg (.ref C) (.ref C) xs yes) (hv : bootBuiltins "isinstance" = some (.builtin "isinstance"))
    (hK : ∀ j, (Xs j).K = mg.K := by intro _; rfl) (hM : ∀ j, (Xs j).mg = mg.mg := by intro _; rfl) (hg : ∀ j, Gl (Xs j) "isinstance" := by intro _; rfl) (hgT : ∀ j, Gl (Xs j) c := by intro _; rfl) (hd : (c == ("__debug__" : Str)) = false := by decide)
    (he : ∀ j, starEach [e, .Name c p2] (Xs j).env = (false, eval e (Xs j).env) :: starEach [.Name c p2] (Xs j).env := by intro _; rfl) (he2 : ∀ j, starEach [.Name c p2] (Xs j).env = [(false, eval (.Name c p2) (Xs j).env)] := by intro _; rfl)
    (hpl : ∀ j, (backTo pos (starEach [.Name c p2] (Xs j).env)).any (·.1) = false := by intro _; rfl) : DE Xs mg Wx (.Call (.Name "isinstance" p) [e, .Name c p2] [] pos) (dIsV mg xs yes f) := by
  obtain ⟨t, h1, h2⟩ := h
  refine ⟨tCB (rIsV mg.K) (tCons t (tCons (tC (.ref C)) tNil)), fun j => ?_, ?_⟩
  · exact pe_callB (call_isVK (hK j)) (hg j) (by rw [hM j]; exact hm) hv (pa_cons (h1 j) (pa_cons (pe_glob (v := .ref C) (hgT j) (by rw [hM j]; exact Fc) rfl hd) pa_nil (he2 j)) (he j)) (by decide) (by decide) (he j) (hpl j)
  · intro B ρ Q E hf W σ H Q' hh e x q
    refine h2 B ρ _ E hf W σ H _ hh e x fun W1 H1 v d s1 r1 k1 => ?_
    obtain ⟨a, W0, y, e, hx, hm, hq⟩ := k1
    exact isV_run F s1.holds r1 e hx hm (q W1 H1 _ _ s1 (.bl _) hq)
theorem de_isVb {e : Expr} {f : DTE} {T : Str} {n : String} {xs : List Str} {yes : Str → Bool} {p p2 : Pos} (h : DE Xs mg Wx e f) (hm : mg.mg "isinstance" = none) (hmT : mg.mg T = none) (F : IsvF mg (.ty n) (.type n) xs yes) (hT : bootBuiltins T = some (.type n)) (hv : bootBuiltins "isinstance" = some (.builtin "isinstance"))
    (hK : ∀ j, (Xs j).K = mg.K := by intro _; rfl) (hM : ∀ j, (Xs j).mg = mg.mg := by intro _; rfl) (hg : ∀ j, Gl (Xs j) "isinstance" := by intro _; rfl) (hgT : ∀ j, Gl (Xs j) T := by intro _; rfl) (hn : T ≠ "__name__" := by decide) (hd : (T == ("__debug__" : Str)) = false := by decide)
    (he : ∀ j, starEach [e, .Name T p2] (Xs j).env = (false, eval e (Xs j).env) :: starEach [.Name T p2] (Xs j).env := by intro _; rfl) (he2 : ∀ j, starEach [.Name T p2] (Xs j).env = [(false, eval (.Name T p2) (Xs j).env)] := by intro _; rfl)
    (hpl : ∀ j, (backTo pos (starEach [.Name T p2] (Xs j).env)).any (·.1) = false := by intro _; rfl) : DE Xs mg Wx (.Call (.Name "isinstance" p) [e, .Name T p2] [] pos) (dIsV mg xs yes f) := by
  obtain ⟨t, h1, h2⟩ := h
  refine ⟨tCB (rIsV mg.K) (tCons t (tCons (tC (.ty n)) tNil)), fun j => ?_, ?_⟩
  · exact pe_callB (call_isVK (hK j)) (hg j) (by rw [hM j]; exact hm) hv (pa_cons (h1 j) (pa_cons (pe_bltn (v := .ty n) (hgT j) (by rw [hM j]; exact hmT) hT rfl hn hd) pa_nil (he2 j)) (he j)) (by decide) (by decide) (he j) (hpl j)
  · intro B ρ Q E hf W σ H Q' hh e x q
    refine h2 B ρ _ E hf W σ H _ hh e x fun W1 H1 v d s1 r1 k1 => ?_
    obtain ⟨a, W0, y, e, hx, hm, hq⟩ := k1
    exact isV_run F s1.holds r1 e hx hm (q W1 H1 _ _ s1 (.bl _) hq)
/-! ### the text -/
def rdStrV (mg : Gm) (xs : List Str) : RDL := fun ds Q => match ds with
  | [.fn a W] => ∃ x m, ExT mg W a x (.str m) ∧ x ∈ xs ∧ Q (.str m)
  | _ => False
theorem call_strVK {X : Cx} {K : PySem.W.Frag} (hK : X.K = K) (hu : X.A.units + 2 < cLine) : CallR X (.type "str") (rStrV K) := by
  subst hK
  exact call_strV hu
theorem ok_strV {xs : List Str} (F : StvF mg xs) (hu : ∀ j, (Xs j).A.units + 64 < cLine) (hK : ∀ j, (Xs j).K = mg.K := by intro _; rfl) : CallOk Xs mg (.type "str") (rdStrV mg xs) := by
  refine ⟨_, fun j => call_strVK (hK j) (by have := hu j; omega), ?_⟩
  intro W H vs ds Q Q' hh r h q
  unfold rdStrV at h
  split at h
  · obtain ⟨x, m, ⟨C, t, u, h1, h2, h3, h4⟩, hm, hq⟩ := h
    obtain ⟨C', g1, g2, g3⟩ := F.cl x hm
    rw [h1] at g1
    cases g1
    cases r with
    | cons r1 rs =>
      cases rs
      cases r1 with
      | fn l =>
        cases h4
        exact ⟨_, C, t, none, m, rfl, hh.same _ _ (l.h _ _ h2), hh.same _ _ (l.h _ _ h3), g2, g3, q W H _ _ (Step.refl hh) (.str m) hq⟩
  · exact h.elim
/-! ### the field -/
abbrev dXfV (mg : Gm) (x f : Str) (fe : DTE) : DTE := fun ρ Q E => fe ρ (fun d => ∃ a W y, d = .fn a W ∧ ExFd mg W a x f y ∧ Q y) E
theorem de_xfV {e : Expr} {fe : DTE} {x f : Str} {C : Addr} {bmB : List Value} {newId : String} (F : XcF mg x C f bmB newId) (he : DE Xs mg Wx e fe) (hK : ∀ j, (Xs j).K = mg.K := by intro _; rfl) (hb : ∀ j, attributeBase e f (Xs j).env (eval e (Xs j).env) = eval e (Xs j).env := by intro _; rfl) : DE Xs mg Wx (.Attribute e f pos) (dXfV mg x f fe) := by
  obtain ⟨t, h1, h2⟩ := he
  obtain ⟨fI, T⟩ := F.t
  refine ⟨tXfV C f t, fun j => pe_xfV (by rw [hK]; exact ⟨F.ga, F.gg, F.sb, T.hd⟩) (by rw [hK]; exact T.no) (h1 j) (hb j), ?_⟩
  intro B ρ Q E hf W σ H Q' hh e x q
  refine h2 B ρ _ E hf W σ H _ hh e x fun W1 H1 v d s1 r1 k1 => ?_
  obtain ⟨a, W0, y, rfl, ⟨C', p, u, g1, g2, g3, g4⟩, hq⟩ := k1
  rw [F.nm] at g1
  cases g1
  cases r1 with
  | fn l => exact ⟨a, p, none, _, u, rfl, s1.holds.same _ _ (l.h _ _ g2), s1.holds.same _ _ (l.h _ _ g3), by simp [List.lookup], q W1 H1 u y s1 (g4.mono l) hq⟩
/-! ### making -/
abbrev dExT (mg : Gm) (x : Str) (fe : DTE) : DTE := fun ρ Q E => fe ρ (fun d => ∀ a W, ExT mg W a x d → Q (.fn a W)) E
theorem de_exT {x : Str} {C : Addr} {bmB : List Value} {B newId initId : String} {e : Expr} {fe : DTE} {p : Pos} (F : ExcBaseFacts B newId initId bmB) (X : ExcF mg x C bmB newId) (he : DE Xs mg Wx e fe) (hK : ∀ j, (Xs j).K = mg.K := by intro _; rfl) (hM : ∀ j, (Xs j).mg = mg.mg := by intro _; rfl)
    (hg : ∀ j, Gl (Xs j) x := by intro _; rfl) (hdb : (x == ("__debug__" : Str)) = false := by decide) (hs : ∀ j, starEach [e] (Xs j).env = (false, eval e (Xs j).env) :: starEach [] (Xs j).env := by intro _; rfl) : DE Xs mg Wx (.Call (.Name x p) [e] [] pos) (dExT mg x fe) := by
  obtain ⟨t, h1, h2⟩ := he
  refine ⟨_, fun i => pe_exT F (by rw [hK i]; exact X.ei) (by rw [hM i]; exact X.nm) (by rw [hK i]; exact X.kp) (hg i) (h1 i) (hs i) hdb, ?_⟩
  intro B ρ Q E hf W σ H Q' hh e x q
  refine h2 B ρ _ E hf W σ H _ hh e x fun W1 H1 v d s1 r1 k1 => ?_
  intro t a hnt hna ne
  have s2 := Step.alloc (o := .tup [v]) s1.holds hnt
  have hna2 : upd H1 t (.tup [v]) a = none := by rw [upd_ne ne]; exact hna
  have s3 := Step.alloc (o := ExV (.ref C) none (some t) a) s2.holds hna2 (by intro _ h; unfold ExV at h; cases h)
  refine q _ _ _ _ ((s1.trans s2).trans s3) (.fn (Le.refl _)) (k1 a _ ⟨C, t, v, X.nm, upd_same, ?_, r1.mono (s2.le.trans s3.le)⟩)
  show upd (upd W1.H t (.tup [v])) a _ t = _
  rw [upd_ne (Ne.symm ne), upd_same]
abbrev dExF (mg : Gm) (x f : Str) (fe : DTE) : DTE := fun ρ Q E => fe ρ (fun d => ∀ a W, ExFd mg W a x f d → Q (.fn a W)) E
theorem exF_cp {x f : Str} {C : Addr} {t : TE} {fe : DTE} (nm : mg.mg x = some (.ref C)) (h2 : Cp mg Wx t fe) : Cp mg Wx (tExF C f t) (dExF mg x f fe) := by
  intro B ρ Q E hf W σ H Q' hh e x q
  refine h2 B ρ _ E hf W σ H _ hh e x fun W1 H1 v d s1 r1 k1 => ?_
  intro p a hnp hna ne
  have s2 := Step.alloc (o := .xd [(f, v)]) s1.holds hnp
  have hna2 : upd H1 p (.xd [(f, v)]) a = none := by rw [upd_ne ne]; exact hna
  have s3 := Step.alloc (o := ExV (.ref C) (some p) none a) s2.holds hna2 (by intro _ h; unfold ExV at h; cases h)
  refine q _ _ _ _ ((s1.trans s2).trans s3) (.fn (Le.refl _)) (k1 a _ ⟨C, p, v, nm, upd_same, ?_, r1.mono (s2.le.trans s3.le)⟩)
  show upd (upd W1.H p (.xd [(f, v)])) a _ p = _
  rw [upd_ne (Ne.symm ne), upd_same]
theorem de_exF {x f : Str} {C : Addr} {bmB : List Value} {B newId initId : String} {e : Expr} {fe : DTE} {p : Pos} {k : Nat} (FB : ExcBaseFacts B newId initId bmB) (SF : StoreFacts B bmB "object.__setattr__" "object") (X : XcF mg x C f bmB newId) (hr : ∀ i, RmG k (Xs i).A) (he : DE Xs mg Wx e fe)
    (hK : ∀ j, (Xs j).K = mg.K := by intro _; rfl) (hM : ∀ j, (Xs j).mg = mg.mg := by intro _; rfl) (hg : ∀ j, Gl (Xs j) x := by intro _; rfl) (hdb : (x == ("__debug__" : Str)) = false := by decide)
    (hs : ∀ j, starEach [e] (Xs j).env = (false, eval e (Xs j).env) :: starEach [] (Xs j).env := by intro _; rfl) : DE Xs mg Wx (.Call (.Name x p) [e] [] pos) (dExF mg x f fe) := by
  obtain ⟨t, h1, h2⟩ := he
  obtain ⟨fI, T⟩ := X.t
  exact ⟨tExF C f t, fun i => pe_exF FB SF (by rw [hK i]; exact T) (by rw [hM i]; exact X.nm) (by rw [hK i]; exact X.kp) (hr i).r (h1 i) (hg i) hdb (hs i), exF_cp X.nm h2⟩
theorem de_exFK {x f : Str} {C : Addr} {e : Expr} {fe : DTE} {p : Pos} {k : Nat} (X : XcF mg x C f keBm "LookupError.__new__") (hr : ∀ i, RmG k (Xs i).A) (he : DE Xs mg Wx e fe)
    (hK : ∀ j, (Xs j).K = mg.K := by intro _; rfl) (hM : ∀ j, (Xs j).mg = mg.mg := by intro _; rfl) (hg : ∀ j, Gl (Xs j) x := by intro _; rfl) (hdb : (x == ("__debug__" : Str)) = false := by decide)
    (hs : ∀ j, starEach [e] (Xs j).env = (false, eval e (Xs j).env) :: starEach [] (Xs j).env := by intro _; rfl) : DE Xs mg Wx (.Call (.Name x p) [e] [] pos) (dExF mg x f fe) := by
  obtain ⟨t, h1, h2⟩ := he
  obtain ⟨fI, T⟩ := X.t
  exact ⟨tExF C f t, fun i => pe_exFK lkB PySem.KeyX.ke3 PySem.KeyX.keS (by rw [hK i]; exact T) (by rw [hM i]; exact X.nm) (by rw [hK i]; exact X.kp) (hr i).r (h1 i) (hg i) hdb (hs i), exF_cp X.nm h2⟩
end
end FP
/-! FP94: facts for errors as values. -/
namespace FP
open PySem L2
variable [Tabl]
theorem kit_blt {K : PySem.W.Frag} {C : Addr} {T : String} {b : Bool} (km : PySem.W.kitMeta T = true) (h : PySem.W.subIn K (.ref C) (.type T) = some b) : PySem.W.kitOne K (.ref C) (.type T) = some b := by
  unfold PySem.W.kitOne
  have e : ((Value.ref C) == (Value.type T)) = false := rfl
  rw [e, if_neg Bool.false_ne_true]
  show (if PySem.W.kitMeta T = true then PySem.W.subIn K (.ref C) (.type T) else none) = _
  rw [if_pos km, h]
theorem boot_KeyError : bootBuiltins "KeyError" = some (.type "KeyError") := by decide +kernel
theorem boot_IndexError : bootBuiltins "IndexError" = some (.type "IndexError") := by decide +kernel
theorem boot_LookupError : bootBuiltins "LookupError" = some (.type "LookupError") := by decide +kernel
theorem boot_OverflowError : bootBuiltins "OverflowError" = some (.type "OverflowError") := by decide +kernel
theorem boot_ArithmeticError : bootBuiltins "ArithmeticError" = some (.type "ArithmeticError") := by decide +kernel
theorem boot_RuntimeError : bootBuiltins "RuntimeError" = some (.type "RuntimeError") := by decide +kernel
theorem boot_ValueError : bootBuiltins "ValueError" = some (.type "ValueError") := by decide +kernel
end FP
/-! KP: kinds, with no program in sight: text, places, order, parts, signed atoms; their data. -/
namespace KP
open PySem L2 FP
variable [FP.Tabl]
inductive Kd where
  | mk (as : List Kd) (a : Str)
def Kd.as : Kd → List Kd
  | .mk as _ => as
def Kd.a : Kd → Str
  | .mk _ a => a
mutual
def text : Kd → Str
  | .mk as a => Txt.join " -> " (texts as ++ [a])
def texts : List Kd → List Str
  | [] => []
  | k :: r => (if k.as.isEmpty then text k else "(" ++ text k ++ ")") :: texts r
end
mutual
def places : Kd → List Str
  | .mk as a => placesL as ++ [a]
def placesL : List Kd → List Str
  | [] => []
  | k :: r => places k ++ placesL r
end
theorem placesL_map : ∀ ks, placesL ks = (ks.map places).flatten
  | [] => rfl
  | k :: r => by
    rw [placesL, placesL_map r]
    rfl
mutual
def ord : Kd → Nat
  | .mk as _ => ordL as
def ordL : List Kd → Nat
  | [] => 0
  | k :: r => max (ord k + 1) (ordL r)
end
theorem ordL_le {n : Nat} : ∀ {ks : List Kd}, (∀ k ∈ ks, ord k < n) → ordL ks ≤ n
  | [], _ => Nat.zero_le _
  | j :: r, h => by
    rw [ordL]
    have h1 := h j List.mem_cons_self
    have h2 := ordL_le fun k hk => h k (List.mem_cons_of_mem _ hk)
    omega
mutual
def signed : Kd → Bool → List Str
  | .mk as a, b => (if b then [a] else []) ++ signedL as (!b)
def signedL : List Kd → Bool → List Str
  | [], _ => []
  | k :: r, b => signed k b ++ signedL r b
end
/-! ### sizes -/
/-! ### words -/
def letters : List Nat := ("abcdefghijklmnopqrstuvwxyz" : Str).cps.toList
def isWordS (z : Str) : Bool := decide (1 ≤ z.length) && decide (z.length ≤ 8) && z.cps.toList.all fun c => decide (c ∈ letters)
/-- a whole kind -/
structure Good (k : Kd) : Prop where
  w : ∀ z ∈ places k, isWordS z = true
  p : (places k).length ≤ 15
  o : ord k ≤ 4
/-! ### the size of a text -/
theorem len_app (a b : Str) : (a ++ b).length = a.length + b.length := by
  show (a.cps ++ b.cps).size = _
  rw [Array.size_append]
  rfl
end KP
/-! KP2: kinds as data; data beside themselves. -/
namespace KP
open PySem L2 FP
variable [FP.Tabl]
mutual
def typeD : Kd → D
  | .mk as a => .ins "Type" [("own_args", .tup (typeDs as)), ("own_atom", .str a), ("own_places", .tup ((places (.mk as a)).map .str)), ("own_order", .int (ord (.mk as a))), ("own_text", .str (text (.mk as a)))]
def typeDs : List Kd → List D
  | [] => []
  | k :: r => typeD k :: typeDs r
end
/-! ### readings of fields, of the class -/
/-! ### data beside themselves -/
mutual
def shD : Nat → D → Bool
  | _, .non => true
  | _, .bl _ => true
  | _, .int _ => true
  | _, .str x => PyData.strOk x
  | n + 1, .tup xs => shDs n xs
  | n + 1, .lst xs => shDs n xs
  | _, _ => false
def shDs : Nat → List D → Bool
  | _, [] => true
  | n, x :: r => shD n x && shDs n r
end
mutual
theorem shD_py : ∀ (n : Nat) (d : D), shD n d = true → ∃ p, toPy d = some p ∧ p.canLay0 = true ∧ p.depth ≤ n
  | n, .non, _ => ⟨.none, rfl, rfl, Nat.zero_le _⟩
  | n, .bl b, _ => ⟨.bool b, rfl, rfl, Nat.zero_le _⟩
  | n, .int i, _ => ⟨.int i, rfl, rfl, Nat.zero_le _⟩
  | n, .str x, h => ⟨.str x, rfl, by rw [PyData.canLay0]; simpa [shD] using h, Nat.zero_le _⟩
  | n + 1, .tup xs, h => by
    rw [shD] at h
    obtain ⟨ps, h1, h2, h3⟩ := shDs_py n xs h
    exact ⟨.tuple ps, by rw [toPy, h1], h2, Nat.succ_le_succ h3⟩
  | n + 1, .lst xs, h => by
    rw [shD] at h
    obtain ⟨ps, h1, h2, h3⟩ := shDs_py n xs h
    exact ⟨.list ps, by rw [toPy, h1], h2, Nat.succ_le_succ h3⟩
  | 0, .tup xs, h => by simp [shD] at h
  | 0, .lst xs, h => by simp [shD] at h
  | n, .fz _, h => by simp [shD] at h
  | n, .dct _, h => by simp [shD] at h
  | n, .ins _ _, h => by simp [shD] at h
  | n, .tok, h => by simp [shD] at h
  | n, .cl _, h => by simp [shD] at h
  | n, .fn _ _, h => by simp [shD] at h
theorem shDs_py : ∀ (n : Nat) (ds : List D), shDs n ds = true → ∃ ps, toPys ds = some ps ∧ PyData.canLayAll0 ps = true ∧ PyData.depthAll ps ≤ n
  | n, [], _ => ⟨[], rfl, rfl, Nat.zero_le _⟩
  | n, x :: r, h => by
    rw [shDs, Bool.and_eq_true] at h
    obtain ⟨p, h1, h2, h3⟩ := shD_py n x h.1
    obtain ⟨ps, g1, g2, g3⟩ := shDs_py n r h.2
    refine ⟨p :: ps, by rw [toPys, h1, g1], ?_, ?_⟩
    · rw [PyData.canLayAll0, h2, g2]
      rfl
    · rw [PyData.depthAll]
      omega
end
mutual
theorem eqv_refl : ∀ p : PyData, p.canLay0 = true → PyData.eqv p p = true
  | .none, _ => by simp [PyData.eqv]
  | .bool _, _ => by simp [PyData.eqv]
  | .int _, _ => by simp [PyData.eqv]
  | .str _, _ => by simp [PyData.eqv]
  | .list xs, h => by
    rw [PyData.eqv]
    exact eqvAll_refl xs (by simpa [PyData.canLay0] using h)
  | .tuple xs, h => by
    rw [PyData.eqv]
    exact eqvAll_refl xs (by simpa [PyData.canLay0] using h)
  | .dict _, h => by simp [PyData.canLay0] at h
theorem eqvAll_refl : ∀ ps : List PyData, PyData.canLayAll0 ps = true → PyData.eqvAll ps ps = true
  | [], _ => by simp [PyData.eqvAll]
  | p :: r, h => by
    rw [PyData.canLayAll0, Bool.and_eq_true] at h
    rw [PyData.eqvAll, eqv_refl p h.1, eqvAll_refl r h.2]
    rfl
end
theorem sh_shaped {p : PyData} (h1 : p.canLay0 = true) (h2 : p.depth ≤ 64) : SeqAt.shaped p = true := by
  unfold SeqAt.shaped
  rw [h1, decide_eq_true h2]
  rfl
theorem ne_refl {x : D} {Q : D → Prop} (h : shD 64 x = true) (hn : eqS x x = none) (q : Q (.bl false)) : rdNe x x Q := by
  obtain ⟨p, h1, h2, h3⟩ := shD_py 64 x h
  exact ne_deep h1 h1 hn (sh_shaped h2 h3) (sh_shaped h2 h3) (eqv_refl p h2) q
theorem eq_refl {x : D} {Q : D → Prop} (h : shD 64 x = true) (hn : eqS x x = none) (q : Q (.bl true)) : rdEq x x Q := by
  obtain ⟨p, h1, h2, h3⟩ := shD_py 64 x h
  exact eq_deep h1 h1 hn (sh_shaped h2 h3) (sh_shaped h2 h3) (eqv_refl p h2) q
/-! ### signs of texts -/
theorem strOk_iff (z : Str) : PyData.strOk z = true ↔ ∀ c ∈ z.cps.toList, c < 1114112 := by
  unfold PyData.strOk
  rw [Array.all_eq_true']
  simp
end KP
/-! KP3: what the defs about kinds promise, by data; lists walked. -/
namespace KP
open PySem L2 FP
variable [FP.Tabl]
def isWordD : D → Bool
  | .str z => isWordS z
  | _ => false
def d_len (k : Kd) : D := .int (places k).length
theorem placesL_app (xs ys : List Kd) : placesL (xs ++ ys) = placesL xs ++ placesL ys := by
  rw [placesL_map, placesL_map, placesL_map, List.map_append, List.flatten_append]
end KP
/-! KP4: a dict from texts to kinds; its keys in order. -/
namespace KP
open PySem L2 FP
variable [FP.Tabl]
structure DInv (done : List Kd) (acc : List (Key × D)) : Prop where
  el : ∀ kv ∈ acc, ∃ j ∈ done, kv = (.inr (text j), typeD j)
  nd : (acc.map (·.1)).Nodup
  all : ∀ j ∈ done, Sum.inr (text j) ∈ acc.map (·.1)
theorem DInv.put {done : List Kd} {acc : List (Key × D)} (h : DInv done acc) (j : Kd) : DInv (done ++ [j]) (putKD acc (.inr (text j)) (typeD j)) := by
  unfold putKD
  by_cases q : (acc.any fun kv => decide (kv.1 = .inr (text j))) = true
  · rw [if_pos q]
    have ek : (acc.map fun kv => if kv.1 = .inr (text j) then (kv.1, typeD j) else kv).map (·.1) = acc.map (·.1) := by
      rw [List.map_map]
      apply List.map_congr_left
      intro kv _
      show (if kv.1 = .inr (text j) then (kv.1, typeD j) else kv).1 = kv.1
      split <;> rfl
    refine ⟨fun kv hkv => ?_, by rw [ek]; exact h.nd, fun i hi => ?_⟩
    · obtain ⟨kv0, h0, e⟩ := List.mem_map.mp hkv
      by_cases z : kv0.1 = .inr (text j)
      · rw [if_pos z] at e
        exact ⟨j, by simp, by rw [← e, z]⟩
      · rw [if_neg z] at e
        obtain ⟨i, hi, ei⟩ := h.el kv0 h0
        exact ⟨i, List.mem_append_left _ hi, by rw [← e, ei]⟩
    · rw [ek]
      rcases List.mem_append.mp hi with z | z
      · exact h.all i z
      · rw [List.mem_singleton.mp z]
        obtain ⟨kv, h1, h2⟩ := List.any_eq_true.mp q
        exact List.mem_map.mpr ⟨kv, h1, of_decide_eq_true h2⟩
  · rw [if_neg q]
    have nk : Sum.inr (text j) ∉ acc.map (·.1) := fun z => by
      obtain ⟨kv, h1, h2⟩ := List.mem_map.mp z
      exact q (List.any_eq_true.mpr ⟨kv, h1, decide_eq_true h2⟩)
    refine ⟨fun kv hkv => ?_, ?_, fun i hi => ?_⟩
    · rcases List.mem_append.mp hkv with z | z
      · obtain ⟨i, hi, ei⟩ := h.el kv z
        exact ⟨i, List.mem_append_left _ hi, ei⟩
      · exact ⟨j, by simp, List.mem_singleton.mp z⟩
    · rw [List.map_append]
      refine List.nodup_append.mpr ⟨h.nd, by simp, fun a ha b hb e => ?_⟩
      have eb : b = Sum.inr (text j) := by simpa using hb
      rw [e, eb] at ha
      exact nk ha
    · rw [List.map_append]
      rcases List.mem_append.mp hi with z | z
      · exact List.mem_append_left _ (h.all i z)
      · rw [List.mem_singleton.mp z]
        exact List.mem_append_right _ (by simp)
theorem atI_nat {α : Type} {xs : List α} {i : Int} (h0 : 0 ≤ i) (h1 : i < xs.length) : atI xs i = xs[i.toNat]? := by
  unfold atI ixN
  rw [if_pos h0, if_pos h1]
  rfl
end KP
/-! KP5: how a kind is read from signs, with no program in sight. -/
namespace KP
open PySem L2 FP
variable [FP.Tabl]
abbrev Rows := List (List Kd)
def takeEnd (pre : Rows) (row : List Kd) (w : Bool) (s : Str) : Bool × Rows × Bool :=
  if w then (false, pre ++ [row], w) else if s = " -> " then (true, pre ++ [row], true) else
    match pre.getLast?, row.getLast? with
    | some r0, some k => if 2 ≤ row.length ∧ k.as = [] then (true, pre.dropLast ++ [r0 ++ [.mk row.dropLast k.a]], false) else (false, pre, false)
    | _, _ => (false, pre, false)
def take1 (pre : Rows) (row : List Kd) (w : Bool) (s : Str) : Bool × Rows × Bool :=
  if s = "(" then (w && decide (pre.length + 2 ≤ 5), pre ++ [row] ++ [[]], w)
  else if s = " -> " ∨ s = ")" then takeEnd pre row w s
  else (w && isWordS s, pre ++ [row ++ [.mk [] s]], false)
structure OkR (rows : Rows) : Prop where
  n : rows.length ≤ 6
  r : ∀ row ∈ rows, row.length ≤ 2000
  k : ∀ row ∈ rows, ∀ k ∈ row, ord k ≤ 6 ∧ ∀ z ∈ places k, PyData.strOk z = true
/-! ### shapes are shaped -/
theorem OkR.dl {pre : Rows} {row : List Kd} (h : OkR (pre ++ [row])) : OkR pre := ⟨by have := h.n; rw [List.length_append] at this; have e : [row].length = 1 := rfl; omega, fun r hr => h.r r (List.mem_append_left _ hr), fun r hr => h.k r (List.mem_append_left _ hr)⟩
end KP
/-! KP6: the signs of a text, and the shape that they tell, with no program in sight. -/
namespace KP
open PySem L2 FP
variable [FP.Tabl]
def isL (c : Nat) : Bool := decide (c ∈ letters)
def arrowL : List Nat := (" -> " : Str).cps.toList
def parL : List Nat := ("()" : Str).cps.toList
def lexO : Nat → List Nat → Option (List Str)
  | _, [] => some []
  | 0, _ :: _ => none
  | n + 1, c :: r =>
    if isL c = true then (lexO n (r.dropWhile isL)).map (List.cons (⟨(c :: r.takeWhile isL).toArray⟩ : Str))
    else if (c :: r).take 4 = arrowL then (lexO n (r.drop 3)).map (List.cons (" -> " : Str))
    else if c ∈ parL then (lexO n r).map (List.cons (⟨#[c]⟩ : Str))
    else none
def lexS (z : Str) : Option (List Str) := lexO z.cps.toList.length z.cps.toList
theorem lexO_nil (n : Nat) : lexO n [] = some [] := by cases n <;> rfl
theorem lexO_fuel : ∀ (n m : Nat) (xs : List Nat), xs.length ≤ n → xs.length ≤ m → lexO n xs = lexO m xs
  | n, m, [], _, _ => by rw [lexO_nil, lexO_nil]
  | 0, _, _ :: _, h, _ => by simp at h
  | _, 0, _ :: _, _, h => by simp at h
  | n + 1, m + 1, c :: r, h, h' => by
    have h1 : r.length ≤ n := by simpa using h
    have h2 : r.length ≤ m := by simpa using h'
    have hd : (r.dropWhile isL).length ≤ r.length := (List.dropWhile_sublist isL).length_le
    have hp : (r.drop 3).length ≤ r.length := by simp
    rw [lexO, lexO, lexO_fuel n m _ (Nat.le_trans hd h1) (Nat.le_trans hd h2), lexO_fuel n m _ (Nat.le_trans hp h1) (Nat.le_trans hp h2), lexO_fuel n m r h1 h2]
theorem lexO_cons (c : Nat) (r : List Nat) : lexO (c :: r).length (c :: r) =
    if isL c = true then (lexO (r.dropWhile isL).length (r.dropWhile isL)).map (List.cons (⟨(c :: r.takeWhile isL).toArray⟩ : Str))
    else if (c :: r).take 4 = arrowL then (lexO (r.drop 3).length (r.drop 3)).map (List.cons (" -> " : Str))
    else if c ∈ parL then (lexO r.length r).map (List.cons (⟨#[c]⟩ : Str))
    else none := by
  have hd : (r.dropWhile isL).length ≤ r.length := (List.dropWhile_sublist isL).length_le
  have hp : (r.drop 3).length ≤ r.length := by simp
  rw [List.length_cons, lexO, lexO_fuel r.length _ _ hd (Nat.le_refl _), lexO_fuel r.length _ _ hp (Nat.le_refl _)]
/-- what is found so far, and the rest -/
def Lex (z : Str) (found : List Str) (rest : List Nat) : Prop := lexS z = (lexO rest.length rest).map (found ++ ·)
theorem Lex.start (z : Str) : Lex z [] z.cps.toList := by
  unfold Lex lexS
  cases lexO z.cps.toList.length z.cps.toList <;> rfl
theorem Lex.stop {z : Str} {found : List Str} (h : Lex z found []) : lexS z = some found := by
  unfold Lex at h
  rw [h, lexO_nil]
  simp
theorem Lex.step {z : Str} {found : List Str} {rest rest' : List Nat} {s : Str} (h : Lex z found rest) (e : lexO rest.length rest = (lexO rest'.length rest').map (List.cons s)) : Lex z (found ++ [s]) rest' := by
  unfold Lex at h ⊢
  rw [h, e]
  cases lexO rest'.length rest' with
  | none => rfl
  | some ss => simp
theorem Lex.par {z : Str} {found : List Str} {c : Nat} {r : List Nat} (h : Lex z found (c :: r)) (hc : isL c = false) (ha : ¬ (c :: r).take 4 = arrowL) (hp : c ∈ parL) : Lex z (found ++ [⟨#[c]⟩]) r :=
  h.step (by rw [lexO_cons, if_neg (by rw [hc]; exact Bool.false_ne_true), if_neg ha, if_pos hp])
/-! ### places of a text -/
/-! ### signs are parts of the text -/
/-! ### the shape -/
/-- what holds between signs -/
structure RInv (rows : Rows) (w : Bool) (left : Nat) : Prop where
  ne : rows ≠ []
  n : rows.length ≤ 5
  len : ∀ row ∈ rows, row.length + left ≤ 1000
  k : ∀ (j : Nat) (row : List Kd), rows[j]? = some row → ∀ k ∈ row, ord k + j ≤ 4 ∧ ∀ z ∈ places k, PyData.strOk z = true
  last : w = false → ∀ row, rows.getLast? = some row → row ≠ []
theorem RInv.start (n : Nat) (h : n ≤ 1000) : RInv [[]] true n := by
  refine ⟨by simp, by simp, fun row hr => ?_, fun j row hr k hk => ?_, fun h => by cases h⟩
  · rw [List.mem_singleton.mp hr]
    simpa using h
  · have := List.mem_of_getElem? hr
    rw [List.mem_singleton.mp this] at hk
    cases hk
theorem snoc_get {α : Type} {pre : List α} {x y : α} {j : Nat} (h : (pre ++ [x])[j]? = some y) : pre[j]? = some y ∨ (j = pre.length ∧ y = x) := by
  by_cases hj : j < pre.length
  · rw [List.getElem?_append_left hj] at h
    exact .inl h
  · rw [List.getElem?_append_right (by omega)] at h
    cases q : j - pre.length with
    | zero =>
      rw [q] at h
      exact .inr ⟨by omega, (Option.some.inj h).symm⟩
    | succ m =>
      rw [q] at h
      simp at h
theorem RInv.put {pre : Rows} {row : List Kd} {w w' : Bool} {n : Nat} {k : Kd} (h : RInv (pre ++ [row]) w (n + 1)) (h1 : ord k + pre.length ≤ 4) (h2 : ∀ z ∈ places k, PyData.strOk z = true) : RInv (pre ++ [row ++ [k]]) w' n := by
  refine ⟨by simp, ?_, fun r hr => ?_, fun j r hr i hi => ?_, fun _ r hr => ?_⟩
  · have := h.n
    simpa using this
  · rcases List.mem_append.mp hr with q | q
    · have := h.len r (List.mem_append_left _ q)
      omega
    · rw [List.mem_singleton.mp q, List.length_append]
      have := h.len row (by simp)
      have e : [k].length = 1 := rfl
      omega
  · rcases snoc_get hr with q | ⟨ej, er⟩
    · refine h.k j r ?_ i hi
      rw [List.getElem?_append_left (List.getElem?_eq_some_iff.mp q).1]
      exact q
    · rw [er] at hi
      rcases List.mem_append.mp hi with z | z
      · refine h.k j row ?_ i z
        rw [ej, List.getElem?_append_right (Nat.le_refl _), Nat.sub_self]
        rfl
      · rw [List.mem_singleton.mp z, ej]
        exact ⟨h1, h2⟩
  · simp at hr
    rw [← hr]
    simp
theorem RInv.take {pre : Rows} {row : List Kd} {w : Bool} {n : Nat} {s : Str} (h : RInv (pre ++ [row]) w (n + 1)) (hs : PyData.strOk s = true) (ht : (take1 pre row w s).1 = true) : RInv (take1 pre row w s).2.1 (take1 pre row w s).2.2 n := by
  unfold take1 at ht ⊢
  by_cases h1 : s = "("
  · rw [if_pos h1] at ht ⊢
    rw [Bool.and_eq_true, decide_eq_true_eq] at ht
    obtain ⟨hw, hn⟩ := ht
    show RInv (pre ++ [row] ++ [[]]) w n
    refine ⟨by simp, ?_, fun r hr => ?_, fun j r hr i hi => ?_, fun hf => by rw [hw] at hf; cases hf⟩
    · rw [List.length_append, List.length_append]
      exact hn
    · rcases List.mem_append.mp hr with q | q
      · have := h.len r q
        omega
      · rw [List.mem_singleton.mp q]
        have := h.len row (by simp)
        show 0 + n ≤ _
        omega
    · rcases snoc_get hr with q | ⟨_, er⟩
      · exact h.k j r q i hi
      · rw [er] at hi
        cases hi
  · rw [if_neg h1] at ht ⊢
    by_cases h2 : s = " -> " ∨ s = ")"
    · rw [if_pos h2] at ht ⊢
      unfold takeEnd at ht ⊢
      cases w with
      | true =>
        rw [if_pos rfl] at ht
        cases ht
      | false =>
      rw [if_neg Bool.false_ne_true] at ht ⊢
      by_cases h3 : s = " -> "
      · rw [if_pos h3]
        refine ⟨h.ne, h.n, fun r hr => ?_, h.k, fun hf => by cases hf⟩
        have := h.len r hr
        omega
      · rw [if_neg h3] at ht ⊢
        rcases List.eq_nil_or_concat pre with rfl | ⟨pre', r0, rfl⟩
        · simp at ht
        · rw [List.concat_eq_append] at *
          rcases List.eq_nil_or_concat row with rfl | ⟨row', k, rfl⟩
          · simp at ht
          · rw [List.concat_eq_append] at *
            simp only [List.getLast?_append, List.getLast?_singleton, Option.some_or, List.dropLast_concat] at ht ⊢
            by_cases h4 : 2 ≤ (row' ++ [k]).length ∧ k.as = []
            · rw [if_pos h4]
              have hr : (pre' ++ [r0] ++ [row' ++ [k]])[pre'.length + 1]? = some (row' ++ [k]) := by
                rw [List.getElem?_append_right (by simp)]
                simp
              have hk := h.k _ _ hr
              have h5 : RInv (pre' ++ [r0]) true (n + 1) := by
                refine ⟨by simp, ?_, fun r hr => h.len r (List.mem_append_left _ hr), fun j r hr i hi => ?_, fun hf => by cases hf⟩
                · have := h.n
                  rw [List.length_append] at this
                  omega
                · refine h.k j r ?_ i hi
                  rw [List.getElem?_append_left (List.getElem?_eq_some_iff.mp hr).1]
                  exact hr
              refine h5.put ?_ ?_
              · have : ordL row' ≤ 4 - pre'.length := ordL_le fun i hi => by
                  have := (hk i (List.mem_append_left _ hi)).1
                  omega
                have h6 := (hk k (by simp)).1
                show ordL row' + pre'.length ≤ 4
                omega
              · intro z hz
                rw [places] at hz
                rcases List.mem_append.mp hz with q | q
                · rw [placesL_map] at q
                  obtain ⟨l, hl, hzl⟩ := List.mem_flatten.mp q
                  obtain ⟨i, hi, rfl⟩ := List.mem_map.mp hl
                  exact (hk i (List.mem_append_left _ hi)).2 z hzl
                · have e := List.mem_singleton.mp q
                  refine (hk k (by simp)).2 z ?_
                  rw [e]
                  cases k with
                  | mk as a =>
                    rw [places]
                    simp [Kd.a]
            · rw [if_neg h4] at ht
              cases ht
    · rw [if_neg h2]
      refine h.put ?_ ?_
      · show ordL [] + _ ≤ 4
        have := h.n
        rw [List.length_append] at this
        have e : [row].length = 1 := rfl
        rw [ordL]
        omega
      · intro z hz
        rw [places, placesL] at hz
        rw [List.mem_singleton.mp hz]
        exact hs
end KP
/-! KP7: the loops over the signs of a text, by data. -/
namespace KP
open PySem L2 FP
variable [FP.Tabl]
theorem ne_str {a b : Str} {Q : D → Prop} (q : Q (.bl (!decide (a = b)))) : rdNe (.str a) (.str b) Q := q
/-- between the signs -/
def LI (z : Str) (m : Nat) (ρ : FP.Env) : Prop := ∃ (pre rest : List Nat) (found : List Str) (o : Sl), z.cps.toList = pre ++ rest ∧ m = rest.length ∧ ρ = [Sl.d (.str z), Sl.own (found.map .str), Sl.d (.int (pre.length : Int)), o] ∧ Lex z found rest ∧ found.length ≤ pre.length
theorem LI.start (z : Str) (o : Sl) : LI z z.cps.toList.length [Sl.d (.str z), Sl.own [], Sl.d (.int 0), o] := ⟨[], _, [], o, rfl, rfl, rfl, Lex.start z, Nat.le_refl _⟩
end KP
/-! KP8: what is told of plain kinds; what is read. -/
namespace KP
open PySem L2 FP
end KP
/-! KP9: readings of kinds; facts of parts and signed atoms. -/
namespace KP
open PySem L2 FP
variable [FP.Tabl]
/-! ### shaped data -/
theorem sh_str {n : Nat} {z : Str} (h : PyData.strOk z = true) : shD n (.str z) = true := by rw [shD]; exact h
theorem sh_lst {n : Nat} {xs : List D} (h : shDs n xs = true) : shD (n + 1) (.lst xs) = true := by rw [shD]; exact h
theorem sh_nil {n : Nat} : shDs n [] = true := by rw [shDs]
theorem sh_cons {n : Nat} {x : D} {xs : List D} (h : shD n x = true) (h' : shDs n xs = true) : shDs n (x :: xs) = true := by
  rw [shDs, h, h']
  rfl
/-! ### parts, signed atoms -/
mutual
theorem signed_mem : ∀ (k : Kd) (b : Bool) (z : Str), z ∈ signed k b ∨ z ∈ signed k (!b) ↔ z ∈ places k
  | .mk as a, b, z => by
    have h := signedL_mem as (!b) z
    rw [signed, signed, places, Bool.not_not]
    rw [Bool.not_not] at h
    simp only [List.mem_append, List.mem_singleton]
    rw [← h]
    cases b with
    | true =>
      simp only [Bool.not_true, if_true, Bool.false_eq_true, if_false, List.mem_singleton, List.not_mem_nil]
      constructor
      · rintro ((h | h) | (h | h))
        · exact .inr h
        · exact .inl (.inl h)
        · exact h.elim
        · exact .inl (.inr h)
      · rintro ((h | h) | h)
        · exact .inl (.inr h)
        · exact .inr (.inr h)
        · exact .inl (.inl h)
    | false =>
      simp only [Bool.not_false, if_true, Bool.false_eq_true, if_false, List.mem_singleton, List.not_mem_nil]
      constructor
      · rintro ((h | h) | (h | h))
        · exact h.elim
        · exact .inl (.inl h)
        · exact .inr h
        · exact .inl (.inr h)
      · rintro ((h | h) | h)
        · exact .inl (.inr h)
        · exact .inr (.inr h)
        · exact .inr (.inl h)
theorem signedL_mem : ∀ (ks : List Kd) (b : Bool) (z : Str), z ∈ signedL ks b ∨ z ∈ signedL ks (!b) ↔ z ∈ placesL ks
  | [], b, z => by simp [signedL, placesL]
  | k :: r, b, z => by
    have h1 := signed_mem k b z
    have h2 := signedL_mem r b z
    rw [signedL, signedL, placesL]
    simp only [List.mem_append]
    rw [← h1, ← h2]
    constructor
    · rintro ((h | h) | (h | h))
      · exact .inl (.inl h)
      · exact .inr (.inl h)
      · exact .inl (.inr h)
      · exact .inr (.inr h)
    · rintro ((h | h) | (h | h))
      · exact .inl (.inl h)
      · exact .inr (.inl h)
      · exact .inl (.inr h)
      · exact .inr (.inr h)
end
theorem atoms_places (k : Kd) : sortU (signed k true ++ signed k false) = sortU (places k) := sortU_congr fun z => by
  rw [List.mem_append]
  exact signed_mem k true z
def f_law : List D → M D := fun ds Q _ => match ds with
  | [.fz xs] => (∃ ns : List Int, xs = ns.map D.int ∧ ns.length ≤ 63) ∧ Q (.bl true)
  | _ => False
end KP
/-! KP10: parts of parts; readings of rows of texts. -/
namespace KP
open PySem L2 FP
end KP
/-! KP11: kinds changed: one kind in the place of an atom, other atoms; what is too large. -/
namespace KP
open PySem L2 FP
variable [FP.Tabl]
/-! ### a kind in the place of an atom -/
mutual
def put (z : Str) (j : Kd) : Kd → Kd
  | .mk as a => if a = z then .mk (putL z j as ++ j.as) j.a else .mk (putL z j as) a
def putL (z : Str) (j : Kd) : List Kd → List Kd
  | [] => []
  | k :: r => put z j k :: putL z j r
end
/-! ### other atoms -/
mutual
def ren (m : Str → Str) : Kd → Kd
  | .mk as a => .mk (renL m as) (m a)
def renL (m : Str → Str) : List Kd → List Kd
  | [] => []
  | k :: r => ren m k :: renL m r
end
mutual
theorem places_ren (m : Str → Str) : ∀ k, places (ren m k) = (places k).map m
  | .mk as a => by
    rw [ren, places, places, placesL_ren m as, List.map_append]
    rfl
theorem placesL_ren (m : Str → Str) : ∀ ks, placesL (renL m ks) = (placesL ks).map m
  | [] => rfl
  | k :: r => by
    rw [renL, placesL, placesL, places_ren m k, placesL_ren m r, List.map_append]
end
/-! ### sizes -/
theorem ordL_app : ∀ xs ys : List Kd, ordL (xs ++ ys) = max (ordL xs) (ordL ys)
  | [], ys => by rw [List.nil_append, ordL]; omega
  | x :: xs, ys => by
    rw [List.cons_append, ordL, ordL, ordL_app xs ys]
    omega
/-! ### what is made, or is too large -/
def mapS (kvs : List (Str × Str)) (z : Str) : Str := ((kvs.find? fun p => decide (p.1 = z)).map (·.2)).getD z
/-! ### the law's own helpers -/
theorem Good.drop {as : List Kd} {a : Str} (g : Good (.mk as a)) (n : Nat) : Good (.mk (as.drop n) a) := by
  have e := List.take_append_drop n as
  have h1 : placesL as = placesL (as.take n) ++ placesL (as.drop n) := by rw [← placesL_app, e]
  have h2 : ordL as = max (ordL (as.take n)) (ordL (as.drop n)) := by rw [← ordL_app, e]
  refine ⟨fun z hz => g.w z ?_, ?_, ?_⟩
  · rw [places] at hz ⊢
    rcases List.mem_append.mp hz with q | q
    · exact List.mem_append_left _ (by rw [h1]; exact List.mem_append_right _ q)
    · exact List.mem_append_right _ q
  · have := g.p
    rw [places, List.length_append, h1, List.length_append] at this
    rw [places, List.length_append]
    omega
  · have := g.o
    rw [ord, h2] at this
    rw [ord]
    omega
end KP
/-! KP12: readings of operators and methods of kinds; drawn dicts. -/
namespace KP
open PySem L2 FP
end KP
/-! KP13: the text of a kind is read as this kind. -/
namespace KP
open PySem L2 FP
variable [FP.Tabl]
/-! ### the signs of a kind -/
mutual
def sigs : Kd → List Str
  | .mk as a => sigsL as ++ [a]
def sigsL : List Kd → List Str
  | [] => []
  | k :: r => (if k.as.isEmpty then sigs k else ("(" : Str) :: (sigs k ++ [(")" : Str)])) ++ ((" -> " : Str) :: sigsL r)
end
end KP
/-! KP14: the text of a kind is its signs. -/
namespace KP
open PySem L2 FP
variable [FP.Tabl]
def flat (ss : List Str) : List Nat := (ss.map fun s => s.cps.toList).flatten
theorem flat_one (s : Str) : flat [s] = s.cps.toList := by
  unfold flat
  simp
/-! ### the signs of a kind stand apart -/
end KP
/-! KP15: kinds grown step by step (k09). -/
namespace KP
open PySem L2 FP
variable [FP.Tabl]
theorem Kd.places_eq (i : Kd) : places i = placesL i.as ++ [i.a] := by cases i with | mk bs b => rw [places]; rfl
end KP
/-! KP16: kinds in the place of atoms, one behind the other; names there and back. -/
namespace KP
open PySem L2 FP
variable [FP.Tabl]
/-! ### names there and back -/
theorem mapS_mem {kvs : List (Str × Str)} (hn : (kvs.map (·.1)).Nodup) {p : Str × Str} (hp : p ∈ kvs) : mapS kvs p.1 = p.2 := by
  unfold mapS
  have h1 : (kvs.find? fun q => decide (q.1 = p.1)).isSome = true := List.find?_isSome.mpr ⟨p, hp, decide_eq_true rfl⟩
  obtain ⟨q, hq⟩ := Option.isSome_iff_exists.mp h1
  rw [hq]
  have h2 := List.mem_of_find?_eq_some hq
  have h3 : q.1 = p.1 := by simpa using List.find?_some hq
  have h4 : q = p := by
    have inj : ∀ (l : List (Str × Str)), (l.map (·.1)).Nodup → q ∈ l → p ∈ l → q = p := by
      intro l
      induction l with
      | nil => intro _ h; cases h
      | cons x l ih =>
        intro hn hq hp
        rw [List.map_cons, List.nodup_cons] at hn
        rcases List.mem_cons.mp hq with e | hq
        · rcases List.mem_cons.mp hp with e' | hp
          · rw [e, e']
          · exact absurd (List.mem_map.mpr ⟨p, hp, by rw [← h3, e]⟩) hn.1
        · rcases List.mem_cons.mp hp with e' | hp
          · exact absurd (List.mem_map.mpr ⟨q, hq, by rw [h3, e']⟩) hn.1
          · exact ih hn.2 hq hp
    exact inj kvs hn h2 hp
  show q.2 = p.2
  rw [h4]
end KP
/-! KP17: promises of the law k06. -/
namespace KP
open PySem L2 FP
variable [FP.Tabl]
/-- a dict from a kind's atoms to other words -/
structure Names (k : Kd) (kvs : List (Str × Str)) : Prop where
  keys : kvs.map (·.1) = sortU (signed k true ++ signed k false)
  nd : (kvs.map (·.2)).Nodup
  w : ∀ p ∈ kvs, isWordS p.2 = true
theorem Names.ndk {k : Kd} {kvs : List (Str × Str)} (h : Names k kvs) : (kvs.map (·.1)).Nodup := by rw [h.keys]; exact sortU_nodup _
theorem Names.mem {k : Kd} {kvs : List (Str × Str)} (h : Names k kvs) {z : Str} : z ∈ kvs.map (·.1) ↔ z ∈ places k := by rw [h.keys, atoms_places, sortU_mem]
theorem map_keys {kvs : List (Str × Str)} (h : (kvs.map (·.1)).Nodup) : (kvs.map (·.1)).map (mapS kvs) = kvs.map (·.2) := by
  rw [List.map_map]
  exact List.map_congr_left fun p hp => mapS_mem h hp
theorem nodup_len_le {α : Type} [DecidableEq α] : ∀ {xs ys : List α}, xs.Nodup → (∀ x ∈ xs, x ∈ ys) → xs.length ≤ ys.length
  | [], _, _, _ => Nat.zero_le _
  | x :: xs, ys, hn, h => by
    rw [List.nodup_cons] at hn
    have hx := h x List.mem_cons_self
    have h2 : ∀ y ∈ xs, y ∈ ys.erase x := fun y hy => by
      have ne : y ≠ x := fun q => hn.1 (by rw [← q]; exact hy)
      exact (List.mem_erase_of_ne ne).mpr (h y (List.mem_cons_of_mem _ hy))
    have ih := nodup_len_le hn.2 h2
    have e := List.length_erase_of_mem hx
    have pos : 0 < ys.length := List.length_pos_of_mem hx
    rw [List.length_cons]
    omega
/-- the atoms behind the change are the new words -/
theorem Names.new {k : Kd} {kvs : List (Str × Str)} (h : Names k kvs) : (∀ z ∈ sortU (signed (ren (mapS kvs) k) true ++ signed (ren (mapS kvs) k) false), z ∈ kvs.map (·.2)) ∧ kvs.length = (sortU (signed (ren (mapS kvs) k) true ++ signed (ren (mapS kvs) k) false)).length := by
  have hm : ∀ z, z ∈ sortU (signed (ren (mapS kvs) k) true ++ signed (ren (mapS kvs) k) false) ↔ z ∈ kvs.map (·.2) := fun z => by
    rw [atoms_places, sortU_mem, places_ren, ← map_keys h.ndk, List.mem_map, List.mem_map]
    constructor
    · rintro ⟨x, hx, rfl⟩
      exact ⟨x, h.mem.mpr hx, rfl⟩
    · rintro ⟨x, hx, rfl⟩
      exact ⟨x, h.mem.mp hx, rfl⟩
  refine ⟨fun z hz => (hm z).mp hz, ?_⟩
  have h1 := nodup_len_le (sortU_nodup (signed (ren (mapS kvs) k) true ++ signed (ren (mapS kvs) k) false)) fun z hz => (hm z).mp hz
  have h2 := nodup_len_le h.nd fun z hz => (hm z).mpr hz
  rw [List.length_map] at h1 h2
  omega
/-! ### sizes -/
end KP
namespace KP
open PySem L2 FP
end KP
/-! KP18: a text is read exactly if it is the text of a kind: both readers, with no program in sight. -/
namespace KP
open PySem L2 FP
variable [FP.Tabl]
/-! ### signs -/
/-- the signs of a kind as an argument -/
def item (k : Kd) : List Str := if k.as.isEmpty then sigs k else ("(" : Str) :: (sigs k ++ [(")" : Str)])
theorem sigsL_cons (k : Kd) (r : List Kd) : sigsL (k :: r) = item k ++ ((" -> " : Str) :: sigsL r) := by
  rw [sigsL]
  rfl
theorem sigsL_app : ∀ xs ys : List Kd, sigsL (xs ++ ys) = sigsL xs ++ sigsL ys
  | [], ys => by rw [List.nil_append, sigsL, List.nil_append]
  | k :: r, ys => by rw [List.cons_append, sigsL_cons, sigsL_cons, sigsL_app r ys, List.append_assoc, List.cons_append]
theorem sigsL_one (k : Kd) : sigsL [k] = item k ++ [(" -> " : Str)] := by rw [sigsL_cons, sigsL]
theorem sigs_eq (k : Kd) : sigs k = sigsL k.as ++ [k.a] := by
  cases k with
  | mk as a => rw [sigs]; rfl
theorem item_plain {k : Kd} (h : k.as = []) : item k = [k.a] := by
  unfold item
  rw [h, sigs_eq, h, sigsL]
  rfl
theorem item_par {k : Kd} (h : k.as ≠ []) : item k = ("(" : Str) :: (sigs k ++ [(")" : Str)]) := by
  unfold item
  rw [if_neg fun q => h (List.isEmpty_iff.mp q)]
/-! ### the package's reader -/
def pres (pre : Rows) : List Str := (pre.map fun p => sigsL p ++ [("(" : Str)]).flatten
theorem pres_snoc (pre : Rows) (row : List Kd) : pres (pre ++ [row]) = pres pre ++ (sigsL row ++ [("(" : Str)]) := by
  unfold pres
  rw [List.map_append, List.flatten_append]
  simp
def RdOk (rows : Rows) : Prop := ∀ row ∈ rows, ∀ k ∈ row, ∀ z ∈ places k, isWordS z = true
def St (done : List Str) (pre : Rows) (row : List Kd) : Bool → Prop
  | true => done = pres pre ++ sigsL row
  | false => ∃ (r : List Kd) (k : Kd), row = r ++ [k] ∧ done = pres pre ++ (sigsL r ++ item k)
theorem RdOk.more {pre : Rows} {row : List Kd} (h : RdOk (pre ++ [row])) {k : Kd} (hk : ∀ z ∈ places k, isWordS z = true) : RdOk (pre ++ [row ++ [k]]) := fun r hr j hj => by
  rcases List.mem_append.mp hr with q | q
  · exact h r (List.mem_append_left _ q) j hj
  · rw [List.mem_singleton.mp q] at hj
    rcases List.mem_append.mp hj with q2 | q2
    · exact h row (List.mem_append_right _ (List.mem_singleton.mpr rfl)) j q2
    · rw [List.mem_singleton.mp q2]
      exact hk
theorem St.step {done : List Str} {pre : Rows} {row : List Kd} {w : Bool} {s : Str} (h : St done pre row w) (hr : RdOk (pre ++ [row])) (ht : (take1 pre row w s).1 = true) :
    ∃ (pre' : Rows) (row' : List Kd), (take1 pre row w s).2.1 = pre' ++ [row'] ∧ St (done ++ [s]) pre' row' (take1 pre row w s).2.2 ∧ RdOk (pre' ++ [row']) := by
  unfold take1 at ht ⊢
  by_cases h1 : s = "("
  · subst h1
    rw [if_pos rfl] at ht ⊢
    have hw : w = true := by
      have := Bool.and_eq_true_iff.mp ht
      exact this.1
    subst hw
    refine ⟨pre ++ [row], [], rfl, ?_, fun r hr' j hj => ?_⟩
    · show done ++ [("(" : Str)] = pres (pre ++ [row]) ++ sigsL []
      have h' : done = pres pre ++ sigsL row := h
      rw [pres_snoc, sigsL, List.append_nil, h', List.append_assoc]
    · rcases List.mem_append.mp hr' with q | q
      · exact hr r q j hj
      · rw [List.mem_singleton.mp q] at hj
        cases hj
  rw [if_neg h1] at ht ⊢
  by_cases h2 : s = " -> " ∨ s = ")"
  · rw [if_pos h2] at ht ⊢
    unfold takeEnd at ht ⊢
    cases w with
    | true => cases ht
    | false =>
      rw [if_neg Bool.false_ne_true] at ht ⊢
      obtain ⟨r, k, rfl, hd⟩ := h
      by_cases h3 : s = " -> "
      · subst h3
        rw [if_pos rfl] at ht ⊢
        refine ⟨pre, r ++ [k], rfl, ?_, hr⟩
        show done ++ [(" -> " : Str)] = pres pre ++ sigsL (r ++ [k])
        rw [hd, sigsL_app, sigsL_one]
        simp [List.append_assoc]
      · have h4 : s = ")" := h2.resolve_left h3
        subst h4
        rw [if_neg h3] at ht ⊢
        rw [List.getLast?_concat] at ht ⊢
        cases hp : pre.getLast? with
        | none =>
          rw [hp] at ht
          cases ht
        | some r0 =>
          rw [hp] at ht
          dsimp only at ht ⊢
          split at ht
          case isFalse => cases ht
          rename_i hc
          rw [if_pos hc]
          have hpre : pre = pre.dropLast ++ [r0] := by
            cases pre with
            | nil => cases hp
            | cons x xs =>
              have e := List.dropLast_concat_getLast (l := x :: xs) (List.cons_ne_nil _ _)
              rw [List.getLast?_eq_some_getLast (List.cons_ne_nil _ _)] at hp
              rw [Option.some.inj hp] at e
              exact e.symm
          generalize pre.dropLast = pp at hpre ⊢
          subst hpre
          have hrr : r ≠ [] := fun q => by
            subst q
            have := hc.1
            simp at this
          refine ⟨pp, r0 ++ [.mk (r ++ [k]).dropLast k.a], rfl, ⟨r0, .mk (r ++ [k]).dropLast k.a, rfl, ?_⟩, ?_⟩
          · rw [List.dropLast_concat, item_par (k := .mk r k.a) hrr, hd, pres_snoc, item_plain hc.2, sigs_eq]
            simp [List.append_assoc]
            rfl
          · rw [List.dropLast_concat]
            refine RdOk.more (fun q hq => hr q (List.mem_append_left _ hq)) fun z hz => ?_
            rw [places] at hz
            have hrow : ∀ j ∈ r ++ [k], ∀ z ∈ places j, isWordS z = true := hr _ (List.mem_append_right _ (List.mem_singleton.mpr rfl))
            rcases List.mem_append.mp hz with q | q
            · rw [placesL_map] at q
              obtain ⟨x, hx1, hx2⟩ := List.mem_flatten.mp q
              obtain ⟨j, hj1, rfl⟩ := List.mem_map.mp hx1
              exact hrow j (List.mem_append_left _ hj1) z hx2
            · rw [List.mem_singleton.mp q]
              refine hrow k (List.mem_append_right _ (List.mem_singleton.mpr rfl)) k.a ?_
              rw [k.places_eq]
              simp
  · rw [if_neg h2] at ht ⊢
    have hw := Bool.and_eq_true_iff.mp ht
    have hw1 : w = true := hw.1
    subst hw1
    have h' : done = pres pre ++ sigsL row := h
    refine ⟨pre, row ++ [.mk [] s], rfl, ⟨row, .mk [] s, rfl, ?_⟩, hr.more fun z hz => ?_⟩
    · rw [h', item_plain (k := .mk [] s) rfl, List.append_assoc]
      rfl
    · rw [places, placesL] at hz
      rw [List.mem_singleton.mp hz]
      exact hw.2
/-! ### the kind of a text -/
end KP
/-! KP19: the reader of law k04, with no program in sight. -/
namespace KP
open PySem L2 FP
variable [FP.Tabl]
abbrev Rd := List Nat → Option (Kd × List Nat)
/-! ### sound -/
/-! ### complete -/
def stops (r : List Nat) : Prop := r = [] ∨ ∃ r', r = 41 :: r'
/-! ### parentheses -/
/-! ### what the law finds due -/
end KP
/-! KP20: what the defs about texts of kinds promise (k04). -/
namespace KP
open PySem L2 FP
end KP
/-! KP21: what the defs about kinds promise of any arguments (k07). -/
namespace KP
open PySem L2 FP
variable [FP.Tabl]
def okI : D → Prop
  | .ins c _ => c = "Type"
  | d => okV d
theorem okV.i {d : D} (h : okV d) : okI d := by
  cases d with
  | ins c fs => exact h.elim
  | _ => exact h
/-! ### words and numbers -/
/-! ### dicts of any data -/
/-! ### making -/
/-! ### reading -/
/-! ### the word for an error -/
/-- the repr of a thing -/
def repS (d : D) (s : Str) : Prop := s.length ≤ 1000 ∧ ((d = .dct [] ∧ s = "{}") ∨ ∃ p, toPy d = some p ∧ p.showable = true ∧ p.hasDict = false ∧ p.depth ≤ 60 ∧ s = p.shown)
theorem repS.rd {d : D} {s : Str} (h : repS d s) {Q : D → Prop} (q : Q (.str s)) : rdReprE [d] Q := by
  obtain ⟨hl, h⟩ := h
  rcases h with ⟨rfl, rfl⟩ | ⟨p, h1, h2, h3, h4, rfl⟩
  · exact .inl ⟨rfl, q⟩
  · exact .inr ⟨p, h1, h2, h3, h4, Nat.le_trans hl (by decide), q⟩
end KP
/-! KP22: wrong arguments, as law k07 draws them. -/
namespace KP
open PySem L2 FP
variable [FP.Tabl]
/-- no word -/
structure OddP (d : D) : Prop where
  v : okV d
  w : isWordD d = false
theorem OddP.no {d : D} (h : OddP d) {a : Str} (e : d = .str a) (hw : isWordS a = true) {α : Prop} : α := by
  subst e
  have h2 : isWordS a = false := h.w
  rw [hw] at h2
  cases h2
end KP
/-! KP23: law k07's calls that are refused. -/
namespace KP
open PySem L2 FP
variable [FP.Tabl]
theorem pkN {n : Nat} (h : (Nat.blt 0 n && Nat.blt n 1073741824) = true) : 0 < n ∧ n < 1073741824 := by
  rw [Bool.and_eq_true, Nat.blt_eq, Nat.blt_eq] at h
  exact h
theorem line_lt {n : Nat} (h : Nat.blt n 16777216 = true) : n < sizeLine := Nat.blt_eq ▸ h
end KP
/-! KP24: wrong indices, operands and names, as law k07 draws them. -/
namespace KP
open PySem L2 FP
variable [FP.Tabl]
/-- a repr that is told -/
def repB (d : D) : Bool := match toPy d with
  | some p => p.showable && !p.hasDict && decide (p.depth ≤ 60) && decide (p.shown.length ≤ 1000) && PyData.strOk (("number " : Str) ++ p.shown)
  | none => false
structure RepP (d : D) (s : Str) : Prop where
  r : repS d s
  k : PyData.strOk (("number " : Str) ++ s) = true
theorem repB_of {d : D} (h : repB d = true) : ∃ s, RepP d s := by
  unfold repB at h
  cases q : toPy d with
  | none =>
    rw [q] at h
    cases h
  | some p =>
    rw [q] at h
    simp only [Bool.and_eq_true, decide_eq_true_eq, Bool.not_eq_true'] at h
    exact ⟨p.shown, ⟨⟨h.1.2, .inr ⟨p, q, h.1.1.1.1, h.1.1.1.2, h.1.1.2, rfl⟩⟩, h.2⟩⟩
/-! ### dicts made of rows of pairs -/
/-! ### wrong dicts of names -/
/-! ### calls on known kinds -/
end KP
/-! KP25: plain libraries. -/
namespace KP
open PySem L2 FP
variable [FP.Tabl]
noncomputable instance : DecidableEq Kd := fun _ _ => Classical.propDecidable _
abbrev Lib := List (Str × Kd)
def keysL (L : Lib) : List Str := L.map (·.1)
def getL (L : Lib) (z : Str) : Option Kd := (L.find? fun p => decide (p.1 = z)).map (·.2)
theorem getL_nil (z : Str) : getL [] z = none := rfl
theorem getL_cons (p : Str × Kd) (L : Lib) (z : Str) : getL (p :: L) z = if p.1 = z then some p.2 else getL L z := by
  unfold getL
  rw [List.find?_cons]
  by_cases q : p.1 = z <;> simp [q]
theorem getL_app (L M : Lib) (z : Str) : getL (L ++ M) z = (getL L z).or (getL M z) := by
  induction L with
  | nil => rfl
  | cons p r ih =>
    rw [List.cons_append, getL_cons, getL_cons, ih]
    by_cases q : p.1 = z
    · rw [if_pos q, if_pos q]
      rfl
    · rw [if_neg q, if_neg q]
theorem getL_out {L : Lib} {z : Str} : getL L z = none ↔ z ∉ keysL L := by
  induction L with
  | nil => simp [getL, keysL]
  | cons p r ih =>
    rw [getL_cons]
    by_cases q : p.1 = z
    · rw [if_pos q]
      simp [keysL, q]
    · rw [if_neg q, ih]
      simp [keysL, Ne.symm q]
theorem getL_some {L : Lib} {z : Str} {k : Kd} (h : getL L z = some k) : (z, k) ∈ L := by
  induction L with
  | nil => cases h
  | cons p r ih =>
    rw [getL_cons] at h
    by_cases q : p.1 = z
    · rw [if_pos q] at h
      cases h
      rw [← q]
      exact List.mem_cons_self
    · rw [if_neg q] at h
      exact List.mem_cons_of_mem _ (ih h)
theorem getL_of {L : Lib} (nd : (keysL L).Nodup) {z : Str} {k : Kd} (h : (z, k) ∈ L) : getL L z = some k := by
  induction L with
  | nil => cases h
  | cons p r ih =>
    have nd2 : (p.1 :: keysL r).Nodup := nd
    rw [List.nodup_cons] at nd2
    rw [getL_cons]
    rcases List.mem_cons.mp h with e | e
    · rw [← e, if_pos rfl]
    · have hm : z ∈ keysL r := List.mem_map.mpr ⟨_, e, rfl⟩
      rw [if_neg fun q => nd2.1 (by rw [q]; exact hm)]
      exact ih nd2.2 e
theorem getL_in {L : Lib} {z : Str} (h : z ∈ keysL L) : ∃ k, getL L z = some k ∧ (z, k) ∈ L := by
  cases q : getL L z with
  | none => exact absurd h (getL_out.mp q)
  | some k => exact ⟨k, rfl, getL_some q⟩
theorem key_in {L : Lib} {z : Str} {k : Kd} (h : getL L z = some k) : z ∈ keysL L := List.mem_map.mpr ⟨_, getL_some h, rfl⟩
/-- libraries with the same parts -/
def sameL (L M : Lib) : Prop := ∀ z, getL L z = getL M z
theorem sameL.keys {L M : Lib} (h : sameL L M) (z : Str) : z ∈ keysL L ↔ z ∈ keysL M := by
  constructor
  · intro m
    obtain ⟨k, hk, _⟩ := getL_in m
    rw [h z] at hk
    exact key_in hk
  · intro m
    obtain ⟨k, hk, _⟩ := getL_in m
    rw [← h z] at hk
    exact key_in hk
theorem sameL.symm {L M : Lib} (h : sameL L M) : sameL M L := fun z => (h z).symm
theorem sameL.trans {L M N : Lib} (h : sameL L M) (g : sameL M N) : sameL L N := fun z => (h z).trans (g z)
/-- a library as the package has them -/
structure LibG (L : Lib) : Prop where
  nd : (keysL L).Nodup
  w : ∀ p ∈ L, isWordS p.1 = true
  g : ∀ p ∈ L, Good p.2
theorem LibG.same {L M : Lib} (h : LibG L) (s : sameL L M) (nm : (keysL M).Nodup) : LibG M := by
  have m : ∀ p ∈ M, p ∈ L := fun p hp => by
    have e := getL_of nm (show (p.1, p.2) ∈ M from hp)
    rw [← s p.1] at e
    exact getL_some e
  exact ⟨nm, fun p hp => h.w p (m p hp), fun p hp => h.g p (m p hp)⟩
theorem LibG.nil : LibG [] := ⟨List.nodup_nil, fun _ h => absurd h List.not_mem_nil, fun _ h => absurd h List.not_mem_nil⟩
/-! ### lines, texts -/
/-! ### dicts of libraries -/
/-- a part more, or another kind of one -/
def putL1 (L : Lib) (z : Str) (k : Kd) : Lib := if z ∈ keysL L then L.map (fun p => if p.1 = z then (p.1, k) else p) else L ++ [(z, k)]
theorem get_put (L : Lib) (z : Str) (k : Kd) (y : Str) : getL (putL1 L z k) y = if y = z then some k else getL L y := by
  unfold putL1
  by_cases hz : z ∈ keysL L
  · rw [if_pos hz]
    induction L with
    | nil => cases hz
    | cons p r ih =>
      rw [List.map_cons, getL_cons, getL_cons]
      have ih2 : getL (r.map fun p => if p.1 = z then (p.1, k) else p) y = if y = z ∧ z ∈ keysL r then some k else getL r y := by
        by_cases hr : z ∈ keysL r
        · rw [ih hr]
          by_cases q : y = z <;> simp [q, hr]
        · have e : (r.map fun p => if p.1 = z then (p.1, k) else p) = r := by
            conv => rhs; rw [← List.map_id r]
            refine List.map_congr_left fun x hx => ?_
            rw [if_neg fun q => hr (List.mem_map.mpr ⟨x, hx, q⟩)]
            rfl
          rw [e, if_neg fun q => hr q.2]
      rw [ih2]
      by_cases q1 : p.1 = z
      · rw [if_pos q1]
        by_cases q2 : y = z
        · rw [if_pos (show p.1 = y by rw [q1, q2]), if_pos q2]
        · have n1 : ¬ p.1 = y := fun e => q2 (by rw [← e, q1])
          have n2 : ¬ (y = z ∧ z ∈ keysL r) := fun c => q2 c.1
          rw [if_neg n1, if_neg n2, if_neg q2, if_neg n1]
      · rw [if_neg q1]
        have hr : z ∈ keysL r := (List.mem_cons.mp (show z ∈ p.1 :: keysL r from hz)).resolve_left fun e => q1 e.symm
        by_cases q2 : y = z
        · rw [if_neg (show ¬ p.1 = y from fun e => q1 (by rw [e, q2])), if_pos ⟨q2, hr⟩, if_pos q2]
        · have n2 : ¬ (y = z ∧ z ∈ keysL r) := fun c => q2 c.1
          rw [if_neg q2, if_neg n2]
  · rw [if_neg hz, getL_app, getL_cons, getL_nil]
    by_cases q : y = z
    · subst q
      rw [getL_out.mpr hz]
      show (if y = y then some k else none) = if y = y then some k else none
      rfl
    · rw [if_neg q, if_neg (show ¬ (z, k).1 = y from Ne.symm q)]
      cases getL L y <;> rfl
theorem keys_put (L : Lib) (z : Str) (k : Kd) : keysL (putL1 L z k) = if z ∈ keysL L then keysL L else keysL L ++ [z] := by
  unfold putL1
  by_cases hz : z ∈ keysL L
  · rw [if_pos hz, if_pos hz]
    unfold keysL
    rw [List.map_map]
    refine List.map_congr_left fun p _ => ?_
    show (if p.1 = z then (p.1, k) else p).1 = p.1
    split <;> rfl
  · rw [if_neg hz, if_neg hz]
    unfold keysL
    rw [List.map_append]
    rfl
theorem nd_put {L : Lib} (nd : (keysL L).Nodup) (z : Str) (k : Kd) : (keysL (putL1 L z k)).Nodup := by
  rw [keys_put]
  split
  · exact nd
  · rename_i hz
    exact List.nodup_append.mpr ⟨nd, by simp, fun a ha b hb e => hz (by rw [List.mem_singleton.mp hb] at e; rw [← e]; exact ha)⟩
theorem LibG.put {L : Lib} (h : LibG L) {z : Str} {k : Kd} (hz : isWordS z = true) (hk : Good k) : LibG (putL1 L z k) := by
  have key : ∀ p ∈ putL1 L z k, p = (z, k) ∨ p ∈ L := fun p hp => by
    have e := getL_of (nd_put h.nd z k) (show (p.1, p.2) ∈ putL1 L z k from hp)
    rw [get_put] at e
    by_cases q : p.1 = z
    · rw [if_pos q] at e
      cases e
      rw [← q]
      exact .inl rfl
    · rw [if_neg q] at e
      exact .inr (getL_some e)
  refine ⟨nd_put h.nd z k, fun p hp => ?_, fun p hp => ?_⟩
  · rcases key p hp with e | e
    · rw [e]
      exact hz
    · exact h.w p e
  · rcases key p hp with e | e
    · rw [e]
      exact hk
    · exact h.g p e
end KP
/-! KP26: what the defs about libraries promise. -/
namespace KP
open PySem L2 FP
variable [FP.Tabl]
/-! ### plain kinds compared -/
/-! ### the package's defs -/
def noL (d : D) : Prop := isiD ["Library"] (fun _ => true) d = some false
/-! ### readings of libraries -/
end KP
/-! KP27: readings of libraries. -/
namespace KP
open PySem L2 FP
end KP
/-! KP28: what expressions about libraries come to. -/
namespace KP
open PySem L2 FP
variable [FP.Tabl]
/-! ### tuples of texts compared -/
theorem sh_strs {n : Nat} : ∀ {zs : List Str}, (∀ z ∈ zs, PyData.strOk z = true) → shDs n (zs.map D.str) = true
  | [], _ => sh_nil
  | z :: r, h => sh_cons (sh_str (h z List.mem_cons_self)) (sh_strs fun y hy => h y (List.mem_cons_of_mem _ hy))
/-! ### libraries as operands -/
end KP
/-! KP29: libraries put together: what laws ask of the plain ones. -/
namespace KP
open PySem L2 FP
/-! ### plain facts -/
/-! ### the law's own helpers -/
end KP
/-! KP30: the known libraries of the laws; drawn libraries. -/
namespace KP
open PySem L2 FP
variable [FP.Tabl]
def qa : Kd := .mk [] "a"
def qb : Kd := .mk [] "b"
def qc : Kd := .mk [] "c"
def qn : Kd := .mk [] "n"
def q1 : Lib := [("z", qn), ("s", .mk [qn] "n")]
def q2 : Lib := [("f", .mk [qa] "b"), ("g", .mk [qb] "c")]
def q3 : Lib := [("k", .mk [.mk [qa] "b"] "c"), ("x", qb)]
def q4 : Lib := [("k", .mk [.mk [qa] "b"] "a"), ("g", .mk [qa] "b"), ("y", qa)]
def q5 : Lib := [("p", .mk [qa, qb] "c"), ("y", qa), ("w", qb), ("h", .mk [qc] "a")]
/-- without a part -/
def dropL (L : Lib) (z : Str) : Lib := L.filter fun p => decide (p.1 ≠ z)
end KP
/-! KP31: libraries put together: the plain laws; other names of parts. -/
namespace KP
open PySem L2 FP
/-! ### other names -/
end KP
/-! KP32: libraries changed: what the defs promise; plain laws. -/
namespace KP
open PySem L2 FP
/-! ### any values asked for among the parts -/
/-! ### loops with a first bad one -/
end KP
/-! KP33: other names of parts and atoms: what the defs promise. -/
namespace KP
open PySem L2 FP
end KP
/-! KP34: lines of libraries read. -/
namespace KP
open PySem L2 FP
end KP
/-! KP35: libraries changed step by step: plain laws and what the law's defs promise. -/
namespace KP
open PySem L2 FP
/-! ### dicts of names -/
/-! ### what the law's defs promise -/
/-! ### dicts made by the law -/
/-! ### the law itself -/
end KP
/-! KP36: the lines of a library taken apart. -/
namespace KP
open PySem L2 FP
end KP
/-! KP37: spoilt lines tell no part. -/
namespace KP
open PySem L2 FP
end KP
/-! KP38: a line's separator exchanged; the law's spoilt lines. -/
namespace KP
open PySem L2 FP
end KP
/-! KP73: law k14: the word for an error of a library; wrong arguments. -/
namespace KP
open PySem L2 FP
/-! ### wrong parts -/
end KP
/-! KP74: law k14: what it draws. -/
namespace KP
open PySem L2 FP
variable [FP.Tabl]
/-! ### a library's own names -/
abbrev NAM : List Str := ["f", "g", "h", "k", "z", "s", "y", "w", "p", "x"]
abbrev ATS : List Str := ["a", "b", "c", "n"]
structure Tame (L : Lib) : Prop where
  n : ∀ p ∈ L, p.1 ∈ NAM
  a : ∀ p ∈ L, ∀ z ∈ places p.2, z ∈ ATS
theorem Tame.nil : Tame [] := ⟨fun _ h => absurd h List.not_mem_nil, fun _ h => absurd h List.not_mem_nil⟩
theorem put_mem {L : Lib} {z : Str} {k : Kd} {p : Str × Kd} (h : p ∈ putL1 L z k) : p = (z, k) ∨ p ∈ L := by
  unfold putL1 at h
  split at h
  · obtain ⟨q, hq, rfl⟩ := List.mem_map.mp h
    by_cases e : q.1 = z
    · rw [if_pos e, e]
      exact .inl rfl
    · rw [if_neg e]
      exact .inr hq
  · rcases List.mem_append.mp h with q | q
    · exact .inr q
    · exact .inl (List.mem_singleton.mp q)
theorem Tame.put {L : Lib} (h : Tame L) {z : Str} {k : Kd} (hz : z ∈ NAM) (hk : ∀ a ∈ places k, a ∈ ATS) : Tame (putL1 L z k) := by
  refine ⟨fun p hp => ?_, fun p hp => ?_⟩
  · rcases put_mem hp with rfl | q
    · exact hz
    · exact h.n p q
  · rcases put_mem hp with rfl | q
    · exact hk
    · exact h.a p q
theorem Tame.drop {L : Lib} (h : Tame L) (z : Str) : Tame (dropL L z) := ⟨fun p hp => h.n p (List.mem_filter.mp hp).1, fun p hp => h.a p (List.mem_filter.mp hp).1⟩
/-! ### wrong values -/
/-! ### other names -/
/-! ### atoms -/
end KP
/-! KP75: law k14: what its expressions come to. -/
namespace KP
open PySem L2 FP
variable [FP.Tabl]
section
variable {ρ : FP.Env} {f fa fb fe : DTE} {w : DTI} {zs : List Str} {L M' : Lib}
theorem evP_pick {ga : DTA} {ds : List D} {P : D → Prop} (h0 : Ev (dVar 0) ρ .tok) (h : EvA ga ρ ds) (hl : (Nat.blt 0 ds.length && Nat.blt ds.length 1073741824) = true) (hs : ds.length ≤ sizeLine) (hp : ∀ d ∈ ds, P d) : EvP (dCall f_pick 2 (dCons (dVar 0) (dCons (dLst ga) dNil))) ρ P := fun Q E q => h0 _ E (h _ E ⟨hs, rfl, pkN hl, fun d hd => q d (hp d hd)⟩)
theorem env_is {g : DTS} {N : Nd} {ρ ρ' : FP.Env} (h : ρ = ρ') (q : g N ρ') : g N ρ := h ▸ q
theorem RepP.str {d : D} {s : Str} (h : RepP d s) : PyData.strOk s = true := by
  have e := h.k
  rw [strOk_iff] at e ⊢
  exact fun c hc => e c (by rw [str_app]; exact List.mem_append_right _ hc)
end
/-! ### a full library -/
end KP
namespace K00
open PySem L2 FP
variable [FP.Tabl]
def topS (i : Nat) : Stmt := PySem.Challenge.pw_fromparts_k00_errors_and_what_they_keep.main.body.getD i (.Pass ⟨0, 0, 0, 0⟩)
abbrev s_ParseError___init__ : Stmt := inClass (topS 10) 0
abbrev s_UnknownWord___init__ : Stmt := inClass (topS 11) 0
abbrev s_NoProgram___init__ : Stmt := inClass (topS 12) 0
abbrev s_NothingToUndo___init__ : Stmt := inClass (topS 13) 0
abbrev s_TooMany___init__ : Stmt := inClass (topS 14) 0
abbrev s_Refused___init__ : Stmt := inClass (topS 15) 0
abbrev s_InvalidNumber___init__ : Stmt := inClass (topS 16) 0
abbrev s__law_dice : Stmt := topS 18
abbrev s__law_roll : Stmt := topS 19
abbrev s__law_pick : Stmt := topS 20
abbrev s__law_kinds : Stmt := topS 21
abbrev s__law_others : Stmt := topS 22
abbrev s__law_right : Stmt := topS 23
abbrev s_law : Stmt := topS 24
theorem sc__law_dice : FnScope ["_law_script", "_law_spot", "_law_cell", "_law_great", "_law_blend"] ["_law_script", "_law_spot"] (defScope s__law_dice) := ⟨rfl, rfl, rfl, by decide +kernel, rfl, by decide +kernel, by decide +kernel⟩
theorem sc__law_roll : FnScope ["_law_dice_here", "_law_total", "_law_one", "_law_two", "_law_found"] ["_law_dice_here", "_law_total"] (defScope s__law_roll) := ⟨rfl, rfl, rfl, by decide +kernel, rfl, by decide +kernel, by decide +kernel⟩
theorem sc__law_pick : FnScope ["_law_dice_here", "_law_items"] ["_law_dice_here", "_law_items"] (defScope s__law_pick) := ⟨rfl, rfl, rfl, by decide +kernel, rfl, by decide +kernel, by decide +kernel⟩
theorem sc__law_kinds : FnScope ["_law_error", "_law_told", "_law_one"] ["_law_error"] (defScope s__law_kinds) := ⟨rfl, rfl, rfl, by decide +kernel, rfl, by decide +kernel, by decide +kernel⟩
theorem sc__law_others : FnScope ["_law_error", "_law_told", "_law_one"] ["_law_error"] (defScope s__law_others) := ⟨rfl, rfl, rfl, by decide +kernel, rfl, by decide +kernel, by decide +kernel⟩
theorem sc__law_right : FnScope ["_law_dice_here", "_law_thing", "_law_words", "_law_base", "_law_due", "_law_others_here", "_law_at", "_law_kept", "_law_one"] ["_law_dice_here"] (defScope s__law_right) := ⟨rfl, rfl, rfl, by decide +kernel, rfl, by decide +kernel, by decide +kernel⟩
theorem sc_law : FnScope ["_law_script", "_law_spot", "_law_dice_here", "_law_turn"] ["_law_script"] (defScope s_law) := ⟨rfl, rfl, rfl, by decide +kernel, rfl, by decide +kernel, by decide +kernel⟩
structure Ads where
  ax_BuildError : Addr
  ax_InvalidWord : Addr
  ax_InvalidType : Addr
  ax_InvalidLibrary : Addr
  ax_InvalidProgram : Addr
  ax_InvalidQuestion : Addr
  ax_InvalidRoom : Addr
  ax_InvalidDraft : Addr
  ax_InvalidOperation : Addr
  ax_ParseError : Addr
  ax_UnknownWord : Addr
  ax_NoProgram : Addr
  ax_NothingToUndo : Addr
  ax_TooMany : Addr
  ax_Refused : Addr
  ax_InvalidNumber : Addr
structure All (mg : Gm) (Z : Ads) : Prop where
  n_ArithmeticError : mg.mg "ArithmeticError" = none
  n_IndexError : mg.mg "IndexError" = none
  n_KeyError : mg.mg "KeyError" = none
  n_LookupError : mg.mg "LookupError" = none
  n_OverflowError : mg.mg "OverflowError" = none
  n_RuntimeError : mg.mg "RuntimeError" = none
  n_ValueError : mg.mg "ValueError" = none
  n_abs : mg.mg "abs" = none
  n_int : mg.mg "int" = none
  n_isinstance : mg.mg "isinstance" = none
  n_len : mg.mg "len" = none
  n_max : mg.mg "max" = none
  n_min : mg.mg "min" = none
  n_range : mg.mg "range" = none
  n_repr : mg.mg "repr" = none
  n_str : mg.mg "str" = none
  d__law_dice : ∃ fa fd, mg.mg "_law_dice" = some (.ref fa) ∧ Fun mg.K "_law_dice" "_law_dice" s__law_dice fa fd
  d__law_roll : ∃ fa fd, mg.mg "_law_roll" = some (.ref fa) ∧ Fun mg.K "_law_roll" "_law_roll" s__law_roll fa fd
  d__law_pick : ∃ fa fd, mg.mg "_law_pick" = some (.ref fa) ∧ Fun mg.K "_law_pick" "_law_pick" s__law_pick fa fd
  d__law_kinds : ∃ fa fd, mg.mg "_law_kinds" = some (.ref fa) ∧ Fun mg.K "_law_kinds" "_law_kinds" s__law_kinds fa fd
  d__law_others : ∃ fa fd, mg.mg "_law_others" = some (.ref fa) ∧ Fun mg.K "_law_others" "_law_others" s__law_others fa fd
  d__law_right : ∃ fa fd, mg.mg "_law_right" = some (.ref fa) ∧ Fun mg.K "_law_right" "_law_right" s__law_right fa fd
  d_law : ∃ fa fd, mg.mg "law" = some (.ref fa) ∧ Fun mg.K "law" "law" s_law fa fd
  ex_BuildError : ExcF mg "BuildError" Z.ax_BuildError veBm "ValueError.__new__"
  ex_InvalidWord : ExcF mg "InvalidWord" Z.ax_InvalidWord veBm "ValueError.__new__"
  ex_InvalidType : ExcF mg "InvalidType" Z.ax_InvalidType veBm "ValueError.__new__"
  ex_InvalidLibrary : ExcF mg "InvalidLibrary" Z.ax_InvalidLibrary veBm "ValueError.__new__"
  ex_InvalidProgram : ExcF mg "InvalidProgram" Z.ax_InvalidProgram veBm "ValueError.__new__"
  ex_InvalidQuestion : ExcF mg "InvalidQuestion" Z.ax_InvalidQuestion veBm "ValueError.__new__"
  ex_InvalidRoom : ExcF mg "InvalidRoom" Z.ax_InvalidRoom veBm "ValueError.__new__"
  ex_InvalidDraft : ExcF mg "InvalidDraft" Z.ax_InvalidDraft veBm "ValueError.__new__"
  ex_InvalidOperation : ExcF mg "InvalidOperation" Z.ax_InvalidOperation veBm "ValueError.__new__"
  xc_ParseError : XcF mg "ParseError" Z.ax_ParseError "line" veBm "ValueError.__new__"
  xc_UnknownWord : XcF mg "UnknownWord" Z.ax_UnknownWord "asked" keBm "LookupError.__new__"
  xc_NoProgram : XcF mg "NoProgram" Z.ax_NoProgram "wanted" lkBm "LookupError.__new__"
  xc_NothingToUndo : XcF mg "NothingToUndo" Z.ax_NothingToUndo "amount" ixBm "IndexError.__new__"
  xc_TooMany : XcF mg "TooMany" Z.ax_TooMany "limit" ovBm "OverflowError.__new__"
  xc_Refused : XcF mg "Refused" Z.ax_Refused "cause" arBm "ArithmeticError.__new__"
  xc_InvalidNumber : XcF mg "InvalidNumber" Z.ax_InvalidNumber "number" rtBm "RuntimeError.__new__"
  exk_BuildError : ExK mg.K Z.ax_BuildError
  exk_InvalidWord : ExK mg.K Z.ax_InvalidWord
  exk_InvalidType : ExK mg.K Z.ax_InvalidType
  exk_InvalidLibrary : ExK mg.K Z.ax_InvalidLibrary
  exk_InvalidProgram : ExK mg.K Z.ax_InvalidProgram
  exk_InvalidQuestion : ExK mg.K Z.ax_InvalidQuestion
  exk_InvalidRoom : ExK mg.K Z.ax_InvalidRoom
  exk_InvalidDraft : ExK mg.K Z.ax_InvalidDraft
  exk_InvalidOperation : ExK mg.K Z.ax_InvalidOperation
  exk_ParseError : ExK mg.K Z.ax_ParseError
  exk_UnknownWord : ExK mg.K Z.ax_UnknownWord
  exk_NoProgram : ExK mg.K Z.ax_NoProgram
  exk_NothingToUndo : ExK mg.K Z.ax_NothingToUndo
  exk_TooMany : ExK mg.K Z.ax_TooMany
  exk_Refused : ExK mg.K Z.ax_Refused
  exk_InvalidNumber : ExK mg.K Z.ax_InvalidNumber
  iv_InvalidWord : IsvF mg (.ref Z.ax_InvalidWord) (.ref Z.ax_InvalidWord) ["BuildError", "InvalidWord", "InvalidType", "InvalidLibrary", "InvalidProgram", "InvalidQuestion", "InvalidRoom", "InvalidDraft", "InvalidOperation", "ParseError", "UnknownWord", "NoProgram", "NothingToUndo", "TooMany", "Refused", "InvalidNumber"] (fun y => decide (y ∈ (["InvalidWord"] : List Str)))
  iv_InvalidType : IsvF mg (.ref Z.ax_InvalidType) (.ref Z.ax_InvalidType) ["BuildError", "InvalidWord", "InvalidType", "InvalidLibrary", "InvalidProgram", "InvalidQuestion", "InvalidRoom", "InvalidDraft", "InvalidOperation", "ParseError", "UnknownWord", "NoProgram", "NothingToUndo", "TooMany", "Refused", "InvalidNumber"] (fun y => decide (y ∈ (["InvalidType"] : List Str)))
  iv_InvalidLibrary : IsvF mg (.ref Z.ax_InvalidLibrary) (.ref Z.ax_InvalidLibrary) ["BuildError", "InvalidWord", "InvalidType", "InvalidLibrary", "InvalidProgram", "InvalidQuestion", "InvalidRoom", "InvalidDraft", "InvalidOperation", "ParseError", "UnknownWord", "NoProgram", "NothingToUndo", "TooMany", "Refused", "InvalidNumber"] (fun y => decide (y ∈ (["InvalidLibrary"] : List Str)))
  iv_InvalidProgram : IsvF mg (.ref Z.ax_InvalidProgram) (.ref Z.ax_InvalidProgram) ["BuildError", "InvalidWord", "InvalidType", "InvalidLibrary", "InvalidProgram", "InvalidQuestion", "InvalidRoom", "InvalidDraft", "InvalidOperation", "ParseError", "UnknownWord", "NoProgram", "NothingToUndo", "TooMany", "Refused", "InvalidNumber"] (fun y => decide (y ∈ (["InvalidProgram"] : List Str)))
  iv_InvalidQuestion : IsvF mg (.ref Z.ax_InvalidQuestion) (.ref Z.ax_InvalidQuestion) ["BuildError", "InvalidWord", "InvalidType", "InvalidLibrary", "InvalidProgram", "InvalidQuestion", "InvalidRoom", "InvalidDraft", "InvalidOperation", "ParseError", "UnknownWord", "NoProgram", "NothingToUndo", "TooMany", "Refused", "InvalidNumber"] (fun y => decide (y ∈ (["InvalidQuestion"] : List Str)))
  iv_InvalidRoom : IsvF mg (.ref Z.ax_InvalidRoom) (.ref Z.ax_InvalidRoom) ["BuildError", "InvalidWord", "InvalidType", "InvalidLibrary", "InvalidProgram", "InvalidQuestion", "InvalidRoom", "InvalidDraft", "InvalidOperation", "ParseError", "UnknownWord", "NoProgram", "NothingToUndo", "TooMany", "Refused", "InvalidNumber"] (fun y => decide (y ∈ (["InvalidRoom"] : List Str)))
  iv_InvalidDraft : IsvF mg (.ref Z.ax_InvalidDraft) (.ref Z.ax_InvalidDraft) ["BuildError", "InvalidWord", "InvalidType", "InvalidLibrary", "InvalidProgram", "InvalidQuestion", "InvalidRoom", "InvalidDraft", "InvalidOperation", "ParseError", "UnknownWord", "NoProgram", "NothingToUndo", "TooMany", "Refused", "InvalidNumber"] (fun y => decide (y ∈ (["InvalidDraft"] : List Str)))
  iv_InvalidOperation : IsvF mg (.ref Z.ax_InvalidOperation) (.ref Z.ax_InvalidOperation) ["BuildError", "InvalidWord", "InvalidType", "InvalidLibrary", "InvalidProgram", "InvalidQuestion", "InvalidRoom", "InvalidDraft", "InvalidOperation", "ParseError", "UnknownWord", "NoProgram", "NothingToUndo", "TooMany", "Refused", "InvalidNumber"] (fun y => decide (y ∈ (["InvalidOperation"] : List Str)))
  iv_ParseError : IsvF mg (.ref Z.ax_ParseError) (.ref Z.ax_ParseError) ["BuildError", "InvalidWord", "InvalidType", "InvalidLibrary", "InvalidProgram", "InvalidQuestion", "InvalidRoom", "InvalidDraft", "InvalidOperation", "ParseError", "UnknownWord", "NoProgram", "NothingToUndo", "TooMany", "Refused", "InvalidNumber"] (fun y => decide (y ∈ (["ParseError"] : List Str)))
  iv_BuildError : IsvF mg (.ref Z.ax_BuildError) (.ref Z.ax_BuildError) ["BuildError", "InvalidWord", "InvalidType", "InvalidLibrary", "InvalidProgram", "InvalidQuestion", "InvalidRoom", "InvalidDraft", "InvalidOperation", "ParseError", "UnknownWord", "NoProgram", "NothingToUndo", "TooMany", "Refused", "InvalidNumber"] (fun y => decide (y ∈ (["BuildError", "InvalidWord", "InvalidType", "InvalidLibrary", "InvalidProgram", "InvalidQuestion", "InvalidRoom", "InvalidDraft", "InvalidOperation", "ParseError"] : List Str)))
  iv_ValueError : IsvF mg (.ty "ValueError") (.type "ValueError") ["BuildError", "InvalidWord", "InvalidType", "InvalidLibrary", "InvalidProgram", "InvalidQuestion", "InvalidRoom", "InvalidDraft", "InvalidOperation", "ParseError", "UnknownWord", "NoProgram", "NothingToUndo", "TooMany", "Refused", "InvalidNumber"] (fun y => decide (y ∈ (["BuildError", "InvalidWord", "InvalidType", "InvalidLibrary", "InvalidProgram", "InvalidQuestion", "InvalidRoom", "InvalidDraft", "InvalidOperation", "ParseError"] : List Str)))
  iv_UnknownWord : IsvF mg (.ref Z.ax_UnknownWord) (.ref Z.ax_UnknownWord) ["BuildError", "InvalidWord", "InvalidType", "InvalidLibrary", "InvalidProgram", "InvalidQuestion", "InvalidRoom", "InvalidDraft", "InvalidOperation", "ParseError", "UnknownWord", "NoProgram", "NothingToUndo", "TooMany", "Refused", "InvalidNumber"] (fun y => decide (y ∈ (["UnknownWord"] : List Str)))
  iv_NoProgram : IsvF mg (.ref Z.ax_NoProgram) (.ref Z.ax_NoProgram) ["BuildError", "InvalidWord", "InvalidType", "InvalidLibrary", "InvalidProgram", "InvalidQuestion", "InvalidRoom", "InvalidDraft", "InvalidOperation", "ParseError", "UnknownWord", "NoProgram", "NothingToUndo", "TooMany", "Refused", "InvalidNumber"] (fun y => decide (y ∈ (["NoProgram"] : List Str)))
  iv_NothingToUndo : IsvF mg (.ref Z.ax_NothingToUndo) (.ref Z.ax_NothingToUndo) ["BuildError", "InvalidWord", "InvalidType", "InvalidLibrary", "InvalidProgram", "InvalidQuestion", "InvalidRoom", "InvalidDraft", "InvalidOperation", "ParseError", "UnknownWord", "NoProgram", "NothingToUndo", "TooMany", "Refused", "InvalidNumber"] (fun y => decide (y ∈ (["NothingToUndo"] : List Str)))
  iv_TooMany : IsvF mg (.ref Z.ax_TooMany) (.ref Z.ax_TooMany) ["BuildError", "InvalidWord", "InvalidType", "InvalidLibrary", "InvalidProgram", "InvalidQuestion", "InvalidRoom", "InvalidDraft", "InvalidOperation", "ParseError", "UnknownWord", "NoProgram", "NothingToUndo", "TooMany", "Refused", "InvalidNumber"] (fun y => decide (y ∈ (["TooMany"] : List Str)))
  iv_Refused : IsvF mg (.ref Z.ax_Refused) (.ref Z.ax_Refused) ["BuildError", "InvalidWord", "InvalidType", "InvalidLibrary", "InvalidProgram", "InvalidQuestion", "InvalidRoom", "InvalidDraft", "InvalidOperation", "ParseError", "UnknownWord", "NoProgram", "NothingToUndo", "TooMany", "Refused", "InvalidNumber"] (fun y => decide (y ∈ (["Refused"] : List Str)))
  iv_InvalidNumber : IsvF mg (.ref Z.ax_InvalidNumber) (.ref Z.ax_InvalidNumber) ["BuildError", "InvalidWord", "InvalidType", "InvalidLibrary", "InvalidProgram", "InvalidQuestion", "InvalidRoom", "InvalidDraft", "InvalidOperation", "ParseError", "UnknownWord", "NoProgram", "NothingToUndo", "TooMany", "Refused", "InvalidNumber"] (fun y => decide (y ∈ (["InvalidNumber"] : List Str)))
  iv_KeyError : IsvF mg (.ty "KeyError") (.type "KeyError") ["BuildError", "InvalidWord", "InvalidType", "InvalidLibrary", "InvalidProgram", "InvalidQuestion", "InvalidRoom", "InvalidDraft", "InvalidOperation", "ParseError", "UnknownWord", "NoProgram", "NothingToUndo", "TooMany", "Refused", "InvalidNumber"] (fun y => decide (y ∈ (["UnknownWord"] : List Str)))
  iv_IndexError : IsvF mg (.ty "IndexError") (.type "IndexError") ["BuildError", "InvalidWord", "InvalidType", "InvalidLibrary", "InvalidProgram", "InvalidQuestion", "InvalidRoom", "InvalidDraft", "InvalidOperation", "ParseError", "UnknownWord", "NoProgram", "NothingToUndo", "TooMany", "Refused", "InvalidNumber"] (fun y => decide (y ∈ (["NothingToUndo"] : List Str)))
  iv_LookupError : IsvF mg (.ty "LookupError") (.type "LookupError") ["BuildError", "InvalidWord", "InvalidType", "InvalidLibrary", "InvalidProgram", "InvalidQuestion", "InvalidRoom", "InvalidDraft", "InvalidOperation", "ParseError", "UnknownWord", "NoProgram", "NothingToUndo", "TooMany", "Refused", "InvalidNumber"] (fun y => decide (y ∈ (["UnknownWord", "NoProgram", "NothingToUndo"] : List Str)))
  iv_OverflowError : IsvF mg (.ty "OverflowError") (.type "OverflowError") ["BuildError", "InvalidWord", "InvalidType", "InvalidLibrary", "InvalidProgram", "InvalidQuestion", "InvalidRoom", "InvalidDraft", "InvalidOperation", "ParseError", "UnknownWord", "NoProgram", "NothingToUndo", "TooMany", "Refused", "InvalidNumber"] (fun y => decide (y ∈ (["TooMany"] : List Str)))
  iv_ArithmeticError : IsvF mg (.ty "ArithmeticError") (.type "ArithmeticError") ["BuildError", "InvalidWord", "InvalidType", "InvalidLibrary", "InvalidProgram", "InvalidQuestion", "InvalidRoom", "InvalidDraft", "InvalidOperation", "ParseError", "UnknownWord", "NoProgram", "NothingToUndo", "TooMany", "Refused", "InvalidNumber"] (fun y => decide (y ∈ (["TooMany", "Refused"] : List Str)))
  iv_RuntimeError : IsvF mg (.ty "RuntimeError") (.type "RuntimeError") ["BuildError", "InvalidWord", "InvalidType", "InvalidLibrary", "InvalidProgram", "InvalidQuestion", "InvalidRoom", "InvalidDraft", "InvalidOperation", "ParseError", "UnknownWord", "NoProgram", "NothingToUndo", "TooMany", "Refused", "InvalidNumber"] (fun y => decide (y ∈ (["InvalidNumber"] : List Str)))
  sv : StvF mg ["BuildError", "InvalidWord", "InvalidType", "InvalidLibrary", "InvalidProgram", "InvalidQuestion", "InvalidRoom", "InvalidDraft", "InvalidOperation"]
end K00
namespace K00
open PySem L2 FP
variable [FP.Tabl]
open KP
abbrev XS : List Str := ["BuildError", "InvalidWord", "InvalidType", "InvalidLibrary", "InvalidProgram", "InvalidQuestion", "InvalidRoom", "InvalidDraft", "InvalidOperation", "ParseError", "UnknownWord", "NoProgram", "NothingToUndo", "TooMany", "Refused", "InvalidNumber"]
abbrev XB : List Str := ["BuildError", "InvalidWord", "InvalidType", "InvalidLibrary", "InvalidProgram", "InvalidQuestion", "InvalidRoom", "InvalidDraft", "InvalidOperation"]
def markS (b : Bool) : Str := if b then "x" else "."
theorem mark_len (b : Bool) : (markS b).length = 1 := by cases b <;> decide +kernel
theorem marks_sum : ∀ bs : List Bool, ((bs.map markS).map (·.length)).sum = bs.length
  | [] => rfl
  | b :: r => by
    rw [List.map_cons, List.map_cons, List.sum_cons, mark_len, marks_sum r, List.length_cons]
    omega
theorem marks_strs : ∀ bs : List Bool, strsD (bs.map fun b => D.str (markS b)) = some (bs.map markS) := fun bs => by
  have e := strsD_map (bs.map markS)
  rw [List.map_map] at e
  exact e
def isB (L : List Str) (x : Str) : Bool := decide (x ∈ L)
def kindsB (x : Str) : List Bool := [isB ["InvalidWord"] x, isB ["InvalidType"] x, isB ["InvalidLibrary"] x, isB ["InvalidProgram"] x, isB ["InvalidQuestion"] x, isB ["InvalidRoom"] x, isB ["InvalidDraft"] x, isB ["InvalidOperation"] x, isB ["ParseError"] x, isB ["BuildError", "InvalidWord", "InvalidType", "InvalidLibrary", "InvalidProgram", "InvalidQuestion", "InvalidRoom", "InvalidDraft", "InvalidOperation", "ParseError"] x, isB ["BuildError", "InvalidWord", "InvalidType", "InvalidLibrary", "InvalidProgram", "InvalidQuestion", "InvalidRoom", "InvalidDraft", "InvalidOperation", "ParseError"] x]
def othersB (x : Str) : List Bool := [isB ["UnknownWord"] x, isB ["NoProgram"] x, isB ["NothingToUndo"] x, isB ["TooMany"] x, isB ["Refused"] x, isB ["InvalidNumber"] x, isB ["UnknownWord"] x, isB ["NothingToUndo"] x, isB ["UnknownWord", "NoProgram", "NothingToUndo"] x, isB ["TooMany"] x, isB ["TooMany", "Refused"] x, isB ["InvalidNumber"] x]
def kindsS (x : Str) : Str := Txt.join "" ((kindsB x).map markS)
def othersS (x : Str) : Str := Txt.join "" ((othersB x).map markS)
def f_asks (mg : Gm) (g : Str → Str) : List D → M D := fun ds Q _ => match ds with
  | [.fn a W] => ∃ x, IsX mg W a x ∧ x ∈ XS ∧ Q (.str (g x))
  | _ => False
theorem ev_joinT {ρ : FP.Env} {fo fe : DTE} {a : Str} {ds : List D} {ys : List Str} (ho : Ev fo ρ (.str a)) (he : Ev fe ρ (.lst ds)) (h0 : strsD ds = some ys) (h : (ys.map (·.length)).sum + ys.length * a.length ≤ 16777216) : Ev (dJoin fo fe) ρ (.str (Txt.join a ys)) := fun Q E q => ho _ _ (he _ _ ⟨ys, h0, h, q⟩)
theorem ev_mark {ρ : FP.Env} (b : Bool) (h : ρ[2]? = some (.d (.bl b))) : Ev (dIf (dB (dVar 2)) (dC (.str "x")) (dC (.str "."))) ρ (.str (markS b)) := ev_if (b := b) (b_v fun Q E q => by
  show (match ρ[2]? with | some (Sl.d d) => Q d | _ => False)
  rw [h]
  exact q) (fun h Q E q => by subst h; exact q) (fun h Q E q => by subst h; exact q)
theorem ev_isv {mg : Gm} {a : Addr} {W : Wd} {x : Str} (hx : IsX mg W a x) (hm : x ∈ XS) (yes : Str → Bool) (ρ : FP.Env) (hr : ρ[0]? = some (.d (.fn a W))) : Ev (dIsV mg XS yes (dVar 0)) ρ (.bl (yes x)) := fun Q E q => by
  show (match ρ[0]? with | some (Sl.d d) => ∃ a W x, d = .fn a W ∧ IsX mg W a x ∧ x ∈ XS ∧ Q (.bl (yes x)) | _ => False)
  rw [hr]
  exact ⟨a, W, x, rfl, hx, hm, q⟩
/-- errors in a row -/
abbrev Ex3 := Addr × Wd × Str
def eX (p : Ex3) : D := .fn p.1 p.2.1
theorem dot_mul {n : Int} (h0 : 0 ≤ n) (h1 : n ≤ 12) : PySem.MulOk "." n := by
  have all : ∀ m : Fin 13, (decide ((m.val : Int) < -(2 ^ 63 : Int)) || decide ((m.val : Int) ≥ 2 ^ 63)) = false ∧ (¬ (m.val : Int) < 1 → ((m.val : Int) == 1 || (("." : Str).length == 0)) = false → ¬ ((("." : Str).length : Int) > (2 ^ 63 - 1) / (m.val : Int))) ∧ (¬ (m.val : Int) < 1 → ((m.val : Int) == 1 || ("." : Str).length == 0) = false → Builtin.Str.tooLong (("." : Str).length * (m.val : Int).toNat) = false) := by decide +kernel
  obtain ⟨m, rfl⟩ := Int.eq_ofNat_of_zero_le h0
  exact all ⟨m, by omega⟩
def dueS (n : Int) : Str := Txt.mul "." n ++ "x" ++ Txt.mul "." (8 - n) ++ "xx"
theorem ev_due {ρ : FP.Env} {n : Int} (h : ρ[6]? = some (.d (.int n))) (h0 : 0 ≤ n) (h1 : n ≤ 8) : Ev (dOp rdAdd (dOp rdAdd (dOp rdAdd (dOp rdMulS (dC (.str ".")) (dVar 6)) (dC (.str "x"))) (dOp rdMulS (dC (.str ".")) (dOp rdSub (dC (.int 8)) (dVar 6)))) (dC (.str "xx"))) ρ (.str (dueS n)) := by
  have v : Ev (dVar 6) ρ (.int n) := fun Q E q => by
    show (match ρ[6]? with | some (Sl.d d) => Q d | _ => False)
    rw [h]
    exact q
  have ml : ∀ m : Int, 0 ≤ m → m ≤ 12 → (Txt.mul "." m).length ≤ 12 := fun m g0 g1 => by
    have all : ∀ k : Fin 13, (Txt.mul "." (k.val : Int)).length ≤ 12 := by decide +kernel
    obtain ⟨k, rfl⟩ := Int.eq_ofNat_of_zero_le g0
    exact all ⟨k, by omega⟩
  have e1 := ml n h0 (by omega)
  have e2 := ml (8 - n) (by omega) (by omega)
  have x1 : ("x" : Str).length = 1 := by decide +kernel
  have x2 : ("xx" : Str).length = 2 := by decide +kernel
  refine ev_op (x := .str (Txt.mul "." n ++ "x" ++ Txt.mul "." (8 - n))) (y := .str "xx") (ev_op (x := .str (Txt.mul "." n ++ "x")) (y := .str (Txt.mul "." (8 - n))) (ev_op (x := .str (Txt.mul "." n)) (y := .str "x") (ev_op (x := .str ".") (y := .int n) (fun Q E q => q) v fun Q q => ⟨dot_mul h0 (by omega), q⟩) (fun Q E q => q) fun Q q => ⟨?_, q⟩) (ev_op (x := .str ".") (y := .int (8 - n)) (fun Q E q => q) (ev_op (x := .int 8) (y := .int n) (fun Q E q => q) v fun Q q => q) fun Q q => ⟨dot_mul (by omega) (by omega), q⟩) fun Q q => ⟨?_, q⟩) (fun Q E q => q) fun Q q => ⟨?_, q⟩
  · rw [x1]; exact Nat.le_trans (show _ ≤ 100 by omega) (by decide)
  · rw [len_app, x1]; exact Nat.le_trans (show _ ≤ 100 by omega) (by decide)
  · rw [len_app, len_app, x1, x2]; exact Nat.le_trans (show _ ≤ 100 by omega) (by decide)
/-- a drawn thing: a list of six of it has a text -/
def thingB (d : D) : Bool := match elPs [d, d, d, d, d, d] with
  | some ps => !ps.isEmpty && PyData.showableAll ps && decide (PyData.depthAll ps ≤ 50) && decide ((PyData.shown (.list ps)).length ≤ 1000) && PyData.strOk (PyData.shown (.list ps))
  | none => false
theorem thing_rd {d : D} (h : thingB d = true) : ∃ s : Str, PyData.strOk s = true ∧ ∀ Q : D → Prop, Q (.str s) → rdReprQ [.lst [d, d, d, d, d, d]] Q := by
  unfold thingB at h
  cases q : elPs [d, d, d, d, d, d] with
  | none =>
    rw [q] at h
    cases h
  | some ps =>
    rw [q] at h
    simp only [Bool.and_eq_true, decide_eq_true_eq, Bool.not_eq_true'] at h
    obtain ⟨⟨⟨⟨h1, h2⟩, h3⟩, h4⟩, h5⟩ := h
    refine ⟨PyData.shown (.list ps), h5, fun Q hq => ⟨ps, q, ?_, h2, h3, Nat.le_trans h4 (by decide), hq⟩⟩
    intro e
    rw [e] at h1
    cases h1
theorem things_ok {d : D} (h : d ∈ [D.int 0, .str "", .str "a", .non, .tup [], .tup [.str "f", .int 3], .int (10 ^ 30), .bl true, .tup [.tup [.tup [.str "f"], .str "a"], .str "x0"], .lst [.int 1], .dct [(.inr "a", .tup [])]]) : thingB d = true := by
  simp only [List.mem_cons, List.not_mem_nil, or_false] at h
  rcases h with rfl | rfl | rfl | rfl | rfl | rfl | rfl | rfl | rfl | rfl | rfl <;> decide +kernel
theorem words_ok {d : D} (h : d ∈ [D.str "", .str "no library", .str "a", .str "line 3"]) : ∃ z : Str, d = .str z ∧ PyData.strOk z = true := by
  simp only [List.mem_cons, List.not_mem_nil, or_false] at h
  rcases h with rfl | rfl | rfl | rfl <;> exact ⟨_, rfl, by decide +kernel⟩
theorem ats_ok {d : D} (h : d ∈ [D.non, .int 0, .int 5, .int (10 ^ 30)]) : ∃ s, RepP d s := by
  simp only [List.mem_cons, List.not_mem_nil, or_false] at h
  rcases h with rfl | rfl | rfl | rfl <;> exact repB_of (by decide +kernel)
def f_tok1 : List D → M D := fun ds Q _ => match ds with
  | [.tok] => Q (.bl true)
  | _ => False
theorem ev_fdl {mg : Gm} {ρ : FP.Env} {x f : Str} {fe : DTE} {d : D} (he : Ev fe ρ d) : Ev (dXfV mg x f (dExF mg x f fe)) ρ d := fun Q E q => he _ E fun a W h => ⟨a, W, d, rfl, h, q⟩
theorem ev_oIx {mg : Gm} {ρ : FP.Env} {x f : Str} {i : Nat} {k : Int} {xs : List D} {a : Addr} {W : Wd} {d : D} (hr : ρ[i]? = some (.own xs)) (hk : atI xs k = some (.fn a W)) (h : ExFd mg W a x f d) : Ev (dXfV mg x f (dOwnIx i (dC (.int k)))) ρ d := fun Q E q => by
  show (match ρ[i]? with | some (.own xs) => ∃ d, atI xs k = some d ∧ _ | _ => False)
  rw [hr]
  exact ⟨_, hk, a, W, d, rfl, h, q⟩
section
variable {mg : Gm} {i : Nat} {fe f0 fk : DTE} {g : DTS} {N : Nd} {ρ : FP.Env} {xs : List D} {d : D}
theorem seq_T4 {x0 x1 x2 x3 : Str} (he : Ev fe ρ d) (hg : ∀ a0 W0, ExT mg W0 a0 x0 d → ∀ a1 W1, ExT mg W1 a1 x1 d → ∀ a2 W2, ExT mg W2 a2 x2 d → ∀ a3 W3, ExT mg W3 a3 x3 d → g N (ρ.set i (.d (.lst [.fn a0 W0, .fn a1 W1, .fn a2 W2, .fn a3 W3])))) : dSeq (dSet i (dLst (dCons (dExT mg x0 fe) (dCons (dExT mg x1 fe) (dCons (dExT mg x2 fe) (dCons (dExT mg x3 fe) dNil)))))) g N ρ := he _ _ fun a0 W0 h0 => he _ _ fun a1 W1 h1 => he _ _ fun a2 W2 h2 => he _ _ fun a3 W3 h3 => ⟨(line rfl : 4 ≤ sizeLine), hg a0 W0 h0 a1 W1 h1 a2 W2 h2 a3 W3 h3⟩
theorem seq_cat4 {x0 x1 x2 x3 : Str} (h0 : Ev f0 ρ (.lst xs)) (he : Ev fe ρ d) (hs : xs.length + 4 ≤ sizeLine) (hg : ∀ a0 W0, ExT mg W0 a0 x0 d → ∀ a1 W1, ExT mg W1 a1 x1 d → ∀ a2 W2, ExT mg W2 a2 x2 d → ∀ a3 W3, ExT mg W3 a3 x3 d → g N (ρ.set i (.own (xs ++ [.fn a0 W0, .fn a1 W1, .fn a2 W2, .fn a3 W3])))) : dSeq (dSetO i (dCatO f0 (dLst (dCons (dExT mg x0 fe) (dCons (dExT mg x1 fe) (dCons (dExT mg x2 fe) (dCons (dExT mg x3 fe) dNil))))))) g N ρ := h0 _ _ (he _ _ fun a0 W0 h0 => he _ _ fun a1 W1 h1 => he _ _ fun a2 W2 h2 => he _ _ fun a3 W3 h3 => ⟨(line rfl : 4 ≤ sizeLine), hs, hg a0 W0 h0 a1 W1 h1 a2 W2 h2 a3 W3 h3⟩)
theorem seq_F5 {x0 y0 x1 y1 x2 y2 x3 y3 x4 y4 : Str} (he : Ev fe ρ d) (hg : ∀ a0 W0, ExFd mg W0 a0 x0 y0 d → ∀ a1 W1, ExFd mg W1 a1 x1 y1 d → ∀ a2 W2, ExFd mg W2 a2 x2 y2 d → ∀ a3 W3, ExFd mg W3 a3 x3 y3 d → ∀ a4 W4, ExFd mg W4 a4 x4 y4 d → g N (ρ.set i (.own [.fn a0 W0, .fn a1 W1, .fn a2 W2, .fn a3 W3, .fn a4 W4]))) : dSeq (dSetO i (dLen (dCons (dExF mg x0 y0 fe) (dCons (dExF mg x1 y1 fe) (dCons (dExF mg x2 y2 fe) (dCons (dExF mg x3 y3 fe) (dCons (dExF mg x4 y4 fe) dNil))))))) g N ρ := he _ _ fun a0 W0 h0 => he _ _ fun a1 W1 h1 => he _ _ fun a2 W2 h2 => he _ _ fun a3 W3 h3 => he _ _ fun a4 W4 h4 => ⟨(line rfl : 5 ≤ sizeLine), hg a0 W0 h0 a1 W1 h1 a2 W2 h2 a3 W3 h3 a4 W4 h4⟩
theorem seq_appT {x : Str} (h : ρ[i]? = some (.own xs)) (he : Ev fe ρ d) (hs : xs.length < sizeLine) (hg : ∀ a W, ExT mg W a x d → g N (ρ.set i (.own (xs ++ [.fn a W])))) : dSeq (dApp i (dExT mg x fe)) g N ρ := by
  show dApp i _ _ ρ
  unfold dApp
  rw [h]
  exact he _ _ fun a W hx => ⟨hs, hg a W hx⟩
theorem seq_appF {x y : Str} (h : ρ[i]? = some (.own xs)) (he : Ev fe ρ d) (hs : xs.length < sizeLine) (hg : ∀ a W, ExFd mg W a x y d → g N (ρ.set i (.own (xs ++ [.fn a W])))) : dSeq (dApp i (dExF mg x y fe)) g N ρ := by
  show dApp i _ _ ρ
  unfold dApp
  rw [h]
  exact he _ _ fun a W hx => ⟨hs, hg a W hx⟩
theorem seq_setX {x y : Str} {m : Int} {n : Nat} {P : D → Prop} (h : ρ[i]? = some (.own xs)) (he : EvP fe ρ P) (hk : Ev fk ρ (.int m)) (hm : ixN xs.length m = some n) (hg : ∀ d a W, P d → ExFd mg W a x y d → g N (ρ.set i (.own (xs.set n (.fn a W))))) : dSeq (dOwnSet i fk (dExF mg x y fe)) g N ρ := he _ _ fun d hd a W hx => by
  rw [h]
  exact hk _ _ ⟨n, hm, hg d a W hd hx⟩
end
theorem row_str (g : Str → Str) (T : List Ex3) : T.map (fun p => D.str (g p.2.2)) = ((T.map fun p => p.2.2).map g).map D.str := by
  rw [List.map_map, List.map_map]
  rfl
theorem row_ne {g : Str → Str} {T : List Ex3} {ns ys : List Str} {Q : D → Prop} (h1 : T.map (fun p => p.2.2) = ns) (h2 : ns.map g = ys) (h3 : ∀ y ∈ ys, PyData.strOk y = true) (q : Q (.bl false)) : rdNe (.lst (T.map fun p => D.str (g p.2.2))) (.lst (ys.map D.str)) Q := by
  rw [row_str, h1, h2]
  exact ne_refl (sh_lst (sh_strs h3)) rfl q
def baseN : List Str := ["InvalidWord", "InvalidType", "InvalidLibrary", "InvalidProgram", "InvalidQuestion", "InvalidRoom", "InvalidDraft", "InvalidOperation", "BuildError"]
def baseN2 : List Str := ["InvalidWord", "InvalidType", "InvalidLibrary", "InvalidProgram", "InvalidQuestion", "InvalidRoom", "InvalidDraft", "InvalidOperation", "ParseError"]
def othN : List Str := ["UnknownWord", "NoProgram", "NothingToUndo", "TooMany", "Refused", "InvalidNumber"]
@[irreducible] def dd (n : Nat) : Str := Txt.mul "." n
theorem dd_eq (n : Nat) : dd n = Txt.mul "." n := by unfold dd; rfl
theorem ev_dots {ρ : FP.Env} (n : Int) (m : Nat) (h : n = m) (h12 : m ≤ 12) : Ev (dOp rdMulS (dC (.str ".")) (dC (.int n))) ρ (.str (dd m)) := by
  rw [dd_eq]
  subst h
  exact ev_op (x := .str ".") (y := .int m) (fun Q E q => q) (fun Q E q => q) fun Q q => ⟨dot_mul (by omega) (by omega), q⟩
theorem flat_one {α : Type} (x : α) : ∀ k : Nat, (List.replicate k [x]).flatten = List.replicate k x
  | 0 => rfl
  | k + 1 => by
    rw [List.replicate_succ, List.replicate_succ, List.flatten_cons, flat_one x k]
    rfl
theorem ev_repD {ρ : FP.Env} {f : DTE} {d : D} (n : Int) (k : Nat) (h : n = k) (hk : k ≤ 16) (hf : Ev f ρ d) : Ev (dOp rdRep (dLst (dCons f dNil)) (dC (.int n))) ρ (.lst (List.replicate k d)) := by
  subst h
  refine ev_op (x := .lst [d]) (y := .int k) (ev_lst (a1 hf a0) (line rfl)) (fun Q E q => q) fun Q q => ⟨⟨by omega, by omega⟩, ?_, ?_⟩
  · show 1 * Int.toNat k ≤ sizeLine
    rw [Int.toNat_natCast, Nat.one_mul]
    exact Nat.le_trans hk (line rfl)
  · rw [Int.toNat_natCast, flat_one]
    exact q
theorem ev_repS {ρ : FP.Env} {f : DTE} {z : Str} (n : Int) (k : Nat) (h : n = k) (hk : k ≤ 16) (hf : Ev f ρ (.str z)) : Ev (dOp rdRep (dLst (dCons f dNil)) (dC (.int n))) ρ (.lst ((List.replicate k z).map D.str)) := by
  rw [List.map_replicate]
  exact ev_repD n k h hk hf
theorem sok_dd : ∀ n, n ≤ 12 → PyData.strOk (dd n) = true := fun n hn => by
  rw [dd_eq]
  have all : ∀ k : Fin 13, PyData.strOk (Txt.mul "." (k.val : Nat)) = true := by decide +kernel
  exact all ⟨n, by omega⟩
def duesL : List Str := (List.range 9).map fun i : Nat => dueS (0 + (i : Int))
def due6 : List Str := ["x.....x.x...", ".x......x...", "..x....xx...", "...x.....xx.", "....x.....x.", ".....x.....x"]
theorem base_oth : baseN.map othersS = List.replicate 9 (dd 12) := by
  rw [dd_eq]
  decide +kernel
theorem base_kin : baseN2.map kindsS = duesL := by decide +kernel
theorem oth_oth : othN.map othersS = due6 := by decide +kernel
theorem oth_kin : othN.map kindsS = List.replicate 6 (dd 11) := by
  rw [dd_eq]
  decide +kernel
theorem be_kin : kindsS "BuildError" = dd 9 ++ "xx" := by
  rw [dd_eq]
  decide +kernel
theorem pe_oth : othersS "ParseError" = dd 12 := by
  rw [dd_eq]
  decide +kernel
theorem same9 {w : Str} {n : Nat} (h : PyData.strOk w = true) : ∀ y ∈ List.replicate n w, PyData.strOk y = true := fun y hy => by
  rw [List.eq_of_mem_replicate hy]
  exact h
theorem ok__law_dice {P : Program} {w : World} {mg : Gm} {base : Heap} {Z : Ads} (A : All mg Z) : DefOk P w mg base 1 "_law_dice" 2 f_dice := by
  refine mkDef (N := ["_law_script", "_law_spot", "_law_cell", "_law_great", "_law_blend"]) (ps := ["_law_script", "_law_spot"]) A.d__law_dice sc__law_dice (fun _ _ _ _ _ _ us hl => match us, hl with | [_, _], _ => rfl) fun fa cdv Ar outer s H E hr => ⟨_,
    (dss_cons (ds_set (i := 2) (de_op ok_add (de_op ok_mul de_int (de_var 1)) de_int) (fun _ => sc__law_dice.nd))
    (dss_cons (ds_if (dt_cmp ok_lt (de_var 1) (de_callB ok_len A.n_len FP.boot_len (da_cons (de_var 0) da_nil)))
    (dss_one (ds_set (i := 2) (de_ix (de_var 0) (de_var 1)) (fun _ => sc__law_dice.nd)))
    dss_nil)
    (dss_cons (ds_set (i := 3) (de_op ok_mod (de_callTy ok_int A.n_int FP.boot_int (da_cons (de_callB ok_abs A.n_abs FP.boot_abs (da_cons (de_var 2) da_nil)) da_nil)) (de_op ok_pow (de_op ok_pow de_int de_int) de_int)) (fun _ => sc__law_dice.nd))
    (dss_cons (ds_set (i := 4) (de_op ok_add (de_op ok_add (de_op ok_add (de_op ok_mul (de_op ok_mod (de_callTy ok_int A.n_int FP.boot_int (da_cons (de_var 3) da_nil)) de_int) de_int) (de_op ok_mul de_int (de_var 1))) (de_op ok_mul de_int (de_callTy ok_int A.n_int FP.boot_int (da_cons (de_cmp ok_lt (de_var 2) de_int) da_nil)))) de_int) (fun _ => sc__law_dice.nd))
    (dss_one (ds_retTok (da_cons (de_callB ok_max A.n_max FP.boot_max (da_cons de_int (da_cons (de_op ok_sub (de_var 3) (de_op ok_pow de_int de_int)) da_nil))) (da_cons (de_op ok_mod (de_callTy ok_int A.n_int FP.boot_int (da_cons (de_var 4) da_nil)) de_int) (da_cons de_int da_nil))))))))),  fun ds Q Ex hl hf => ?_⟩
  match ds, hl, hf with
  | [.fz xs, .int k], _, ⟨⟨ns, hx⟩, ⟨h0, h1⟩, hq⟩ =>
    subst hx
    change (_ : DTS) _ [Sl.d (.fz (ns.map D.int)), Sl.d (.int k), Sl.no, Sl.no, Sl.no]
    simp only [dSeq, dNext, dIfS, dB, dOp, dVar, dC, dCB, dCons, dNil, dSet, dTok, dRet, dRetN, dCall, rdAdd, rdSub, rdMul, rdMod, rdFdiv, rdPow, rdGt, rdLt, rdLe, rdGe, rdIx, rdInt, rdAbs, rdMax, rdMin, rdLen, dRetTok, dSetO, dListO, dLenO, dIRng1, dRetPop, List.getElem?_cons_zero, List.getElem?_cons_succ, List.set_cons_zero, List.set_cons_succ, bit_dec, bit_t, bit_f, bit_not, blc_bl, Option.some.injEq, exists_eq_left']
    refine ⟨cmulL (by decide), fun hb => ?_, fun _ => ?_⟩
    · obtain ⟨i, hi⟩ := atI_ints h0 hb
      refine ⟨_, hi, ?_⟩
      exact ⟨by decide +kernel, by decide +kernel, by decide +kernel, by decide, cmulR (by decide), cmulL (by decide), cmulL (by decide), by decide +kernel, by decide, hq⟩
    · exact ⟨by decide +kernel, by decide +kernel, by decide +kernel, by decide, cmulR (by decide), cmulL (by decide), cmulL (by decide), by decide +kernel, by decide, hq⟩
theorem ok__law_roll {P : Program} {w : World} {mg : Gm} {base : Heap} {Z : Ads} (A : All mg Z) : DefOk P w mg base 1 "_law_roll" 2 f_roll := by
  refine mkDef (N := ["_law_dice_here", "_law_total", "_law_one", "_law_two", "_law_found"]) (ps := ["_law_dice_here", "_law_total"]) A.d__law_roll sc__law_roll (fun _ _ _ _ _ _ us hl => match us, hl with | [_, _], _ => rfl) fun fa cdv Ar outer s H E hr => ⟨_,
    (dss_cons (ds_if (dt_cmp ok_gt (de_ix (de_var 0) de_int) de_int)
    (dss_cons (ds_set (i := 4) (de_op ok_mod (de_callTy ok_int A.n_int FP.boot_int (da_cons (de_ix (de_var 0) de_int) da_nil)) (de_var 1)) (fun _ => sc__law_roll.nd))
    (dss_cons (ds_tok 0 (de_op ok_fdiv (de_ix (de_var 0) de_int) (de_var 1)) (pg := fun _ _ h => ps_asg h (pg_sub (pv 0) pe_int set_list)))
    (dss_one (ds_ret (de_var 4)))))
    dss_nil)
    (dss_cons (ds_tok 0 (de_op ok_add (de_ix (de_var 0) de_int) de_int) (pg := fun _ _ h => ps_asg h (pg_sub (pv 0) pe_int set_list)))
    (dss_cons (ds_set (i := 2) (de_op ok_mod (de_callTy ok_int A.n_int FP.boot_int (da_cons (de_op ok_add (de_ix (de_var 0) de_int) (de_op ok_mul de_int (de_ix (de_var 0) de_int))) da_nil)) de_int) (fun _ => sc__law_roll.nd))
    (dss_cons (ds_set (i := 3) (de_op ok_add (de_op ok_mul (de_op ok_mod (de_callTy ok_int A.n_int FP.boot_int (da_cons (de_op ok_mul (de_var 2) (de_var 2)) da_nil)) de_int) (de_var 2)) (de_op ok_mul de_int (de_ix (de_var 0) de_int))) (fun _ => sc__law_roll.nd))
    (dss_cons (ds_set (i := 3) (de_op ok_mod (de_callTy ok_int A.n_int FP.boot_int (da_cons (de_var 3) da_nil)) de_int) (fun _ => sc__law_roll.nd))
    (dss_one (ds_ret (de_op ok_mod (de_callTy ok_int A.n_int FP.boot_int (da_cons (de_op ok_fdiv (de_var 3) de_int) da_nil)) (de_var 1))))))))),  fun ds Q Ex hl hf => ?_⟩
  match ds, hl, hf with
  | [.tok, .int n], _, ⟨⟨h0, h1⟩, hq⟩ =>
    change (_ : DTS) _ [Sl.d .tok, Sl.d (.int n), Sl.no, Sl.no, Sl.no]
    simp only [dSeq, dNext, dIfS, dB, dOp, dVar, dC, dCB, dCons, dNil, dSet, dTok, dRet, dRetN, dCall, rdAdd, rdSub, rdMul, rdMod, rdFdiv, rdPow, rdGt, rdLt, rdLe, rdGe, rdIx, rdInt, rdAbs, rdMax, rdMin, rdLen, dRetTok, dSetO, dListO, dLenO, dIRng1, dRetPop, List.getElem?_cons_zero, List.getElem?_cons_succ, List.set_cons_zero, List.set_cons_succ, bit_dec, bit_t, bit_f, bit_not, blc_bl, Option.some.injEq, exists_eq_left']
    have dn : ∀ j : Int, CDivN j n := fun j => ⟨by omega, by omega⟩
    have md : ∀ j : Int, Q (D.int (j % n)) := fun j => hq _ (Int.emod_nonneg _ (by omega)) (Int.emod_lt_of_pos _ h0)
    refine ⟨by decide, fun j => ⟨fun _ => ?_, fun _ => ?_⟩⟩
    · exact ⟨by decide, fun a => ⟨h0, by decide, fun b => ⟨dn _, by decide, md _⟩⟩⟩
    · exact ⟨by decide, fun a => ⟨by decide, by decide, fun b => ⟨by decide, fun c => ⟨cmulL (by decide), by decide, cmulL (by omega), by decide, cmulR (by omega), by decide, fun e => ⟨cmulL (by decide), by decide, ⟨by decide, by decide⟩, h0, md _⟩⟩⟩⟩⟩
theorem ok__law_pick {P : Program} {w : World} {mg : Gm} {base : Heap} {Z : Ads} (A : All mg Z) (G__law_roll : DefOk P w mg base 1 "_law_roll" 2 f_roll) : DefOk P w mg base 2 "_law_pick" 2 f_pick := by
  refine mkDef (N := ["_law_dice_here", "_law_items"]) (ps := ["_law_dice_here", "_law_items"]) A.d__law_pick sc__law_pick (fun _ _ _ _ _ _ us hl => match us, hl with | [_, _], _ => rfl) fun fa cdv Ar outer s H E hr => ⟨_,
    (dss_one (ds_ret (de_ix (de_var 1) (de_call G__law_roll (fun _ => hr.mono (by omega)) (fun _ => pas (takes_of rfl rfl rfl rfl)) (da_cons (de_var 0) (da_cons (de_callB ok_len A.n_len FP.boot_len (da_cons (de_var 1) da_nil)) da_nil)))))),  fun ds Q Ex hl hf => ?_⟩
  match ds, hl, hf with
  | [.tok, .lst xs], _, ⟨⟨h0, h1⟩, hq⟩ =>
    change (_ : DTS) _ [Sl.d .tok, Sl.d (.lst xs)]
    simp only [dSeq, dNext, dIfS, dB, dOp, dVar, dC, dCB, dCons, dNil, dSet, dTok, dRet, dRetN, dCall, rdAdd, rdSub, rdMul, rdMod, rdFdiv, rdPow, rdGt, rdLt, rdLe, rdGe, rdIx, rdInt, rdAbs, rdMax, rdMin, rdLen, dRetTok, dSetO, dListO, dLenO, dIRng1, dRetPop, List.getElem?_cons_zero, List.getElem?_cons_succ, List.set_cons_zero, List.set_cons_succ, bit_dec, bit_t, bit_f, bit_not, blc_bl, Option.some.injEq, exists_eq_left', f_roll]
    refine ⟨rfl, ⟨by omega, by omega⟩, fun r h2 h3 => ?_⟩
    obtain ⟨d, hd, hm⟩ := atI_mem h2 h3
    exact ⟨d, hd, hq d hm⟩
  | [.tok, .tup xs], _, ⟨⟨h0, h1⟩, hq⟩ =>
    change (_ : DTS) _ [Sl.d .tok, Sl.d (.tup xs)]
    simp only [dSeq, dNext, dIfS, dB, dOp, dVar, dC, dCB, dCons, dNil, dSet, dTok, dRet, dRetN, dCall, rdAdd, rdSub, rdMul, rdMod, rdFdiv, rdPow, rdGt, rdLt, rdLe, rdGe, rdIx, rdInt, rdAbs, rdMax, rdMin, rdLen, dRetTok, dSetO, dListO, dLenO, dIRng1, dRetPop, List.getElem?_cons_zero, List.getElem?_cons_succ, List.set_cons_zero, List.set_cons_succ, bit_dec, bit_t, bit_f, bit_not, blc_bl, Option.some.injEq, exists_eq_left', f_roll]
    refine ⟨rfl, ⟨by omega, by omega⟩, fun r h2 h3 => ?_⟩
    obtain ⟨d, hd, hm⟩ := atI_mem h2 h3
    exact ⟨d, hd, hq d hm⟩
theorem ok__law_kinds {P : Program} {w : World} {mg : Gm} {base : Heap} {Z : Ads} (A : All mg Z) : DefOk P w mg base 2 "_law_kinds" 1 (f_asks mg kindsS) := by
  refine mkDef (N := ["_law_error", "_law_told", "_law_one"]) (ps := ["_law_error"]) A.d__law_kinds sc__law_kinds (fun _ _ _ _ _ _ us hl => match us, hl with | [_], _ => rfl) fun fa cdv Ar outer s H E hr => ⟨_,
    (dss_cons (ds_set (i := 1) (de_lst (da_cons (de_isV (de_var 0) A.n_isinstance A.ex_InvalidWord.nm A.iv_InvalidWord FP.boot_isinstance) (da_cons (de_isV (de_var 0) A.n_isinstance A.ex_InvalidType.nm A.iv_InvalidType FP.boot_isinstance) (da_cons (de_isV (de_var 0) A.n_isinstance A.ex_InvalidLibrary.nm A.iv_InvalidLibrary FP.boot_isinstance) da_nil)))) (fun _ => sc__law_kinds.nd))
    (dss_cons (ds_set (i := 1) (de_op ok_add (de_var 1) (de_lst (da_cons (de_isV (de_var 0) A.n_isinstance A.ex_InvalidProgram.nm A.iv_InvalidProgram FP.boot_isinstance) (da_cons (de_isV (de_var 0) A.n_isinstance A.ex_InvalidQuestion.nm A.iv_InvalidQuestion FP.boot_isinstance) da_nil)))) (fun _ => sc__law_kinds.nd))
    (dss_cons (ds_set (i := 1) (de_op ok_add (de_var 1) (de_lst (da_cons (de_isV (de_var 0) A.n_isinstance A.ex_InvalidRoom.nm A.iv_InvalidRoom FP.boot_isinstance) (da_cons (de_isV (de_var 0) A.n_isinstance A.ex_InvalidDraft.nm A.iv_InvalidDraft FP.boot_isinstance) (da_cons (de_isV (de_var 0) A.n_isinstance A.ex_InvalidOperation.nm A.iv_InvalidOperation FP.boot_isinstance) da_nil))))) (fun _ => sc__law_kinds.nd))
    (dss_cons (ds_set (i := 1) (de_op ok_add (de_var 1) (de_lst (da_cons (de_isV (de_var 0) A.n_isinstance A.xc_ParseError.nm A.iv_ParseError FP.boot_isinstance) (da_cons (de_isV (de_var 0) A.n_isinstance A.ex_BuildError.nm A.iv_BuildError FP.boot_isinstance) (da_cons (de_isVb (de_var 0) A.n_isinstance A.n_ValueError A.iv_ValueError FP.boot_ValueError FP.boot_isinstance) da_nil))))) (fun _ => sc__law_kinds.nd))
    (dss_one (ds_ret (de_join de_str (de_lc (own := [("_law_one", 2)]) (fun _ => sc__law_kinds.nd) (di_list (de_var 1)) (fun _ => blkOk_by (by kernel_rfl)) (dg_name (i := 2) (fun _ => sc__law_kinds.nd)) dts_nil (de_if (dt_val (de_var 2)) de_str de_str))))))))),  fun ds Q Ex hl hf => ?_⟩
  match ds, hl, hf with
  | [.fn a W], _, ⟨x, hx, hm, hq⟩ =>
    have e0 : startD 3 [.fn a W] = [Sl.d (.fn a W), Sl.no, Sl.no] := rfl
    have hnN : (["_law_error", "_law_told", "_law_one"] : List Str).length = 3 := rfl
    rw [hnN, e0]
    clear e0 hnN
    refine seq_v (.lst [D.bl (isB ["InvalidWord"] x), D.bl (isB ["InvalidType"] x), D.bl (isB ["InvalidLibrary"] x)]) (ev_lst (a1 (ev_isv hx hm _ _ rfl) (a1 (ev_isv hx hm _ _ rfl) (a1 (ev_isv hx hm _ _ rfl) a0))) (line rfl)) ?_
    refine seq_v (.lst ([D.bl (isB ["InvalidWord"] x), D.bl (isB ["InvalidType"] x), D.bl (isB ["InvalidLibrary"] x)] ++ [D.bl (isB ["InvalidProgram"] x), D.bl (isB ["InvalidQuestion"] x)])) (ev_op (x := .lst ([D.bl (isB ["InvalidWord"] x), D.bl (isB ["InvalidType"] x), D.bl (isB ["InvalidLibrary"] x)])) (y := .lst [D.bl (isB ["InvalidProgram"] x), D.bl (isB ["InvalidQuestion"] x)]) (fun Q E q => q) (ev_lst (a1 (ev_isv hx hm _ _ rfl) (a1 (ev_isv hx hm _ _ rfl) a0)) (line rfl)) fun Q q => ⟨line rfl, q⟩) ?_
    refine seq_v (.lst ([D.bl (isB ["InvalidWord"] x), D.bl (isB ["InvalidType"] x), D.bl (isB ["InvalidLibrary"] x)] ++ [D.bl (isB ["InvalidProgram"] x), D.bl (isB ["InvalidQuestion"] x)] ++ [D.bl (isB ["InvalidRoom"] x), D.bl (isB ["InvalidDraft"] x), D.bl (isB ["InvalidOperation"] x)])) (ev_op (x := .lst ([D.bl (isB ["InvalidWord"] x), D.bl (isB ["InvalidType"] x), D.bl (isB ["InvalidLibrary"] x)] ++ [D.bl (isB ["InvalidProgram"] x), D.bl (isB ["InvalidQuestion"] x)])) (y := .lst [D.bl (isB ["InvalidRoom"] x), D.bl (isB ["InvalidDraft"] x), D.bl (isB ["InvalidOperation"] x)]) (fun Q E q => q) (ev_lst (a1 (ev_isv hx hm _ _ rfl) (a1 (ev_isv hx hm _ _ rfl) (a1 (ev_isv hx hm _ _ rfl) a0))) (line rfl)) fun Q q => ⟨line rfl, q⟩) ?_
    refine seq_v (.lst ([D.bl (isB ["InvalidWord"] x), D.bl (isB ["InvalidType"] x), D.bl (isB ["InvalidLibrary"] x)] ++ [D.bl (isB ["InvalidProgram"] x), D.bl (isB ["InvalidQuestion"] x)] ++ [D.bl (isB ["InvalidRoom"] x), D.bl (isB ["InvalidDraft"] x), D.bl (isB ["InvalidOperation"] x)] ++ [D.bl (isB ["ParseError"] x), D.bl (isB ["BuildError", "InvalidWord", "InvalidType", "InvalidLibrary", "InvalidProgram", "InvalidQuestion", "InvalidRoom", "InvalidDraft", "InvalidOperation", "ParseError"] x), D.bl (isB ["BuildError", "InvalidWord", "InvalidType", "InvalidLibrary", "InvalidProgram", "InvalidQuestion", "InvalidRoom", "InvalidDraft", "InvalidOperation", "ParseError"] x)])) (ev_op (x := .lst ([D.bl (isB ["InvalidWord"] x), D.bl (isB ["InvalidType"] x), D.bl (isB ["InvalidLibrary"] x)] ++ [D.bl (isB ["InvalidProgram"] x), D.bl (isB ["InvalidQuestion"] x)] ++ [D.bl (isB ["InvalidRoom"] x), D.bl (isB ["InvalidDraft"] x), D.bl (isB ["InvalidOperation"] x)])) (y := .lst [D.bl (isB ["ParseError"] x), D.bl (isB ["BuildError", "InvalidWord", "InvalidType", "InvalidLibrary", "InvalidProgram", "InvalidQuestion", "InvalidRoom", "InvalidDraft", "InvalidOperation", "ParseError"] x), D.bl (isB ["BuildError", "InvalidWord", "InvalidType", "InvalidLibrary", "InvalidProgram", "InvalidQuestion", "InvalidRoom", "InvalidDraft", "InvalidOperation", "ParseError"] x)]) (fun Q E q => q) (ev_lst (a1 (ev_isv hx hm _ _ rfl) (a1 (ev_isv hx hm _ _ rfl) (a1 (ev_isv hx hm _ _ rfl) a0))) (line rfl)) fun Q q => ⟨line rfl, q⟩) ?_
    have e := ev_lc (ρ := [Sl.d (.fn a W), Sl.d (.lst ([D.bl (isB ["InvalidWord"] x), D.bl (isB ["InvalidType"] x), D.bl (isB ["InvalidLibrary"] x)] ++ [D.bl (isB ["InvalidProgram"] x), D.bl (isB ["InvalidQuestion"] x)] ++ [D.bl (isB ["InvalidRoom"] x), D.bl (isB ["InvalidDraft"] x), D.bl (isB ["InvalidOperation"] x)] ++ [D.bl (isB ["ParseError"] x), D.bl (isB ["BuildError", "InvalidWord", "InvalidType", "InvalidLibrary", "InvalidProgram", "InvalidQuestion", "InvalidRoom", "InvalidDraft", "InvalidOperation", "ParseError"] x), D.bl (isB ["BuildError", "InvalidWord", "InvalidType", "InvalidLibrary", "InvalidProgram", "InvalidQuestion", "InvalidRoom", "InvalidDraft", "InvalidOperation", "ParseError"] x)])), Sl.no]) (w := dIList (dVar 1)) (T := .one 2) (vs := [2]) (f := dIf (dB (dVar 2)) (dC (.str "x")) (dC (.str "."))) (fun b : Bool => D.bl b) (fun b => .str (markS b)) (xs := kindsB x) (fun Q E q => q) (line rfl) fun b _ => ⟨_, rfl, ev_mark b rfl⟩
    refine ret_v (.str (kindsS x)) (ev_joinT (a := "") (ys := (kindsB x).map markS) (fun Q E q => q) e (marks_strs _) ?_) hq
    rw [marks_sum]
    show _ + _ * 0 ≤ _
    rw [Nat.mul_zero]
    exact Nat.le_trans (show 11 ≤ 12 by decide) (line rfl : 12 ≤ 16777216)
theorem ok__law_others {P : Program} {w : World} {mg : Gm} {base : Heap} {Z : Ads} (A : All mg Z) : DefOk P w mg base 2 "_law_others" 1 (f_asks mg othersS) := by
  refine mkDef (N := ["_law_error", "_law_told", "_law_one"]) (ps := ["_law_error"]) A.d__law_others sc__law_others (fun _ _ _ _ _ _ us hl => match us, hl with | [_], _ => rfl) fun fa cdv Ar outer s H E hr => ⟨_,
    (dss_cons (ds_set (i := 1) (de_lst (da_cons (de_isV (de_var 0) A.n_isinstance A.xc_UnknownWord.nm A.iv_UnknownWord FP.boot_isinstance) (da_cons (de_isV (de_var 0) A.n_isinstance A.xc_NoProgram.nm A.iv_NoProgram FP.boot_isinstance) (da_cons (de_isV (de_var 0) A.n_isinstance A.xc_NothingToUndo.nm A.iv_NothingToUndo FP.boot_isinstance) da_nil)))) (fun _ => sc__law_others.nd))
    (dss_cons (ds_set (i := 1) (de_op ok_add (de_var 1) (de_lst (da_cons (de_isV (de_var 0) A.n_isinstance A.xc_TooMany.nm A.iv_TooMany FP.boot_isinstance) (da_cons (de_isV (de_var 0) A.n_isinstance A.xc_Refused.nm A.iv_Refused FP.boot_isinstance) (da_cons (de_isV (de_var 0) A.n_isinstance A.xc_InvalidNumber.nm A.iv_InvalidNumber FP.boot_isinstance) da_nil))))) (fun _ => sc__law_others.nd))
    (dss_cons (ds_set (i := 1) (de_op ok_add (de_var 1) (de_lst (da_cons (de_isVb (de_var 0) A.n_isinstance A.n_KeyError A.iv_KeyError FP.boot_KeyError FP.boot_isinstance) (da_cons (de_isVb (de_var 0) A.n_isinstance A.n_IndexError A.iv_IndexError FP.boot_IndexError FP.boot_isinstance) (da_cons (de_isVb (de_var 0) A.n_isinstance A.n_LookupError A.iv_LookupError FP.boot_LookupError FP.boot_isinstance) da_nil))))) (fun _ => sc__law_others.nd))
    (dss_cons (ds_set (i := 1) (de_op ok_add (de_var 1) (de_lst (da_cons (de_isVb (de_var 0) A.n_isinstance A.n_OverflowError A.iv_OverflowError FP.boot_OverflowError FP.boot_isinstance) (da_cons (de_isVb (de_var 0) A.n_isinstance A.n_ArithmeticError A.iv_ArithmeticError FP.boot_ArithmeticError FP.boot_isinstance) da_nil)))) (fun _ => sc__law_others.nd))
    (dss_one (ds_ret (de_join de_str (de_lc (own := [("_law_one", 2)]) (fun _ => sc__law_others.nd) (di_list (de_op ok_add (de_var 1) (de_lst (da_cons (de_isVb (de_var 0) A.n_isinstance A.n_RuntimeError A.iv_RuntimeError FP.boot_RuntimeError FP.boot_isinstance) da_nil)))) (fun _ => blkOk_by (by kernel_rfl)) (dg_name (i := 2) (fun _ => sc__law_others.nd)) dts_nil (de_if (dt_val (de_var 2)) de_str de_str))))))))),  fun ds Q Ex hl hf => ?_⟩
  match ds, hl, hf with
  | [.fn a W], _, ⟨x, hx, hm, hq⟩ =>
    have e0 : startD 3 [.fn a W] = [Sl.d (.fn a W), Sl.no, Sl.no] := rfl
    have hnN : (["_law_error", "_law_told", "_law_one"] : List Str).length = 3 := rfl
    rw [hnN, e0]
    clear e0 hnN
    refine seq_v (.lst [D.bl (isB ["UnknownWord"] x), D.bl (isB ["NoProgram"] x), D.bl (isB ["NothingToUndo"] x)]) (ev_lst (a1 (ev_isv hx hm _ _ rfl) (a1 (ev_isv hx hm _ _ rfl) (a1 (ev_isv hx hm _ _ rfl) a0))) (line rfl)) ?_
    refine seq_v (.lst ([D.bl (isB ["UnknownWord"] x), D.bl (isB ["NoProgram"] x), D.bl (isB ["NothingToUndo"] x)] ++ [D.bl (isB ["TooMany"] x), D.bl (isB ["Refused"] x), D.bl (isB ["InvalidNumber"] x)])) (ev_op (x := .lst ([D.bl (isB ["UnknownWord"] x), D.bl (isB ["NoProgram"] x), D.bl (isB ["NothingToUndo"] x)])) (y := .lst [D.bl (isB ["TooMany"] x), D.bl (isB ["Refused"] x), D.bl (isB ["InvalidNumber"] x)]) (fun Q E q => q) (ev_lst (a1 (ev_isv hx hm _ _ rfl) (a1 (ev_isv hx hm _ _ rfl) (a1 (ev_isv hx hm _ _ rfl) a0))) (line rfl)) fun Q q => ⟨line rfl, q⟩) ?_
    refine seq_v (.lst ([D.bl (isB ["UnknownWord"] x), D.bl (isB ["NoProgram"] x), D.bl (isB ["NothingToUndo"] x)] ++ [D.bl (isB ["TooMany"] x), D.bl (isB ["Refused"] x), D.bl (isB ["InvalidNumber"] x)] ++ [D.bl (isB ["UnknownWord"] x), D.bl (isB ["NothingToUndo"] x), D.bl (isB ["UnknownWord", "NoProgram", "NothingToUndo"] x)])) (ev_op (x := .lst ([D.bl (isB ["UnknownWord"] x), D.bl (isB ["NoProgram"] x), D.bl (isB ["NothingToUndo"] x)] ++ [D.bl (isB ["TooMany"] x), D.bl (isB ["Refused"] x), D.bl (isB ["InvalidNumber"] x)])) (y := .lst [D.bl (isB ["UnknownWord"] x), D.bl (isB ["NothingToUndo"] x), D.bl (isB ["UnknownWord", "NoProgram", "NothingToUndo"] x)]) (fun Q E q => q) (ev_lst (a1 (ev_isv hx hm _ _ rfl) (a1 (ev_isv hx hm _ _ rfl) (a1 (ev_isv hx hm _ _ rfl) a0))) (line rfl)) fun Q q => ⟨line rfl, q⟩) ?_
    refine seq_v (.lst ([D.bl (isB ["UnknownWord"] x), D.bl (isB ["NoProgram"] x), D.bl (isB ["NothingToUndo"] x)] ++ [D.bl (isB ["TooMany"] x), D.bl (isB ["Refused"] x), D.bl (isB ["InvalidNumber"] x)] ++ [D.bl (isB ["UnknownWord"] x), D.bl (isB ["NothingToUndo"] x), D.bl (isB ["UnknownWord", "NoProgram", "NothingToUndo"] x)] ++ [D.bl (isB ["TooMany"] x), D.bl (isB ["TooMany", "Refused"] x)])) (ev_op (x := .lst ([D.bl (isB ["UnknownWord"] x), D.bl (isB ["NoProgram"] x), D.bl (isB ["NothingToUndo"] x)] ++ [D.bl (isB ["TooMany"] x), D.bl (isB ["Refused"] x), D.bl (isB ["InvalidNumber"] x)] ++ [D.bl (isB ["UnknownWord"] x), D.bl (isB ["NothingToUndo"] x), D.bl (isB ["UnknownWord", "NoProgram", "NothingToUndo"] x)])) (y := .lst [D.bl (isB ["TooMany"] x), D.bl (isB ["TooMany", "Refused"] x)]) (fun Q E q => q) (ev_lst (a1 (ev_isv hx hm _ _ rfl) (a1 (ev_isv hx hm _ _ rfl) a0)) (line rfl)) fun Q q => ⟨line rfl, q⟩) ?_
    have e := ev_lc (ρ := [Sl.d (.fn a W), Sl.d (.lst ([D.bl (isB ["UnknownWord"] x), D.bl (isB ["NoProgram"] x), D.bl (isB ["NothingToUndo"] x)] ++ [D.bl (isB ["TooMany"] x), D.bl (isB ["Refused"] x), D.bl (isB ["InvalidNumber"] x)] ++ [D.bl (isB ["UnknownWord"] x), D.bl (isB ["NothingToUndo"] x), D.bl (isB ["UnknownWord", "NoProgram", "NothingToUndo"] x)] ++ [D.bl (isB ["TooMany"] x), D.bl (isB ["TooMany", "Refused"] x)])), Sl.no]) (w := dIList (dOp rdAdd (dVar 1) (dLst (dCons (dIsV mg XS (fun y => decide (y ∈ (["InvalidNumber"] : List Str))) (dVar 0)) dNil)))) (T := .one 2) (vs := [2]) (f := dIf (dB (dVar 2)) (dC (.str "x")) (dC (.str "."))) (fun b : Bool => D.bl b) (fun b => .str (markS b)) (xs := othersB x) (fun Q E q => (ev_op (x := .lst ([D.bl (isB ["UnknownWord"] x), D.bl (isB ["NoProgram"] x), D.bl (isB ["NothingToUndo"] x)] ++ [D.bl (isB ["TooMany"] x), D.bl (isB ["Refused"] x), D.bl (isB ["InvalidNumber"] x)] ++ [D.bl (isB ["UnknownWord"] x), D.bl (isB ["NothingToUndo"] x), D.bl (isB ["UnknownWord", "NoProgram", "NothingToUndo"] x)] ++ [D.bl (isB ["TooMany"] x), D.bl (isB ["TooMany", "Refused"] x)])) (y := .lst [D.bl (isB ["InvalidNumber"] x)]) (fun Q E q => q) (ev_lst (a1 (ev_isv hx hm _ _ rfl) a0) (line rfl)) fun Q q => ⟨line rfl, q⟩ : Ev _ _ (.lst ([D.bl (isB ["UnknownWord"] x), D.bl (isB ["NoProgram"] x), D.bl (isB ["NothingToUndo"] x)] ++ [D.bl (isB ["TooMany"] x), D.bl (isB ["Refused"] x), D.bl (isB ["InvalidNumber"] x)] ++ [D.bl (isB ["UnknownWord"] x), D.bl (isB ["NothingToUndo"] x), D.bl (isB ["UnknownWord", "NoProgram", "NothingToUndo"] x)] ++ [D.bl (isB ["TooMany"] x), D.bl (isB ["TooMany", "Refused"] x)] ++ [D.bl (isB ["InvalidNumber"] x)]))) _ E q) (line rfl) fun b _ => ⟨_, rfl, ev_mark b rfl⟩
    refine ret_v (.str (othersS x)) (ev_joinT (a := "") (ys := (othersB x).map markS) (fun Q E q => q) e (marks_strs _) ?_) hq
    rw [marks_sum]
    show _ + _ * 0 ≤ _
    rw [Nat.mul_zero]
    exact Nat.le_trans (show 12 ≤ 12 by decide) (line rfl : 12 ≤ 16777216)
end K00
namespace K00
open PySem L2 FP
variable [FP.Tabl]
open KP
theorem ok__law_right {P : Program} {w : World} {mg : Gm} {base : Heap} {Z : Ads} (A : All mg Z) (G__law_kinds : DefOk P w mg base 2 "_law_kinds" 1 (f_asks mg kindsS)) (G__law_others : DefOk P w mg base 2 "_law_others" 1 (f_asks mg othersS)) (G__law_pick : DefOk P w mg base 2 "_law_pick" 2 f_pick) : DefOk P w mg base 12 "_law_right" 1 f_tok1 := by
  refine mkDef (N := ["_law_dice_here", "_law_thing", "_law_words", "_law_base", "_law_due", "_law_others_here", "_law_at", "_law_kept", "_law_one"]) (ps := ["_law_dice_here"]) A.d__law_right sc__law_right (fun _ _ _ _ _ _ us hl => match us, hl with | [_], _ => rfl) fun fa cdv Ar outer s H E hr => ⟨_,
    (dss_cons (ds_set (i := 1) (de_call G__law_pick (fun _ => hr.mono (by omega)) (fun _ => pas (takes_of rfl rfl rfl rfl)) (da_cons (de_var 0) (da_cons (de_lst (da_cons de_int (da_cons de_str (da_cons de_str (da_cons de_non (da_cons (de_tup da_nil) (da_cons (de_tup (da_cons de_str (da_cons de_int da_nil))) (da_cons (de_op ok_pow de_int de_int) (da_cons de_bl (da_cons (de_tup (da_cons (de_tup (da_cons (de_tup (da_cons de_str da_nil)) (da_cons de_str da_nil))) (da_cons de_str da_nil))) (da_cons (de_lst (da_cons de_int da_nil)) (da_cons (de_disp (dps_cons de_str (de_tup da_nil) dps_nil)) da_nil)))))))))))) da_nil))) (fun _ => sc__law_right.nd))
    (dss_cons (ds_set (i := 2) (de_call G__law_pick (fun _ => hr.mono (by omega)) (fun _ => pas (takes_of rfl rfl rfl rfl)) (da_cons (de_var 0) (da_cons (de_lst (da_cons de_str (da_cons de_str (da_cons de_str (da_cons de_str da_nil))))) da_nil))) (fun _ => sc__law_right.nd))
    (dss_cons (ds_set (i := 3) (de_lst (da_cons (de_exT veB A.ex_InvalidWord (de_var 2)) (da_cons (de_exT veB A.ex_InvalidType (de_var 2)) (da_cons (de_exT veB A.ex_InvalidLibrary (de_var 2)) (da_cons (de_exT veB A.ex_InvalidProgram (de_var 2)) da_nil))))) (fun _ => sc__law_right.nd))
    (dss_cons (ds_setO (i := 3) (do_cat (de_var 3) (de_lst (da_cons (de_exT veB A.ex_InvalidQuestion (de_var 2)) (da_cons (de_exT veB A.ex_InvalidRoom (de_var 2)) (da_cons (de_exT veB A.ex_InvalidDraft (de_var 2)) (da_cons (de_exT veB A.ex_InvalidOperation (de_var 2)) da_nil)))))) (fun _ => sc__law_right.nd))
    (dss_cons (ds_append 3 (de_exT veB A.ex_BuildError (de_var 2)) (pe := fun _ _ h => ps_expr (pe_bm PySem.F.plainAttrs_list PySem.F.slot_list_append PySem.F.type_list_append mt_append (pv 3) (pa_cons h pa_nil))))
    (dss_cons (ds_if (dt_w (dw_or (dt_viewL 3 (dt_cmp (ok_ne (fun _ => hr.r.units)) (de_lc (own := [("_law_one", 8)]) (fun _ => sc__law_right.nd) (di_list (de_var 3)) (fun _ => blkOk_by (by kernel_rfl)) (dg_name (i := 8) (fun _ => sc__law_right.nd)) dts_nil (de_callTy (ok_strV A.sv (fun _ => hr.r.units)) A.n_str FP.boot_str (da_cons (de_var 8) da_nil))) (de_op ok_rep (de_lst (da_cons (de_var 2) da_nil)) de_int))) (dw_or1 (dt_viewL 3 (dt_cmp (ok_ne (fun _ => hr.r.units)) (de_lc (own := [("_law_one", 8)]) (fun _ => sc__law_right.nd) (di_list (de_var 3)) (fun _ => blkOk_by (by kernel_rfl)) (dg_name (i := 8) (fun _ => sc__law_right.nd)) dts_nil (de_call G__law_others (fun _ => hr.mono (by omega)) (fun _ => pas takes0) (da_cons (de_var 8) da_nil))) (de_op ok_rep (de_lst (da_cons (de_op ok_mulS de_str de_int) da_nil)) de_int))))))
    (dss_one (ds_ret de_bl))
    dss_nil)
    (dss_cons (ds_ownSet 3 de_int (de_exF (k := 0) veB veS A.xc_ParseError (fun _ => hr.mono (by omega)) (de_call G__law_pick (fun _ => hr.mono (by omega)) (fun _ => pas (takes_of rfl rfl rfl rfl)) (da_cons (de_var 0) (da_cons (de_lst (da_cons de_non (da_cons de_int (da_cons de_int (da_cons (de_op ok_pow de_int de_int) da_nil))))) da_nil)))) (fun _ _ _ h h2 => ps_asg h2 (pg_sub (pv 3) h set_list)))
    (dss_cons (ds_setLc (i := 4) (own := [("_law_at", 6)]) (fun _ => sc__law_right.nd) (di_range1 A.n_range (da_cons de_int da_nil)) (fun _ => blkOk_by (by kernel_rfl)) (dg_name (i := 6) (fun _ => sc__law_right.nd)) dts_nil (de_op ok_add (de_op ok_add (de_op ok_add (de_op ok_mulS de_str (de_var 6)) de_str) (de_op ok_mulS de_str (de_op ok_sub de_int (de_var 6)))) de_str) (fun _ => sw_true rfl rfl rfl (by decide +kernel)))
    (dss_cons (ds_if (dt_w (dw_or (dt_viewL 3 (dt_cmp (ok_ne (fun _ => hr.r.units)) (de_lc (own := [("_law_one", 8)]) (fun _ => sc__law_right.nd) (di_list (de_var 3)) (fun _ => blkOk_by (by kernel_rfl)) (dg_name (i := 8) (fun _ => sc__law_right.nd)) dts_nil (de_call G__law_kinds (fun _ => hr.mono (by omega)) (fun _ => pas takes0) (da_cons (de_var 8) da_nil))) (de_var 4))) (dw_or1 (dt_cmp (ok_ne (fun _ => hr.r.units)) (de_call G__law_kinds (fun _ => hr.mono (by omega)) (fun _ => pas (takes_of rfl rfl rfl rfl)) (da_cons (de_exT veB A.ex_BuildError (de_var 2)) da_nil)) (de_op ok_add (de_op ok_mulS de_str de_int) de_str)))))
    (dss_one (ds_ret de_bl))
    dss_nil)
    (dss_cons (ds_setO (i := 5) (do_lst (da_cons (de_exFK (k := 0) A.xc_UnknownWord (fun _ => hr.mono (by omega)) (de_var 1)) (da_cons (de_exF (k := 0) lkB lkS A.xc_NoProgram (fun _ => hr.mono (by omega)) (de_var 1)) (da_cons (de_exF (k := 0) ixB ixS A.xc_NothingToUndo (fun _ => hr.mono (by omega)) (de_var 1)) (da_cons (de_exF (k := 0) ovB ovS A.xc_TooMany (fun _ => hr.mono (by omega)) (de_var 1)) (da_cons (de_exF (k := 0) arB arS A.xc_Refused (fun _ => hr.mono (by omega)) (de_var 1)) da_nil)))))) (fun _ => sc__law_right.nd))
    (dss_cons (ds_append 5 (de_exF (k := 0) rtB rtS A.xc_InvalidNumber (fun _ => hr.mono (by omega)) (de_var 1)) (pe := fun _ _ h => ps_expr (pe_bm PySem.F.plainAttrs_list PySem.F.slot_list_append PySem.F.type_list_append mt_append (pv 5) (pa_cons h pa_nil))))
    (dss_cons (ds_set (i := 4) (de_lst (da_cons de_str (da_cons de_str (da_cons de_str (da_cons de_str (da_cons de_str (da_cons de_str da_nil))))))) (fun _ => sc__law_right.nd))
    (dss_cons (ds_if (dt_w (dw_or (dt_viewL 5 (dt_cmp (ok_ne (fun _ => hr.r.units)) (de_lc (own := [("_law_one", 8)]) (fun _ => sc__law_right.nd) (di_list (de_var 5)) (fun _ => blkOk_by (by kernel_rfl)) (dg_name (i := 8) (fun _ => sc__law_right.nd)) dts_nil (de_call G__law_others (fun _ => hr.mono (by omega)) (fun _ => pas takes0) (da_cons (de_var 8) da_nil))) (de_var 4))) (dw_or1 (dt_viewL 5 (dt_cmp (ok_ne (fun _ => hr.r.units)) (de_lc (own := [("_law_one", 8)]) (fun _ => sc__law_right.nd) (di_list (de_var 5)) (fun _ => blkOk_by (by kernel_rfl)) (dg_name (i := 8) (fun _ => sc__law_right.nd)) dts_nil (de_call G__law_kinds (fun _ => hr.mono (by omega)) (fun _ => pas takes0) (da_cons (de_var 8) da_nil))) (de_op ok_rep (de_lst (da_cons (de_op ok_mulS de_str de_int) da_nil)) de_int))))))
    (dss_one (ds_ret de_bl))
    dss_nil)
    (dss_cons (ds_set (i := 6) (de_call G__law_pick (fun _ => hr.mono (by omega)) (fun _ => pas (takes_of rfl rfl rfl rfl)) (da_cons (de_var 0) (da_cons (de_lst (da_cons de_non (da_cons de_int (da_cons de_int (da_cons (de_op ok_pow de_int de_int) da_nil))))) da_nil))) (fun _ => sc__law_right.nd))
    (dss_cons (ds_if (dt_w (dw_or (dt_cmp (ok_ne (fun _ => hr.r.units)) (de_call G__law_others (fun _ => hr.mono (by omega)) (fun _ => pas (takes_of rfl rfl rfl rfl)) (da_cons (de_ownIx 3 de_int) da_nil)) (de_op ok_mulS de_str de_int)) (dw_or1 (dt_cmp (ok_ne (fun _ => hr.r.units)) (de_callB (ok_reprE (fun _ => hr.g) (fun _ => hr.r.units)) A.n_repr FP.boot_repr (da_cons (de_xfV A.xc_ParseError (de_exF (k := 0) veB veS A.xc_ParseError (fun _ => hr.mono (by omega)) (de_var 6))) da_nil)) (de_callB (ok_reprE (fun _ => hr.g) (fun _ => hr.r.units)) A.n_repr FP.boot_repr (da_cons (de_var 6) da_nil))))))
    (dss_one (ds_ret de_bl))
    dss_nil)
    (dss_cons (ds_set (i := 7) (de_lst (da_cons (de_xfV A.xc_UnknownWord (de_ownIx 5 de_int)) (da_cons (de_xfV A.xc_NoProgram (de_ownIx 5 de_int)) (da_cons (de_xfV A.xc_NothingToUndo (de_ownIx 5 de_int)) (da_cons (de_xfV A.xc_TooMany (de_ownIx 5 de_int)) (da_cons (de_xfV A.xc_Refused (de_ownIx 5 de_int)) (da_cons (de_xfV A.xc_InvalidNumber (de_ownIx 5 de_int)) da_nil))))))) (fun _ => sc__law_right.nd))
    (dss_one (ds_ret (de_cmp (ok_eq (fun _ => hr.r.units)) (de_callB (ok_reprQ (fun _ => hr.g) (fun _ => hr.r.units)) A.n_repr FP.boot_repr (da_cons (de_var 7) da_nil)) (de_callB (ok_reprQ (fun _ => hr.g) (fun _ => hr.r.units)) A.n_repr FP.boot_repr (da_cons (de_op ok_rep (de_lst (da_cons (de_var 1) da_nil)) de_int) da_nil))))))))))))))))))))),  fun ds Q Ex hl hf => ?_⟩
  match ds, hl, hf with
  | [.tok], _, hq =>
    have e0 : startD 9 [.tok] = [Sl.d (.tok), Sl.no, Sl.no, Sl.no, Sl.no, Sl.no, Sl.no, Sl.no, Sl.no] := rfl
    have hnN : (["_law_dice_here", "_law_thing", "_law_words", "_law_base", "_law_due", "_law_others_here", "_law_at", "_law_kept", "_law_one"] : List Str).length = 9 := rfl
    rw [hnN, e0]
    clear e0 hnN
    have hpw20 : CPowW 10 20 := by decide +kernel
    have hpw30 : CPowW 10 30 := by decide +kernel
    refine seq_p (fun d => thingB d = true) (evP_pick (fun Q E q => q) (a1 (fun Q E q => q) (a1 (fun Q E q => q) (a1 (fun Q E q => q) (a1 (fun Q E q => q) (a1 (ev_tup a0 (line rfl)) (a1 (ev_tup (a1 (fun Q E q => q) (a1 (fun Q E q => q) a0)) (line rfl)) (a1 (d := .int (10 ^ 30)) (fun Q E q => ⟨hpw30, q⟩) (a1 (fun Q E q => q) (a1 (ev_tup (a1 (ev_tup (a1 (ev_tup (a1 (fun Q E q => q) a0) (line rfl)) (a1 (fun Q E q => q) a0)) (line rfl)) (a1 (fun Q E q => q) a0)) (line rfl)) (a1 (ev_lst (a1 (fun Q E q => q) a0) (line rfl)) (a1 (ev_disp (kvs := [(.inr "a", .tup [])]) (kv1 (fun Q E q => q) rfl (ev_tup a0 (line rfl)) kv0) (show 1 ≤ 15 by decide)) a0))))))))))) rfl (line rfl) fun d hd => things_ok hd) fun th hth => ?_
    refine seq_p (fun d => ∃ z : Str, d = .str z ∧ PyData.strOk z = true) (evP_pick (fun Q E q => q) (a1 (fun Q E q => q) (a1 (fun Q E q => q) (a1 (fun Q E q => q) (a1 (fun Q E q => q) a0)))) rfl (line rfl) fun d hd => words_ok hd) ?_
    rintro _ ⟨wd, rfl, hwd⟩
    refine seq_T4 (d := .str wd) (fun Q E q => q) ?_
    intro ba0 bW0 bh0 ba1 bW1 bh1 ba2 bW2 bh2 ba3 bW3 bh3
    refine seq_cat4 (d := .str wd) (xs := [D.fn ba0 bW0, D.fn ba1 bW1, D.fn ba2 bW2, D.fn ba3 bW3]) (fun Q E q => q) (fun Q E q => q) (line rfl) ?_
    intro ba4 bW4 bh4 ba5 bW5 bh5 ba6 bW6 bh6 ba7 bW7 bh7
    refine seq_appT (d := .str wd) rfl (fun Q E q => q) (line_lt rfl) ?_
    intro ba8 bW8 bh8
    refine env_is (ρ' := [.d .tok, .d th, .d (.str wd), .own (([(ba0, bW0, "InvalidWord"), (ba1, bW1, "InvalidType"), (ba2, bW2, "InvalidLibrary"), (ba3, bW3, "InvalidProgram"), (ba4, bW4, "InvalidQuestion"), (ba5, bW5, "InvalidRoom"), (ba6, bW6, "InvalidDraft"), (ba7, bW7, "InvalidOperation"), (ba8, bW8, "BuildError")] : List Ex3).map eX), Sl.no, Sl.no, Sl.no, Sl.no, Sl.no]) rfl ?_
    have hb1 : ∀ p ∈ ([(ba0, bW0, "InvalidWord"), (ba1, bW1, "InvalidType"), (ba2, bW2, "InvalidLibrary"), (ba3, bW3, "InvalidProgram"), (ba4, bW4, "InvalidQuestion"), (ba5, bW5, "InvalidRoom"), (ba6, bW6, "InvalidDraft"), (ba7, bW7, "InvalidOperation"), (ba8, bW8, "BuildError")] : List Ex3), ExT mg p.2.1 p.1 p.2.2 (.str wd) ∧ p.2.2 ∈ XB := by
      intro p hp
      simp only [List.mem_cons, List.not_mem_nil, or_false] at hp
      rcases hp with rfl | rfl | rfl | rfl | rfl | rfl | rfl | rfl | rfl
      · exact ⟨bh0, (by decide +kernel : ("InvalidWord" : Str) ∈ XB)⟩
      · exact ⟨bh1, (by decide +kernel : ("InvalidType" : Str) ∈ XB)⟩
      · exact ⟨bh2, (by decide +kernel : ("InvalidLibrary" : Str) ∈ XB)⟩
      · exact ⟨bh3, (by decide +kernel : ("InvalidProgram" : Str) ∈ XB)⟩
      · exact ⟨bh4, (by decide +kernel : ("InvalidQuestion" : Str) ∈ XB)⟩
      · exact ⟨bh5, (by decide +kernel : ("InvalidRoom" : Str) ∈ XB)⟩
      · exact ⟨bh6, (by decide +kernel : ("InvalidDraft" : Str) ∈ XB)⟩
      · exact ⟨bh7, (by decide +kernel : ("InvalidOperation" : Str) ∈ XB)⟩
      · exact ⟨bh8, (by decide +kernel : ("BuildError" : Str) ∈ XB)⟩
    have hb2 : ∀ p ∈ ([(ba0, bW0, "InvalidWord"), (ba1, bW1, "InvalidType"), (ba2, bW2, "InvalidLibrary"), (ba3, bW3, "InvalidProgram"), (ba4, bW4, "InvalidQuestion"), (ba5, bW5, "InvalidRoom"), (ba6, bW6, "InvalidDraft"), (ba7, bW7, "InvalidOperation"), (ba8, bW8, "BuildError")] : List Ex3), IsX mg p.2.1 p.1 p.2.2 ∧ p.2.2 ∈ XS := by
      intro p hp
      simp only [List.mem_cons, List.not_mem_nil, or_false] at hp
      rcases hp with rfl | rfl | rfl | rfl | rfl | rfl | rfl | rfl | rfl
      · exact ⟨bh0.is, (by decide +kernel : ("InvalidWord" : Str) ∈ XS)⟩
      · exact ⟨bh1.is, (by decide +kernel : ("InvalidType" : Str) ∈ XS)⟩
      · exact ⟨bh2.is, (by decide +kernel : ("InvalidLibrary" : Str) ∈ XS)⟩
      · exact ⟨bh3.is, (by decide +kernel : ("InvalidProgram" : Str) ∈ XS)⟩
      · exact ⟨bh4.is, (by decide +kernel : ("InvalidQuestion" : Str) ∈ XS)⟩
      · exact ⟨bh5.is, (by decide +kernel : ("InvalidRoom" : Str) ∈ XS)⟩
      · exact ⟨bh6.is, (by decide +kernel : ("InvalidDraft" : Str) ∈ XS)⟩
      · exact ⟨bh7.is, (by decide +kernel : ("InvalidOperation" : Str) ∈ XS)⟩
      · exact ⟨bh8.is, (by decide +kernel : ("BuildError" : Str) ∈ XS)⟩
    have hnT : (([(ba0, bW0, "InvalidWord"), (ba1, bW1, "InvalidType"), (ba2, bW2, "InvalidLibrary"), (ba3, bW3, "InvalidProgram"), (ba4, bW4, "InvalidQuestion"), (ba5, bW5, "InvalidRoom"), (ba6, bW6, "InvalidDraft"), (ba7, bW7, "InvalidOperation"), (ba8, bW8, "BuildError")] : List Ex3)).map (fun p => p.2.2) = baseN := rfl
    have hlT : (([(ba0, bW0, "InvalidWord"), (ba1, bW1, "InvalidType"), (ba2, bW2, "InvalidLibrary"), (ba3, bW3, "InvalidProgram"), (ba4, bW4, "InvalidQuestion"), (ba5, bW5, "InvalidRoom"), (ba6, bW6, "InvalidDraft"), (ba7, bW7, "InvalidOperation"), (ba8, bW8, "BuildError")] : List Ex3)).length = 9 := rfl
    refine seq_ifF ?_ ?_
    · generalize ([(ba0, bW0, "InvalidWord"), (ba1, bW1, "InvalidType"), (ba2, bW2, "InvalidLibrary"), (ba3, bW3, "InvalidProgram"), (ba4, bW4, "InvalidQuestion"), (ba5, bW5, "InvalidRoom"), (ba6, bW6, "InvalidDraft"), (ba7, bW7, "InvalidOperation"), (ba8, bW8, "BuildError")] : List Ex3) = T at hb1 hb2 hnT hlT ⊢
      refine or_f ?_ ?_
      · refine t_viewL rfl ?_
        refine b_v ?_
        refine ev_op (x := .lst (T.map fun p => D.str ((fun _ => wd) p.2.2))) (y := .lst ((List.replicate 9 wd).map D.str)) ?_ ?_ ?_
        · refine ev_lc (w := dIList (dVar 3)) (T := .one 8) (vs := [8]) (xs := T) eX (fun p => .str ((fun _ => wd) p.2.2)) ?_ ?_ ?_
          · exact (fun Q E q => q)
          · rw [hlT]; exact line rfl
          · refine fun p hp => ⟨_, rfl, ?_⟩
            refine ev_cb (ds := [eX p]) (a1 (fun Q E q => q) a0) ?_
            exact fun Q q => ⟨p.2.2, wd, (hb1 p hp).1, (hb1 p hp).2, q⟩
        · exact (ev_repS 9 9 rfl (by decide) (fun Q E q => q))
        · exact fun Q q => row_ne (g := (fun _ => wd)) hnT rfl (same9 hwd) q
      · refine t_viewL rfl ?_
        refine b_v ?_
        refine ev_op (x := .lst (T.map fun p => D.str (othersS p.2.2))) (y := .lst ((List.replicate 9 (dd 12)).map D.str)) ?_ ?_ ?_
        · refine ev_lc (w := dIList (dVar 3)) (T := .one 8) (vs := [8]) (xs := T) eX (fun p => .str (othersS p.2.2)) ?_ ?_ ?_
          · exact (fun Q E q => q)
          · rw [hlT]; exact line rfl
          · refine fun p hp => ⟨_, rfl, ?_⟩
            refine ev_call (ds := [eX p]) (a1 (fun Q E q => q) a0) rfl ?_
            exact fun Q E q => ⟨p.2.2, (hb2 p hp).1, (hb2 p hp).2, q⟩
        · exact (ev_repS 9 9 rfl (by decide) (ev_dots 12 12 rfl (by decide)))
        · exact fun Q q => row_ne (g := othersS) hnT base_oth (same9 (sok_dd 12 (by decide))) q
    clear hnT hlT
    refine seq_setX (n := 8) (m := 8) (P := fun _ => True) rfl (evP_pick (fun Q E q => q) (a1 (fun Q E q => q) (a1 (fun Q E q => q) (a1 (fun Q E q => q) (a1 (d := .int (10 ^ 20)) (fun Q E q => ⟨hpw20, q⟩) a0)))) rfl (line rfl) fun _ _ => trivial) (fun Q E q => q) rfl ?_
    intro pd pa pW _ ph
    refine env_is (ρ' := [.d .tok, .d th, .d (.str wd), .own (([(ba0, bW0, "InvalidWord"), (ba1, bW1, "InvalidType"), (ba2, bW2, "InvalidLibrary"), (ba3, bW3, "InvalidProgram"), (ba4, bW4, "InvalidQuestion"), (ba5, bW5, "InvalidRoom"), (ba6, bW6, "InvalidDraft"), (ba7, bW7, "InvalidOperation"), (pa, pW, "ParseError")] : List Ex3).map eX), Sl.no, Sl.no, Sl.no, Sl.no, Sl.no]) rfl ?_
    have hb3 : ∀ p ∈ ([(ba0, bW0, "InvalidWord"), (ba1, bW1, "InvalidType"), (ba2, bW2, "InvalidLibrary"), (ba3, bW3, "InvalidProgram"), (ba4, bW4, "InvalidQuestion"), (ba5, bW5, "InvalidRoom"), (ba6, bW6, "InvalidDraft"), (ba7, bW7, "InvalidOperation"), (pa, pW, "ParseError")] : List Ex3), IsX mg p.2.1 p.1 p.2.2 ∧ p.2.2 ∈ XS := by
      intro p hp
      simp only [List.mem_cons, List.not_mem_nil, or_false] at hp
      rcases hp with rfl | rfl | rfl | rfl | rfl | rfl | rfl | rfl | rfl
      · exact ⟨bh0.is, (by decide +kernel : ("InvalidWord" : Str) ∈ XS)⟩
      · exact ⟨bh1.is, (by decide +kernel : ("InvalidType" : Str) ∈ XS)⟩
      · exact ⟨bh2.is, (by decide +kernel : ("InvalidLibrary" : Str) ∈ XS)⟩
      · exact ⟨bh3.is, (by decide +kernel : ("InvalidProgram" : Str) ∈ XS)⟩
      · exact ⟨bh4.is, (by decide +kernel : ("InvalidQuestion" : Str) ∈ XS)⟩
      · exact ⟨bh5.is, (by decide +kernel : ("InvalidRoom" : Str) ∈ XS)⟩
      · exact ⟨bh6.is, (by decide +kernel : ("InvalidDraft" : Str) ∈ XS)⟩
      · exact ⟨bh7.is, (by decide +kernel : ("InvalidOperation" : Str) ∈ XS)⟩
      · exact ⟨ph.is, (by decide +kernel : ("ParseError" : Str) ∈ XS)⟩
    clear hb1 hb2
    refine seq_v (.lst (duesL.map D.str)) (Ev.eq (ev_lc (T := .one 6) (vs := [6]) (xs := List.range 9) (fun i : Nat => D.int (0 + (i : Int))) (fun i : Nat => D.str (dueS (0 + (i : Int)))) (fun Q E q => ⟨by decide, by decide, q⟩) (line rfl) fun i hi => ⟨_, rfl, ev_due rfl (by omega) (by have := List.mem_range.mp hi; omega)⟩) (by unfold duesL; rw [List.map_map]; rfl)) ?_
    have hnT : (([(ba0, bW0, "InvalidWord"), (ba1, bW1, "InvalidType"), (ba2, bW2, "InvalidLibrary"), (ba3, bW3, "InvalidProgram"), (ba4, bW4, "InvalidQuestion"), (ba5, bW5, "InvalidRoom"), (ba6, bW6, "InvalidDraft"), (ba7, bW7, "InvalidOperation"), (pa, pW, "ParseError")] : List Ex3)).map (fun p => p.2.2) = baseN2 := rfl
    have hlT : (([(ba0, bW0, "InvalidWord"), (ba1, bW1, "InvalidType"), (ba2, bW2, "InvalidLibrary"), (ba3, bW3, "InvalidProgram"), (ba4, bW4, "InvalidQuestion"), (ba5, bW5, "InvalidRoom"), (ba6, bW6, "InvalidDraft"), (ba7, bW7, "InvalidOperation"), (pa, pW, "ParseError")] : List Ex3)).length = 9 := rfl
    refine seq_ifF ?_ ?_
    · generalize ([(ba0, bW0, "InvalidWord"), (ba1, bW1, "InvalidType"), (ba2, bW2, "InvalidLibrary"), (ba3, bW3, "InvalidProgram"), (ba4, bW4, "InvalidQuestion"), (ba5, bW5, "InvalidRoom"), (ba6, bW6, "InvalidDraft"), (ba7, bW7, "InvalidOperation"), (pa, pW, "ParseError")] : List Ex3) = T at hb3 hnT hlT ⊢
      refine or_f ?_ ?_
      · refine t_viewL rfl ?_
        refine b_v ?_
        refine ev_op (x := .lst (T.map fun p => D.str (kindsS p.2.2))) (y := .lst ((duesL).map D.str)) ?_ ?_ ?_
        · refine ev_lc (w := dIList (dVar 3)) (T := .one 8) (vs := [8]) (xs := T) eX (fun p => .str (kindsS p.2.2)) ?_ ?_ ?_
          · exact (fun Q E q => q)
          · rw [hlT]; exact line rfl
          · refine fun p hp => ⟨_, rfl, ?_⟩
            refine ev_call (ds := [eX p]) (a1 (fun Q E q => q) a0) rfl ?_
            exact fun Q E q => ⟨p.2.2, (hb3 p hp).1, (hb3 p hp).2, q⟩
        · exact (fun Q E q => q)
        · exact fun Q q => row_ne (g := kindsS) hnT base_kin (by decide +kernel) q
      · refine b_v ?_
        refine ev_op (x := .str (kindsS "BuildError")) (y := .str (dd 9 ++ "xx")) ?_ ?_ ?_
        · exact fun Q E q => (fun Q E q => q) _ E fun a W h => ⟨rfl, "BuildError", h.is, (by decide +kernel : ("BuildError" : Str) ∈ XS), q⟩
        · refine ev_op (x := .str (dd 9)) (y := .str "xx") (ev_dots 9 9 rfl (by decide)) (fun Q E q => q) fun Q q => ⟨?_, q⟩
          exact line (by rw [dd_eq]; decide +kernel)
        · exact fun Q q => ne_str (by rw [be_kin, decide_eq_true rfl]; exact q)
    clear hnT hlT
    refine seq_F5 (d := th) (fun Q E q => q) ?_
    intro oa0 oW0 oh0 oa1 oW1 oh1 oa2 oW2 oh2 oa3 oW3 oh3 oa4 oW4 oh4
    refine seq_appF (d := th) rfl (fun Q E q => q) (line_lt rfl) ?_
    intro oa5 oW5 oh5
    refine seq_v (.lst (due6.map D.str)) (ev_lst (a1 (fun Q E q => q) (a1 (fun Q E q => q) (a1 (fun Q E q => q) (a1 (fun Q E q => q) (a1 (fun Q E q => q) (a1 (fun Q E q => q) a0)))))) (line rfl)) ?_
    refine env_is (ρ' := [.d .tok, .d th, .d (.str wd), .own (([(ba0, bW0, "InvalidWord"), (ba1, bW1, "InvalidType"), (ba2, bW2, "InvalidLibrary"), (ba3, bW3, "InvalidProgram"), (ba4, bW4, "InvalidQuestion"), (ba5, bW5, "InvalidRoom"), (ba6, bW6, "InvalidDraft"), (ba7, bW7, "InvalidOperation"), (pa, pW, "ParseError")] : List Ex3).map eX), .d (.lst (due6.map D.str)), .own (([(oa0, oW0, "UnknownWord"), (oa1, oW1, "NoProgram"), (oa2, oW2, "NothingToUndo"), (oa3, oW3, "TooMany"), (oa4, oW4, "Refused"), (oa5, oW5, "InvalidNumber")] : List Ex3).map eX), Sl.no, Sl.no, Sl.no]) rfl ?_
    have ho : ∀ p ∈ ([(oa0, oW0, "UnknownWord"), (oa1, oW1, "NoProgram"), (oa2, oW2, "NothingToUndo"), (oa3, oW3, "TooMany"), (oa4, oW4, "Refused"), (oa5, oW5, "InvalidNumber")] : List Ex3), IsX mg p.2.1 p.1 p.2.2 ∧ p.2.2 ∈ XS := by
      intro p hp
      simp only [List.mem_cons, List.not_mem_nil, or_false] at hp
      rcases hp with rfl | rfl | rfl | rfl | rfl | rfl
      · exact ⟨oh0.is, (by decide +kernel : ("UnknownWord" : Str) ∈ XS)⟩
      · exact ⟨oh1.is, (by decide +kernel : ("NoProgram" : Str) ∈ XS)⟩
      · exact ⟨oh2.is, (by decide +kernel : ("NothingToUndo" : Str) ∈ XS)⟩
      · exact ⟨oh3.is, (by decide +kernel : ("TooMany" : Str) ∈ XS)⟩
      · exact ⟨oh4.is, (by decide +kernel : ("Refused" : Str) ∈ XS)⟩
      · exact ⟨oh5.is, (by decide +kernel : ("InvalidNumber" : Str) ∈ XS)⟩
    have hnT : (([(oa0, oW0, "UnknownWord"), (oa1, oW1, "NoProgram"), (oa2, oW2, "NothingToUndo"), (oa3, oW3, "TooMany"), (oa4, oW4, "Refused"), (oa5, oW5, "InvalidNumber")] : List Ex3)).map (fun p => p.2.2) = othN := rfl
    have hlT : (([(oa0, oW0, "UnknownWord"), (oa1, oW1, "NoProgram"), (oa2, oW2, "NothingToUndo"), (oa3, oW3, "TooMany"), (oa4, oW4, "Refused"), (oa5, oW5, "InvalidNumber")] : List Ex3)).length = 6 := rfl
    refine seq_ifF ?_ ?_
    · generalize ([(oa0, oW0, "UnknownWord"), (oa1, oW1, "NoProgram"), (oa2, oW2, "NothingToUndo"), (oa3, oW3, "TooMany"), (oa4, oW4, "Refused"), (oa5, oW5, "InvalidNumber")] : List Ex3) = T at ho hnT hlT ⊢
      refine or_f ?_ ?_
      · refine t_viewL rfl ?_
        refine b_v ?_
        refine ev_op (x := .lst (T.map fun p => D.str (othersS p.2.2))) (y := .lst ((due6).map D.str)) ?_ ?_ ?_
        · refine ev_lc (w := dIList (dVar 5)) (T := .one 8) (vs := [8]) (xs := T) eX (fun p => .str (othersS p.2.2)) ?_ ?_ ?_
          · exact (fun Q E q => q)
          · rw [hlT]; exact line rfl
          · refine fun p hp => ⟨_, rfl, ?_⟩
            refine ev_call (ds := [eX p]) (a1 (fun Q E q => q) a0) rfl ?_
            exact fun Q E q => ⟨p.2.2, (ho p hp).1, (ho p hp).2, q⟩
        · exact (fun Q E q => q)
        · exact fun Q q => row_ne (g := othersS) hnT oth_oth (by decide +kernel) q
      · refine t_viewL rfl ?_
        refine b_v ?_
        refine ev_op (x := .lst (T.map fun p => D.str (kindsS p.2.2))) (y := .lst ((List.replicate 6 (dd 11)).map D.str)) ?_ ?_ ?_
        · refine ev_lc (w := dIList (dVar 5)) (T := .one 8) (vs := [8]) (xs := T) eX (fun p => .str (kindsS p.2.2)) ?_ ?_ ?_
          · exact (fun Q E q => q)
          · rw [hlT]; exact line rfl
          · refine fun p hp => ⟨_, rfl, ?_⟩
            refine ev_call (ds := [eX p]) (a1 (fun Q E q => q) a0) rfl ?_
            exact fun Q E q => ⟨p.2.2, (ho p hp).1, (ho p hp).2, q⟩
        · exact (ev_repS 6 6 rfl (by decide) (ev_dots 11 11 rfl (by decide)))
        · exact fun Q q => row_ne (g := kindsS) hnT oth_kin (same9 (sok_dd 11 (by decide))) q
    clear hnT hlT
    refine seq_p (fun d => ∃ s, RepP d s) (evP_pick (fun Q E q => q) (a1 (fun Q E q => q) (a1 (fun Q E q => q) (a1 (fun Q E q => q) (a1 (d := .int (10 ^ 30)) (fun Q E q => ⟨hpw30, q⟩) a0)))) rfl (line rfl) fun d hd => ats_ok hd) ?_
    rintro aat ⟨as, has⟩
    refine seq_ifF (or_f (b_v (ev_op (x := .str (othersS "ParseError")) (y := .str (dd 12)) (ev_call (a1 (ev_ownIx (m := 8) (d := .fn pa pW) rfl (fun Q E q => q) rfl) a0) rfl fun Q E q => ⟨"ParseError", ph.is, (by decide +kernel : ("ParseError" : Str) ∈ XS), q⟩) (ev_dots 12 12 rfl (by decide)) fun Q q => ne_str (by rw [pe_oth, decide_eq_true rfl]; exact q))) (b_v (ev_op (x := .str as) (y := .str as) (ev_cb (a1 (ev_fdl (fun Q E q => q)) a0) fun Q q => has.r.rd q) (ev_cb (a1 (fun Q E q => q) a0) fun Q q => has.r.rd q) fun Q q => ne_str (by rw [decide_eq_true rfl]; exact q)))) ?_
    obtain ⟨ts, _, hts⟩ := thing_rd hth
    refine seq_v (.lst [th, th, th, th, th, th]) (ev_lst (a1 (ev_oIx (a := oa0) (W := oW0) rfl rfl oh0) (a1 (ev_oIx (a := oa1) (W := oW1) rfl rfl oh1) (a1 (ev_oIx (a := oa2) (W := oW2) rfl rfl oh2) (a1 (ev_oIx (a := oa3) (W := oW3) rfl rfl oh3) (a1 (ev_oIx (a := oa4) (W := oW4) rfl rfl oh4) (a1 (ev_oIx (a := oa5) (W := oW5) rfl rfl oh5) a0)))))) (line rfl)) ?_
    exact ret_v (.bl true) (ev_op (x := .str ts) (y := .str ts) (ev_cb (a1 (fun Q E q => q) a0) fun Q q => hts Q q) (ev_cb (a1 (ev_repD 6 6 rfl (by decide) (fun Q E q => q)) a0) fun Q q => hts Q q) fun Q q => eq_same ts q) hq
end K00
namespace K00
open PySem L2 FP
variable [FP.Tabl]
open KP
theorem ok_law {P : Program} {w : World} {mg : Gm} {base : Heap} {Z : Ads} (A : All mg Z) (G__law_dice : DefOk P w mg base 1 "_law_dice" 2 f_dice) (G__law_right : DefOk P w mg base 12 "_law_right" 1 f_tok1) : DefOk P w mg base 14 "law" 1 KP.f_law := by
  refine mkDef (N := ["_law_script", "_law_spot", "_law_dice_here", "_law_turn"]) (ps := ["_law_script"]) A.d_law sc_law (fun _ _ _ _ _ _ us hl => match us, hl with | [_], _ => rfl) fun fa cdv Ar outer s H E hr => ⟨_,
    (dss_cons (ds_for (di_range1 A.n_range (da_cons (de_callB ok_max A.n_max FP.boot_max (da_cons de_int (da_cons (de_callB ok_min A.n_min FP.boot_min (da_cons de_int (da_cons (de_callB ok_len A.n_len FP.boot_len (da_cons (de_var 0) da_nil)) da_nil))) da_nil))) da_nil)) (dg_name (i := 1) (fun _ => sc_law.nd))
    (dss_cons (ds_set (i := 2) (de_call G__law_dice (fun _ => hr.mono (by omega)) (fun _ => pas (takes_of rfl rfl rfl rfl)) (da_cons (de_var 0) (da_cons (de_var 1) da_nil))) (fun _ => sc_law.nd))
    (dss_one (ds_for (di_range1 A.n_range (da_cons de_int da_nil)) (dg_name (i := 3) (fun _ => sc_law.nd))
    (dss_one (ds_if (dt_not (dt_val (de_call G__law_right (fun _ => hr.mono (by omega)) (fun _ => pas (takes_of rfl rfl rfl rfl)) (da_cons (de_var 2) da_nil))))
    (dss_one (ds_ret de_bl))
    dss_nil)) (fun _ => passes_of rfl)))) (fun _ => passes_of rfl))
    (dss_one (ds_ret (de_cmp (ok_eq (fun _ => hr.r.units)) (de_lst (da_cons (de_xfV A.xc_ParseError (de_exF (k := 0) veB veS A.xc_ParseError (fun _ => hr.mono (by omega)) de_non)) (da_cons (de_xfV A.xc_ParseError (de_exF (k := 0) veB veS A.xc_ParseError (fun _ => hr.mono (by omega)) de_int)) (da_cons (de_xfV A.xc_TooMany (de_exF (k := 0) ovB ovS A.xc_TooMany (fun _ => hr.mono (by omega)) de_int)) da_nil)))) (de_lst (da_cons de_non (da_cons de_int (da_cons de_int da_nil)))))))),  fun ds Q Ex hl hf => ?_⟩
  match ds, hl, hf with
  | [.fz xs], _, ⟨⟨ns, hx, hn⟩, hq⟩ =>
    subst hx
    have e0 : startD 4 [.fz (ns.map D.int)] = [Sl.d (.fz (ns.map D.int)), Sl.no, Sl.no, Sl.no] := rfl
    have hnN : (["_law_script", "_law_spot", "_law_dice_here", "_law_turn"] : List Str).length = 4 := rfl
    rw [hnN, e0]
    clear e0 hnN
    have hm := spots (ns.map D.int).length
    refine seq_by (fun ρ => ∃ a b c, ρ = [Sl.d (.fz (ns.map D.int)), a, b, c]) (fun nx hnx => ?_) ?_
    · refine ⟨by omega, by omega, ?_⟩
      refine forD_inv (fun ρ => ∃ a b c, ρ = [Sl.d (.fz (ns.map D.int)), a, b, c]) _ _ ⟨_, _, _, rfl⟩ ?_ hnx
      rintro x hx ρ K ⟨a, b, c, rfl⟩ hK
      obtain ⟨j, rfl, hj⟩ := mem_range hx
      refine ⟨_, rfl, ?_⟩
      refine seq_v .tok (fun Q E q => ⟨rfl, ⟨ns, rfl⟩, ⟨by omega, by omega⟩, q⟩) ?_
      refine ⟨by decide, by decide, ?_⟩
      refine forD_inv (fun ρ => ∃ a e, ρ = [Sl.d (.fz (ns.map D.int)), a, Sl.d .tok, e]) _ _ ⟨_, _, rfl⟩ ?_ ?_
      · rintro y hy ρ' K' ⟨a, e, rfl⟩ hK'
        refine ⟨_, rfl, ?_⟩
        refine end_if false (not_v (b := true) (b_v (ev_call (a1 (fun Q E q => q) a0) rfl fun Q E q => q))) ?_
        exact hK' _ ⟨_, _, rfl⟩
      · rintro ρ' ⟨a, e, rfl⟩
        exact hK _ ⟨_, _, _, rfl⟩
    rintro ρ ⟨a, b, c, rfl⟩
    exact ret_v (.bl true) (ev_op (x := .lst [.non, .int 3, .int 40]) (y := .lst [.non, .int 3, .int 40]) (ev_lst (a1 (ev_fdl (fun Q E q => q)) (a1 (ev_fdl (fun Q E q => q)) (a1 (ev_fdl (fun Q E q => q)) a0))) (line rfl)) (ev_lst (a1 (fun Q E q => q) (a1 (fun Q E q => q) (a1 (fun Q E q => q) a0))) (line rfl)) fun Q q => eq_refl (by decide +kernel) rfl q) hq
end K00
namespace K00
open PySem L2 FP
variable [FP.Tabl]
theorem all_mk {K : PySem.W.Frag} {h : Heap} {mg : Str → Option Value} (X : K.In h) (G : h.Ns mainGlobals mg)
    {f__law_dice : Addr} {od__law_dice an__law_dice : Option Addr} {sl__law_dice : Array (Option Value)} {oc__law_dice kV__law_dice dc__law_dice pm__law_dice cd__law_dice ct__law_dice : Value}
    {f__law_roll : Addr} {od__law_roll an__law_roll : Option Addr} {sl__law_roll : Array (Option Value)} {oc__law_roll kV__law_roll dc__law_roll pm__law_roll cd__law_roll ct__law_roll : Value}
    {f__law_pick : Addr} {od__law_pick an__law_pick : Option Addr} {sl__law_pick : Array (Option Value)} {oc__law_pick kV__law_pick dc__law_pick pm__law_pick cd__law_pick ct__law_pick : Value}
    {f__law_kinds : Addr} {od__law_kinds an__law_kinds : Option Addr} {sl__law_kinds : Array (Option Value)} {oc__law_kinds kV__law_kinds dc__law_kinds pm__law_kinds cd__law_kinds ct__law_kinds : Value}
    {f__law_others : Addr} {od__law_others an__law_others : Option Addr} {sl__law_others : Array (Option Value)} {oc__law_others kV__law_others dc__law_others pm__law_others cd__law_others ct__law_others : Value}
    {f__law_right : Addr} {od__law_right an__law_right : Option Addr} {sl__law_right : Array (Option Value)} {oc__law_right kV__law_right dc__law_right pm__law_right cd__law_right ct__law_right : Value}
    {f_law : Addr} {od_law an_law : Option Addr} {sl_law : Array (Option Value)} {oc_law kV_law dc_law pm_law cd_law ct_law : Value}
    {Cx_BuildError : Addr}
    {Cx_InvalidWord : Addr}
    {Cx_InvalidType : Addr}
    {Cx_InvalidLibrary : Addr}
    {Cx_InvalidProgram : Addr}
    {Cx_InvalidQuestion : Addr}
    {Cx_InvalidRoom : Addr}
    {Cx_InvalidDraft : Addr}
    {Cx_InvalidOperation : Addr}
    {Cx_ParseError : Addr}
    {f_ParseError___init__ : Addr} {od_ParseError___init__ an_ParseError___init__ : Option Addr} {sl_ParseError___init__ : Array (Option Value)} {oc_ParseError___init__ kV_ParseError___init__ dc_ParseError___init__ pm_ParseError___init__ cd_ParseError___init__ ct_ParseError___init__ : Value}
    {Cx_UnknownWord : Addr}
    {f_UnknownWord___init__ : Addr} {od_UnknownWord___init__ an_UnknownWord___init__ : Option Addr} {sl_UnknownWord___init__ : Array (Option Value)} {oc_UnknownWord___init__ kV_UnknownWord___init__ dc_UnknownWord___init__ pm_UnknownWord___init__ cd_UnknownWord___init__ ct_UnknownWord___init__ : Value}
    {Cx_NoProgram : Addr}
    {f_NoProgram___init__ : Addr} {od_NoProgram___init__ an_NoProgram___init__ : Option Addr} {sl_NoProgram___init__ : Array (Option Value)} {oc_NoProgram___init__ kV_NoProgram___init__ dc_NoProgram___init__ pm_NoProgram___init__ cd_NoProgram___init__ ct_NoProgram___init__ : Value}
    {Cx_NothingToUndo : Addr}
    {f_NothingToUndo___init__ : Addr} {od_NothingToUndo___init__ an_NothingToUndo___init__ : Option Addr} {sl_NothingToUndo___init__ : Array (Option Value)} {oc_NothingToUndo___init__ kV_NothingToUndo___init__ dc_NothingToUndo___init__ pm_NothingToUndo___init__ cd_NothingToUndo___init__ ct_NothingToUndo___init__ : Value}
    {Cx_TooMany : Addr}
    {f_TooMany___init__ : Addr} {od_TooMany___init__ an_TooMany___init__ : Option Addr} {sl_TooMany___init__ : Array (Option Value)} {oc_TooMany___init__ kV_TooMany___init__ dc_TooMany___init__ pm_TooMany___init__ cd_TooMany___init__ ct_TooMany___init__ : Value}
    {Cx_Refused : Addr}
    {f_Refused___init__ : Addr} {od_Refused___init__ an_Refused___init__ : Option Addr} {sl_Refused___init__ : Array (Option Value)} {oc_Refused___init__ kV_Refused___init__ dc_Refused___init__ pm_Refused___init__ cd_Refused___init__ ct_Refused___init__ : Value}
    {Cx_InvalidNumber : Addr}
    {f_InvalidNumber___init__ : Addr} {od_InvalidNumber___init__ an_InvalidNumber___init__ : Option Addr} {sl_InvalidNumber___init__ : Array (Option Value)} {oc_InvalidNumber___init__ kV_InvalidNumber___init__ dc_InvalidNumber___init__ pm_InvalidNumber___init__ cd_InvalidNumber___init__ ct_InvalidNumber___init__ : Value}
    (z_ArithmeticError : PySem.W.nsIn K mainGlobals "ArithmeticError" = some none)
    (z_IndexError : PySem.W.nsIn K mainGlobals "IndexError" = some none)
    (z_KeyError : PySem.W.nsIn K mainGlobals "KeyError" = some none)
    (z_LookupError : PySem.W.nsIn K mainGlobals "LookupError" = some none)
    (z_OverflowError : PySem.W.nsIn K mainGlobals "OverflowError" = some none)
    (z_RuntimeError : PySem.W.nsIn K mainGlobals "RuntimeError" = some none)
    (z_ValueError : PySem.W.nsIn K mainGlobals "ValueError" = some none)
    (z_abs : PySem.W.nsIn K mainGlobals "abs" = some none)
    (z_int : PySem.W.nsIn K mainGlobals "int" = some none)
    (z_isinstance : PySem.W.nsIn K mainGlobals "isinstance" = some none)
    (z_len : PySem.W.nsIn K mainGlobals "len" = some none)
    (z_max : PySem.W.nsIn K mainGlobals "max" = some none)
    (z_min : PySem.W.nsIn K mainGlobals "min" = some none)
    (z_range : PySem.W.nsIn K mainGlobals "range" = some none)
    (z_repr : PySem.W.nsIn K mainGlobals "repr" = some none)
    (z_str : PySem.W.nsIn K mainGlobals "str" = some none)
    (a__law_dice : PySem.W.nsIn K mainGlobals "_law_dice" = some (some (.ref f__law_dice)))
    (l__law_dice : K.lookup f__law_dice = some ⟨oc__law_dice, od__law_dice, .func (PySem.W.fnOf "_law_dice" "_law_dice" (defArgs s__law_dice) (defBody s__law_dice) (defScope s__law_dice) .none kV__law_dice dc__law_dice pm__law_dice an__law_dice cd__law_dice ct__law_dice), sl__law_dice⟩)
    (c__law_dice : PySem.W.codeIn K cd__law_dice "_law_dice" = true)
    (k__law_dice : PySem.W.keepIn K (.ref f__law_dice) = true)
    (a__law_roll : PySem.W.nsIn K mainGlobals "_law_roll" = some (some (.ref f__law_roll)))
    (l__law_roll : K.lookup f__law_roll = some ⟨oc__law_roll, od__law_roll, .func (PySem.W.fnOf "_law_roll" "_law_roll" (defArgs s__law_roll) (defBody s__law_roll) (defScope s__law_roll) .none kV__law_roll dc__law_roll pm__law_roll an__law_roll cd__law_roll ct__law_roll), sl__law_roll⟩)
    (c__law_roll : PySem.W.codeIn K cd__law_roll "_law_roll" = true)
    (k__law_roll : PySem.W.keepIn K (.ref f__law_roll) = true)
    (a__law_pick : PySem.W.nsIn K mainGlobals "_law_pick" = some (some (.ref f__law_pick)))
    (l__law_pick : K.lookup f__law_pick = some ⟨oc__law_pick, od__law_pick, .func (PySem.W.fnOf "_law_pick" "_law_pick" (defArgs s__law_pick) (defBody s__law_pick) (defScope s__law_pick) .none kV__law_pick dc__law_pick pm__law_pick an__law_pick cd__law_pick ct__law_pick), sl__law_pick⟩)
    (c__law_pick : PySem.W.codeIn K cd__law_pick "_law_pick" = true)
    (k__law_pick : PySem.W.keepIn K (.ref f__law_pick) = true)
    (a__law_kinds : PySem.W.nsIn K mainGlobals "_law_kinds" = some (some (.ref f__law_kinds)))
    (l__law_kinds : K.lookup f__law_kinds = some ⟨oc__law_kinds, od__law_kinds, .func (PySem.W.fnOf "_law_kinds" "_law_kinds" (defArgs s__law_kinds) (defBody s__law_kinds) (defScope s__law_kinds) .none kV__law_kinds dc__law_kinds pm__law_kinds an__law_kinds cd__law_kinds ct__law_kinds), sl__law_kinds⟩)
    (c__law_kinds : PySem.W.codeIn K cd__law_kinds "_law_kinds" = true)
    (k__law_kinds : PySem.W.keepIn K (.ref f__law_kinds) = true)
    (a__law_others : PySem.W.nsIn K mainGlobals "_law_others" = some (some (.ref f__law_others)))
    (l__law_others : K.lookup f__law_others = some ⟨oc__law_others, od__law_others, .func (PySem.W.fnOf "_law_others" "_law_others" (defArgs s__law_others) (defBody s__law_others) (defScope s__law_others) .none kV__law_others dc__law_others pm__law_others an__law_others cd__law_others ct__law_others), sl__law_others⟩)
    (c__law_others : PySem.W.codeIn K cd__law_others "_law_others" = true)
    (k__law_others : PySem.W.keepIn K (.ref f__law_others) = true)
    (a__law_right : PySem.W.nsIn K mainGlobals "_law_right" = some (some (.ref f__law_right)))
    (l__law_right : K.lookup f__law_right = some ⟨oc__law_right, od__law_right, .func (PySem.W.fnOf "_law_right" "_law_right" (defArgs s__law_right) (defBody s__law_right) (defScope s__law_right) .none kV__law_right dc__law_right pm__law_right an__law_right cd__law_right ct__law_right), sl__law_right⟩)
    (c__law_right : PySem.W.codeIn K cd__law_right "_law_right" = true)
    (k__law_right : PySem.W.keepIn K (.ref f__law_right) = true)
    (a_law : PySem.W.nsIn K mainGlobals "law" = some (some (.ref f_law)))
    (l_law : K.lookup f_law = some ⟨oc_law, od_law, .func (PySem.W.fnOf "law" "law" (defArgs s_law) (defBody s_law) (defScope s_law) .none kV_law dc_law pm_law an_law cd_law ct_law), sl_law⟩)
    (c_law : PySem.W.codeIn K cd_law "law" = true)
    (k_law : PySem.W.keepIn K (.ref f_law) = true)
    (xa_BuildError : PySem.W.nsIn K mainGlobals "BuildError" = some (some (.ref Cx_BuildError)))
    (xe_BuildError : PySem.W.excIn K Cx_BuildError veBm "ValueError.__new__" = true)
    (xk_BuildError : PySem.W.keepIn K (.ref Cx_BuildError) = true)
    (xs_BuildError : PySem.W.subIn K (.ref Cx_BuildError) (.type "BaseException") = some true)
    (xt_BuildError : PySem.W.typeIn K (.ref Cx_BuildError) = some (.type "type"))
    (xa_InvalidWord : PySem.W.nsIn K mainGlobals "InvalidWord" = some (some (.ref Cx_InvalidWord)))
    (xe_InvalidWord : PySem.W.excIn K Cx_InvalidWord veBm "ValueError.__new__" = true)
    (xk_InvalidWord : PySem.W.keepIn K (.ref Cx_InvalidWord) = true)
    (xs_InvalidWord : PySem.W.subIn K (.ref Cx_InvalidWord) (.type "BaseException") = some true)
    (xt_InvalidWord : PySem.W.typeIn K (.ref Cx_InvalidWord) = some (.type "type"))
    (xa_InvalidType : PySem.W.nsIn K mainGlobals "InvalidType" = some (some (.ref Cx_InvalidType)))
    (xe_InvalidType : PySem.W.excIn K Cx_InvalidType veBm "ValueError.__new__" = true)
    (xk_InvalidType : PySem.W.keepIn K (.ref Cx_InvalidType) = true)
    (xs_InvalidType : PySem.W.subIn K (.ref Cx_InvalidType) (.type "BaseException") = some true)
    (xt_InvalidType : PySem.W.typeIn K (.ref Cx_InvalidType) = some (.type "type"))
    (xa_InvalidLibrary : PySem.W.nsIn K mainGlobals "InvalidLibrary" = some (some (.ref Cx_InvalidLibrary)))
    (xe_InvalidLibrary : PySem.W.excIn K Cx_InvalidLibrary veBm "ValueError.__new__" = true)
    (xk_InvalidLibrary : PySem.W.keepIn K (.ref Cx_InvalidLibrary) = true)
    (xs_InvalidLibrary : PySem.W.subIn K (.ref Cx_InvalidLibrary) (.type "BaseException") = some true)
    (xt_InvalidLibrary : PySem.W.typeIn K (.ref Cx_InvalidLibrary) = some (.type "type"))
    (xa_InvalidProgram : PySem.W.nsIn K mainGlobals "InvalidProgram" = some (some (.ref Cx_InvalidProgram)))
    (xe_InvalidProgram : PySem.W.excIn K Cx_InvalidProgram veBm "ValueError.__new__" = true)
    (xk_InvalidProgram : PySem.W.keepIn K (.ref Cx_InvalidProgram) = true)
    (xs_InvalidProgram : PySem.W.subIn K (.ref Cx_InvalidProgram) (.type "BaseException") = some true)
    (xt_InvalidProgram : PySem.W.typeIn K (.ref Cx_InvalidProgram) = some (.type "type"))
    (xa_InvalidQuestion : PySem.W.nsIn K mainGlobals "InvalidQuestion" = some (some (.ref Cx_InvalidQuestion)))
    (xe_InvalidQuestion : PySem.W.excIn K Cx_InvalidQuestion veBm "ValueError.__new__" = true)
    (xk_InvalidQuestion : PySem.W.keepIn K (.ref Cx_InvalidQuestion) = true)
    (xs_InvalidQuestion : PySem.W.subIn K (.ref Cx_InvalidQuestion) (.type "BaseException") = some true)
    (xt_InvalidQuestion : PySem.W.typeIn K (.ref Cx_InvalidQuestion) = some (.type "type"))
    (xa_InvalidRoom : PySem.W.nsIn K mainGlobals "InvalidRoom" = some (some (.ref Cx_InvalidRoom)))
    (xe_InvalidRoom : PySem.W.excIn K Cx_InvalidRoom veBm "ValueError.__new__" = true)
    (xk_InvalidRoom : PySem.W.keepIn K (.ref Cx_InvalidRoom) = true)
    (xs_InvalidRoom : PySem.W.subIn K (.ref Cx_InvalidRoom) (.type "BaseException") = some true)
    (xt_InvalidRoom : PySem.W.typeIn K (.ref Cx_InvalidRoom) = some (.type "type"))
    (xa_InvalidDraft : PySem.W.nsIn K mainGlobals "InvalidDraft" = some (some (.ref Cx_InvalidDraft)))
    (xe_InvalidDraft : PySem.W.excIn K Cx_InvalidDraft veBm "ValueError.__new__" = true)
    (xk_InvalidDraft : PySem.W.keepIn K (.ref Cx_InvalidDraft) = true)
    (xs_InvalidDraft : PySem.W.subIn K (.ref Cx_InvalidDraft) (.type "BaseException") = some true)
    (xt_InvalidDraft : PySem.W.typeIn K (.ref Cx_InvalidDraft) = some (.type "type"))
    (xa_InvalidOperation : PySem.W.nsIn K mainGlobals "InvalidOperation" = some (some (.ref Cx_InvalidOperation)))
    (xe_InvalidOperation : PySem.W.excIn K Cx_InvalidOperation veBm "ValueError.__new__" = true)
    (xk_InvalidOperation : PySem.W.keepIn K (.ref Cx_InvalidOperation) = true)
    (xs_InvalidOperation : PySem.W.subIn K (.ref Cx_InvalidOperation) (.type "BaseException") = some true)
    (xt_InvalidOperation : PySem.W.typeIn K (.ref Cx_InvalidOperation) = some (.type "type"))
    (xa_ParseError : PySem.W.nsIn K mainGlobals "ParseError" = some (some (.ref Cx_ParseError)))
    (xq_ParseError : PySem.W.excInitIn K Cx_ParseError veBm "ValueError.__new__" = true)
    (xv_ParseError : PySem.W.excOver K Cx_ParseError veBm = true)
    (xS_ParseError : PySem.W.findIn K (.ref Cx_ParseError) "__setattr__" = some (some (.builtin "object.__setattr__")))
    (xn_ParseError : PySem.W.findIn K (.ref Cx_ParseError) "line" = some none)
    (xh_ParseError : PySem.W.hasDictIn K Cx_ParseError = true)
    (xc_ParseError : PySem.W.findIn K (.ref Cx_ParseError) "__init__" = some (some (.ref f_ParseError___init__)))
    (xf_ParseError : PySem.W.isFn K (.ref f_ParseError___init__) = true)
    (l_ParseError___init__ : K.lookup f_ParseError___init__ = some ⟨oc_ParseError___init__, od_ParseError___init__, .func (PySem.W.fnOf "__init__" "ParseError.__init__" (defArgs s_ParseError___init__) (defBody s_ParseError___init__) (defScope s_ParseError___init__) .none kV_ParseError___init__ dc_ParseError___init__ pm_ParseError___init__ an_ParseError___init__ cd_ParseError___init__ ct_ParseError___init__), sl_ParseError___init__⟩)
    (c_ParseError___init__ : PySem.W.codeIn K cd_ParseError___init__ "ParseError.__init__" = true)
    (xk_ParseError : PySem.W.keepIn K (.ref Cx_ParseError) = true)
    (xs_ParseError : PySem.W.subIn K (.ref Cx_ParseError) (.type "BaseException") = some true)
    (xt_ParseError : PySem.W.typeIn K (.ref Cx_ParseError) = some (.type "type"))
    (xg_ParseError : PySem.W.findIn K (.ref Cx_ParseError) "__getattribute__" = some (some (.builtin "BaseException.__getattribute__")))
    (xG_ParseError : PySem.W.findIn K (.ref Cx_ParseError) "__getattr__" = some none)
    (xa_UnknownWord : PySem.W.nsIn K mainGlobals "UnknownWord" = some (some (.ref Cx_UnknownWord)))
    (xq_UnknownWord : PySem.W.excInitIn K Cx_UnknownWord keBm "LookupError.__new__" = true)
    (xv_UnknownWord : PySem.W.excOver K Cx_UnknownWord keBm = true)
    (xS_UnknownWord : PySem.W.findIn K (.ref Cx_UnknownWord) "__setattr__" = some (some (.builtin "object.__setattr__")))
    (xn_UnknownWord : PySem.W.findIn K (.ref Cx_UnknownWord) "asked" = some none)
    (xh_UnknownWord : PySem.W.hasDictIn K Cx_UnknownWord = true)
    (xc_UnknownWord : PySem.W.findIn K (.ref Cx_UnknownWord) "__init__" = some (some (.ref f_UnknownWord___init__)))
    (xf_UnknownWord : PySem.W.isFn K (.ref f_UnknownWord___init__) = true)
    (l_UnknownWord___init__ : K.lookup f_UnknownWord___init__ = some ⟨oc_UnknownWord___init__, od_UnknownWord___init__, .func (PySem.W.fnOf "__init__" "UnknownWord.__init__" (defArgs s_UnknownWord___init__) (defBody s_UnknownWord___init__) (defScope s_UnknownWord___init__) .none kV_UnknownWord___init__ dc_UnknownWord___init__ pm_UnknownWord___init__ an_UnknownWord___init__ cd_UnknownWord___init__ ct_UnknownWord___init__), sl_UnknownWord___init__⟩)
    (c_UnknownWord___init__ : PySem.W.codeIn K cd_UnknownWord___init__ "UnknownWord.__init__" = true)
    (xk_UnknownWord : PySem.W.keepIn K (.ref Cx_UnknownWord) = true)
    (xs_UnknownWord : PySem.W.subIn K (.ref Cx_UnknownWord) (.type "BaseException") = some true)
    (xt_UnknownWord : PySem.W.typeIn K (.ref Cx_UnknownWord) = some (.type "type"))
    (xg_UnknownWord : PySem.W.findIn K (.ref Cx_UnknownWord) "__getattribute__" = some (some (.builtin "BaseException.__getattribute__")))
    (xG_UnknownWord : PySem.W.findIn K (.ref Cx_UnknownWord) "__getattr__" = some none)
    (xa_NoProgram : PySem.W.nsIn K mainGlobals "NoProgram" = some (some (.ref Cx_NoProgram)))
    (xq_NoProgram : PySem.W.excInitIn K Cx_NoProgram lkBm "LookupError.__new__" = true)
    (xv_NoProgram : PySem.W.excOver K Cx_NoProgram lkBm = true)
    (xS_NoProgram : PySem.W.findIn K (.ref Cx_NoProgram) "__setattr__" = some (some (.builtin "object.__setattr__")))
    (xn_NoProgram : PySem.W.findIn K (.ref Cx_NoProgram) "wanted" = some none)
    (xh_NoProgram : PySem.W.hasDictIn K Cx_NoProgram = true)
    (xc_NoProgram : PySem.W.findIn K (.ref Cx_NoProgram) "__init__" = some (some (.ref f_NoProgram___init__)))
    (xf_NoProgram : PySem.W.isFn K (.ref f_NoProgram___init__) = true)
    (l_NoProgram___init__ : K.lookup f_NoProgram___init__ = some ⟨oc_NoProgram___init__, od_NoProgram___init__, .func (PySem.W.fnOf "__init__" "NoProgram.__init__" (defArgs s_NoProgram___init__) (defBody s_NoProgram___init__) (defScope s_NoProgram___init__) .none kV_NoProgram___init__ dc_NoProgram___init__ pm_NoProgram___init__ an_NoProgram___init__ cd_NoProgram___init__ ct_NoProgram___init__), sl_NoProgram___init__⟩)
    (c_NoProgram___init__ : PySem.W.codeIn K cd_NoProgram___init__ "NoProgram.__init__" = true)
    (xk_NoProgram : PySem.W.keepIn K (.ref Cx_NoProgram) = true)
    (xs_NoProgram : PySem.W.subIn K (.ref Cx_NoProgram) (.type "BaseException") = some true)
    (xt_NoProgram : PySem.W.typeIn K (.ref Cx_NoProgram) = some (.type "type"))
    (xg_NoProgram : PySem.W.findIn K (.ref Cx_NoProgram) "__getattribute__" = some (some (.builtin "BaseException.__getattribute__")))
    (xG_NoProgram : PySem.W.findIn K (.ref Cx_NoProgram) "__getattr__" = some none)
    (xa_NothingToUndo : PySem.W.nsIn K mainGlobals "NothingToUndo" = some (some (.ref Cx_NothingToUndo)))
    (xq_NothingToUndo : PySem.W.excInitIn K Cx_NothingToUndo ixBm "IndexError.__new__" = true)
    (xv_NothingToUndo : PySem.W.excOver K Cx_NothingToUndo ixBm = true)
    (xS_NothingToUndo : PySem.W.findIn K (.ref Cx_NothingToUndo) "__setattr__" = some (some (.builtin "object.__setattr__")))
    (xn_NothingToUndo : PySem.W.findIn K (.ref Cx_NothingToUndo) "amount" = some none)
    (xh_NothingToUndo : PySem.W.hasDictIn K Cx_NothingToUndo = true)
    (xc_NothingToUndo : PySem.W.findIn K (.ref Cx_NothingToUndo) "__init__" = some (some (.ref f_NothingToUndo___init__)))
    (xf_NothingToUndo : PySem.W.isFn K (.ref f_NothingToUndo___init__) = true)
    (l_NothingToUndo___init__ : K.lookup f_NothingToUndo___init__ = some ⟨oc_NothingToUndo___init__, od_NothingToUndo___init__, .func (PySem.W.fnOf "__init__" "NothingToUndo.__init__" (defArgs s_NothingToUndo___init__) (defBody s_NothingToUndo___init__) (defScope s_NothingToUndo___init__) .none kV_NothingToUndo___init__ dc_NothingToUndo___init__ pm_NothingToUndo___init__ an_NothingToUndo___init__ cd_NothingToUndo___init__ ct_NothingToUndo___init__), sl_NothingToUndo___init__⟩)
    (c_NothingToUndo___init__ : PySem.W.codeIn K cd_NothingToUndo___init__ "NothingToUndo.__init__" = true)
    (xk_NothingToUndo : PySem.W.keepIn K (.ref Cx_NothingToUndo) = true)
    (xs_NothingToUndo : PySem.W.subIn K (.ref Cx_NothingToUndo) (.type "BaseException") = some true)
    (xt_NothingToUndo : PySem.W.typeIn K (.ref Cx_NothingToUndo) = some (.type "type"))
    (xg_NothingToUndo : PySem.W.findIn K (.ref Cx_NothingToUndo) "__getattribute__" = some (some (.builtin "BaseException.__getattribute__")))
    (xG_NothingToUndo : PySem.W.findIn K (.ref Cx_NothingToUndo) "__getattr__" = some none)
    (xa_TooMany : PySem.W.nsIn K mainGlobals "TooMany" = some (some (.ref Cx_TooMany)))
    (xq_TooMany : PySem.W.excInitIn K Cx_TooMany ovBm "OverflowError.__new__" = true)
    (xv_TooMany : PySem.W.excOver K Cx_TooMany ovBm = true)
    (xS_TooMany : PySem.W.findIn K (.ref Cx_TooMany) "__setattr__" = some (some (.builtin "object.__setattr__")))
    (xn_TooMany : PySem.W.findIn K (.ref Cx_TooMany) "limit" = some none)
    (xh_TooMany : PySem.W.hasDictIn K Cx_TooMany = true)
    (xc_TooMany : PySem.W.findIn K (.ref Cx_TooMany) "__init__" = some (some (.ref f_TooMany___init__)))
    (xf_TooMany : PySem.W.isFn K (.ref f_TooMany___init__) = true)
    (l_TooMany___init__ : K.lookup f_TooMany___init__ = some ⟨oc_TooMany___init__, od_TooMany___init__, .func (PySem.W.fnOf "__init__" "TooMany.__init__" (defArgs s_TooMany___init__) (defBody s_TooMany___init__) (defScope s_TooMany___init__) .none kV_TooMany___init__ dc_TooMany___init__ pm_TooMany___init__ an_TooMany___init__ cd_TooMany___init__ ct_TooMany___init__), sl_TooMany___init__⟩)
    (c_TooMany___init__ : PySem.W.codeIn K cd_TooMany___init__ "TooMany.__init__" = true)
    (xk_TooMany : PySem.W.keepIn K (.ref Cx_TooMany) = true)
    (xs_TooMany : PySem.W.subIn K (.ref Cx_TooMany) (.type "BaseException") = some true)
    (xt_TooMany : PySem.W.typeIn K (.ref Cx_TooMany) = some (.type "type"))
    (xg_TooMany : PySem.W.findIn K (.ref Cx_TooMany) "__getattribute__" = some (some (.builtin "BaseException.__getattribute__")))
    (xG_TooMany : PySem.W.findIn K (.ref Cx_TooMany) "__getattr__" = some none)
    (xa_Refused : PySem.W.nsIn K mainGlobals "Refused" = some (some (.ref Cx_Refused)))
    (xq_Refused : PySem.W.excInitIn K Cx_Refused arBm "ArithmeticError.__new__" = true)
    (xv_Refused : PySem.W.excOver K Cx_Refused arBm = true)
    (xS_Refused : PySem.W.findIn K (.ref Cx_Refused) "__setattr__" = some (some (.builtin "object.__setattr__")))
    (xn_Refused : PySem.W.findIn K (.ref Cx_Refused) "cause" = some none)
    (xh_Refused : PySem.W.hasDictIn K Cx_Refused = true)
    (xc_Refused : PySem.W.findIn K (.ref Cx_Refused) "__init__" = some (some (.ref f_Refused___init__)))
    (xf_Refused : PySem.W.isFn K (.ref f_Refused___init__) = true)
    (l_Refused___init__ : K.lookup f_Refused___init__ = some ⟨oc_Refused___init__, od_Refused___init__, .func (PySem.W.fnOf "__init__" "Refused.__init__" (defArgs s_Refused___init__) (defBody s_Refused___init__) (defScope s_Refused___init__) .none kV_Refused___init__ dc_Refused___init__ pm_Refused___init__ an_Refused___init__ cd_Refused___init__ ct_Refused___init__), sl_Refused___init__⟩)
    (c_Refused___init__ : PySem.W.codeIn K cd_Refused___init__ "Refused.__init__" = true)
    (xk_Refused : PySem.W.keepIn K (.ref Cx_Refused) = true)
    (xs_Refused : PySem.W.subIn K (.ref Cx_Refused) (.type "BaseException") = some true)
    (xt_Refused : PySem.W.typeIn K (.ref Cx_Refused) = some (.type "type"))
    (xg_Refused : PySem.W.findIn K (.ref Cx_Refused) "__getattribute__" = some (some (.builtin "BaseException.__getattribute__")))
    (xG_Refused : PySem.W.findIn K (.ref Cx_Refused) "__getattr__" = some none)
    (xa_InvalidNumber : PySem.W.nsIn K mainGlobals "InvalidNumber" = some (some (.ref Cx_InvalidNumber)))
    (xq_InvalidNumber : PySem.W.excInitIn K Cx_InvalidNumber rtBm "RuntimeError.__new__" = true)
    (xv_InvalidNumber : PySem.W.excOver K Cx_InvalidNumber rtBm = true)
    (xS_InvalidNumber : PySem.W.findIn K (.ref Cx_InvalidNumber) "__setattr__" = some (some (.builtin "object.__setattr__")))
    (xn_InvalidNumber : PySem.W.findIn K (.ref Cx_InvalidNumber) "number" = some none)
    (xh_InvalidNumber : PySem.W.hasDictIn K Cx_InvalidNumber = true)
    (xc_InvalidNumber : PySem.W.findIn K (.ref Cx_InvalidNumber) "__init__" = some (some (.ref f_InvalidNumber___init__)))
    (xf_InvalidNumber : PySem.W.isFn K (.ref f_InvalidNumber___init__) = true)
    (l_InvalidNumber___init__ : K.lookup f_InvalidNumber___init__ = some ⟨oc_InvalidNumber___init__, od_InvalidNumber___init__, .func (PySem.W.fnOf "__init__" "InvalidNumber.__init__" (defArgs s_InvalidNumber___init__) (defBody s_InvalidNumber___init__) (defScope s_InvalidNumber___init__) .none kV_InvalidNumber___init__ dc_InvalidNumber___init__ pm_InvalidNumber___init__ an_InvalidNumber___init__ cd_InvalidNumber___init__ ct_InvalidNumber___init__), sl_InvalidNumber___init__⟩)
    (c_InvalidNumber___init__ : PySem.W.codeIn K cd_InvalidNumber___init__ "InvalidNumber.__init__" = true)
    (xk_InvalidNumber : PySem.W.keepIn K (.ref Cx_InvalidNumber) = true)
    (xs_InvalidNumber : PySem.W.subIn K (.ref Cx_InvalidNumber) (.type "BaseException") = some true)
    (xt_InvalidNumber : PySem.W.typeIn K (.ref Cx_InvalidNumber) = some (.type "type"))
    (xg_InvalidNumber : PySem.W.findIn K (.ref Cx_InvalidNumber) "__getattribute__" = some (some (.builtin "BaseException.__getattribute__")))
    (xG_InvalidNumber : PySem.W.findIn K (.ref Cx_InvalidNumber) "__getattr__" = some none)
    (xi_BuildError : PySem.W.isClsIn K Cx_BuildError = true)
    (xg_BuildError : PySem.W.findIn K (.ref Cx_BuildError) "__getattribute__" = some (some (.builtin "BaseException.__getattribute__")))
    (xG_BuildError : PySem.W.findIn K (.ref Cx_BuildError) "__getattr__" = some none)
    (xC_BuildError : PySem.W.findIn K (.ref Cx_BuildError) "__class__" = some (some (.builtin "object.__class__")))
    (xP_BuildError : PySem.W.specialIn K (.builtin "object.__class__") "__get__" = some (some (.builtin "getset_descriptor.__get__")))
    (xT_BuildError : PySem.W.takesIn K (.builtin "object.__class__") = some true)
    (xM_BuildError : PySem.W.mroIn K Cx_BuildError (.type "object") = some true)
    (xi_InvalidWord : PySem.W.isClsIn K Cx_InvalidWord = true)
    (xg_InvalidWord : PySem.W.findIn K (.ref Cx_InvalidWord) "__getattribute__" = some (some (.builtin "BaseException.__getattribute__")))
    (xG_InvalidWord : PySem.W.findIn K (.ref Cx_InvalidWord) "__getattr__" = some none)
    (xC_InvalidWord : PySem.W.findIn K (.ref Cx_InvalidWord) "__class__" = some (some (.builtin "object.__class__")))
    (xP_InvalidWord : PySem.W.specialIn K (.builtin "object.__class__") "__get__" = some (some (.builtin "getset_descriptor.__get__")))
    (xT_InvalidWord : PySem.W.takesIn K (.builtin "object.__class__") = some true)
    (xM_InvalidWord : PySem.W.mroIn K Cx_InvalidWord (.type "object") = some true)
    (xi_InvalidType : PySem.W.isClsIn K Cx_InvalidType = true)
    (xg_InvalidType : PySem.W.findIn K (.ref Cx_InvalidType) "__getattribute__" = some (some (.builtin "BaseException.__getattribute__")))
    (xG_InvalidType : PySem.W.findIn K (.ref Cx_InvalidType) "__getattr__" = some none)
    (xC_InvalidType : PySem.W.findIn K (.ref Cx_InvalidType) "__class__" = some (some (.builtin "object.__class__")))
    (xP_InvalidType : PySem.W.specialIn K (.builtin "object.__class__") "__get__" = some (some (.builtin "getset_descriptor.__get__")))
    (xT_InvalidType : PySem.W.takesIn K (.builtin "object.__class__") = some true)
    (xM_InvalidType : PySem.W.mroIn K Cx_InvalidType (.type "object") = some true)
    (xi_InvalidLibrary : PySem.W.isClsIn K Cx_InvalidLibrary = true)
    (xg_InvalidLibrary : PySem.W.findIn K (.ref Cx_InvalidLibrary) "__getattribute__" = some (some (.builtin "BaseException.__getattribute__")))
    (xG_InvalidLibrary : PySem.W.findIn K (.ref Cx_InvalidLibrary) "__getattr__" = some none)
    (xC_InvalidLibrary : PySem.W.findIn K (.ref Cx_InvalidLibrary) "__class__" = some (some (.builtin "object.__class__")))
    (xP_InvalidLibrary : PySem.W.specialIn K (.builtin "object.__class__") "__get__" = some (some (.builtin "getset_descriptor.__get__")))
    (xT_InvalidLibrary : PySem.W.takesIn K (.builtin "object.__class__") = some true)
    (xM_InvalidLibrary : PySem.W.mroIn K Cx_InvalidLibrary (.type "object") = some true)
    (xi_InvalidProgram : PySem.W.isClsIn K Cx_InvalidProgram = true)
    (xg_InvalidProgram : PySem.W.findIn K (.ref Cx_InvalidProgram) "__getattribute__" = some (some (.builtin "BaseException.__getattribute__")))
    (xG_InvalidProgram : PySem.W.findIn K (.ref Cx_InvalidProgram) "__getattr__" = some none)
    (xC_InvalidProgram : PySem.W.findIn K (.ref Cx_InvalidProgram) "__class__" = some (some (.builtin "object.__class__")))
    (xP_InvalidProgram : PySem.W.specialIn K (.builtin "object.__class__") "__get__" = some (some (.builtin "getset_descriptor.__get__")))
    (xT_InvalidProgram : PySem.W.takesIn K (.builtin "object.__class__") = some true)
    (xM_InvalidProgram : PySem.W.mroIn K Cx_InvalidProgram (.type "object") = some true)
    (xi_InvalidQuestion : PySem.W.isClsIn K Cx_InvalidQuestion = true)
    (xg_InvalidQuestion : PySem.W.findIn K (.ref Cx_InvalidQuestion) "__getattribute__" = some (some (.builtin "BaseException.__getattribute__")))
    (xG_InvalidQuestion : PySem.W.findIn K (.ref Cx_InvalidQuestion) "__getattr__" = some none)
    (xC_InvalidQuestion : PySem.W.findIn K (.ref Cx_InvalidQuestion) "__class__" = some (some (.builtin "object.__class__")))
    (xP_InvalidQuestion : PySem.W.specialIn K (.builtin "object.__class__") "__get__" = some (some (.builtin "getset_descriptor.__get__")))
    (xT_InvalidQuestion : PySem.W.takesIn K (.builtin "object.__class__") = some true)
    (xM_InvalidQuestion : PySem.W.mroIn K Cx_InvalidQuestion (.type "object") = some true)
    (xi_InvalidRoom : PySem.W.isClsIn K Cx_InvalidRoom = true)
    (xg_InvalidRoom : PySem.W.findIn K (.ref Cx_InvalidRoom) "__getattribute__" = some (some (.builtin "BaseException.__getattribute__")))
    (xG_InvalidRoom : PySem.W.findIn K (.ref Cx_InvalidRoom) "__getattr__" = some none)
    (xC_InvalidRoom : PySem.W.findIn K (.ref Cx_InvalidRoom) "__class__" = some (some (.builtin "object.__class__")))
    (xP_InvalidRoom : PySem.W.specialIn K (.builtin "object.__class__") "__get__" = some (some (.builtin "getset_descriptor.__get__")))
    (xT_InvalidRoom : PySem.W.takesIn K (.builtin "object.__class__") = some true)
    (xM_InvalidRoom : PySem.W.mroIn K Cx_InvalidRoom (.type "object") = some true)
    (xi_InvalidDraft : PySem.W.isClsIn K Cx_InvalidDraft = true)
    (xg_InvalidDraft : PySem.W.findIn K (.ref Cx_InvalidDraft) "__getattribute__" = some (some (.builtin "BaseException.__getattribute__")))
    (xG_InvalidDraft : PySem.W.findIn K (.ref Cx_InvalidDraft) "__getattr__" = some none)
    (xC_InvalidDraft : PySem.W.findIn K (.ref Cx_InvalidDraft) "__class__" = some (some (.builtin "object.__class__")))
    (xP_InvalidDraft : PySem.W.specialIn K (.builtin "object.__class__") "__get__" = some (some (.builtin "getset_descriptor.__get__")))
    (xT_InvalidDraft : PySem.W.takesIn K (.builtin "object.__class__") = some true)
    (xM_InvalidDraft : PySem.W.mroIn K Cx_InvalidDraft (.type "object") = some true)
    (xi_InvalidOperation : PySem.W.isClsIn K Cx_InvalidOperation = true)
    (xg_InvalidOperation : PySem.W.findIn K (.ref Cx_InvalidOperation) "__getattribute__" = some (some (.builtin "BaseException.__getattribute__")))
    (xG_InvalidOperation : PySem.W.findIn K (.ref Cx_InvalidOperation) "__getattr__" = some none)
    (xC_InvalidOperation : PySem.W.findIn K (.ref Cx_InvalidOperation) "__class__" = some (some (.builtin "object.__class__")))
    (xP_InvalidOperation : PySem.W.specialIn K (.builtin "object.__class__") "__get__" = some (some (.builtin "getset_descriptor.__get__")))
    (xT_InvalidOperation : PySem.W.takesIn K (.builtin "object.__class__") = some true)
    (xM_InvalidOperation : PySem.W.mroIn K Cx_InvalidOperation (.type "object") = some true)
    (xi_ParseError : PySem.W.isClsIn K Cx_ParseError = true)
    (xC_ParseError : PySem.W.findIn K (.ref Cx_ParseError) "__class__" = some (some (.builtin "object.__class__")))
    (xP_ParseError : PySem.W.specialIn K (.builtin "object.__class__") "__get__" = some (some (.builtin "getset_descriptor.__get__")))
    (xT_ParseError : PySem.W.takesIn K (.builtin "object.__class__") = some true)
    (xM_ParseError : PySem.W.mroIn K Cx_ParseError (.type "object") = some true)
    (xi_UnknownWord : PySem.W.isClsIn K Cx_UnknownWord = true)
    (xC_UnknownWord : PySem.W.findIn K (.ref Cx_UnknownWord) "__class__" = some (some (.builtin "object.__class__")))
    (xP_UnknownWord : PySem.W.specialIn K (.builtin "object.__class__") "__get__" = some (some (.builtin "getset_descriptor.__get__")))
    (xT_UnknownWord : PySem.W.takesIn K (.builtin "object.__class__") = some true)
    (xM_UnknownWord : PySem.W.mroIn K Cx_UnknownWord (.type "object") = some true)
    (xi_NoProgram : PySem.W.isClsIn K Cx_NoProgram = true)
    (xC_NoProgram : PySem.W.findIn K (.ref Cx_NoProgram) "__class__" = some (some (.builtin "object.__class__")))
    (xP_NoProgram : PySem.W.specialIn K (.builtin "object.__class__") "__get__" = some (some (.builtin "getset_descriptor.__get__")))
    (xT_NoProgram : PySem.W.takesIn K (.builtin "object.__class__") = some true)
    (xM_NoProgram : PySem.W.mroIn K Cx_NoProgram (.type "object") = some true)
    (xi_NothingToUndo : PySem.W.isClsIn K Cx_NothingToUndo = true)
    (xC_NothingToUndo : PySem.W.findIn K (.ref Cx_NothingToUndo) "__class__" = some (some (.builtin "object.__class__")))
    (xP_NothingToUndo : PySem.W.specialIn K (.builtin "object.__class__") "__get__" = some (some (.builtin "getset_descriptor.__get__")))
    (xT_NothingToUndo : PySem.W.takesIn K (.builtin "object.__class__") = some true)
    (xM_NothingToUndo : PySem.W.mroIn K Cx_NothingToUndo (.type "object") = some true)
    (xi_TooMany : PySem.W.isClsIn K Cx_TooMany = true)
    (xC_TooMany : PySem.W.findIn K (.ref Cx_TooMany) "__class__" = some (some (.builtin "object.__class__")))
    (xP_TooMany : PySem.W.specialIn K (.builtin "object.__class__") "__get__" = some (some (.builtin "getset_descriptor.__get__")))
    (xT_TooMany : PySem.W.takesIn K (.builtin "object.__class__") = some true)
    (xM_TooMany : PySem.W.mroIn K Cx_TooMany (.type "object") = some true)
    (xi_Refused : PySem.W.isClsIn K Cx_Refused = true)
    (xC_Refused : PySem.W.findIn K (.ref Cx_Refused) "__class__" = some (some (.builtin "object.__class__")))
    (xP_Refused : PySem.W.specialIn K (.builtin "object.__class__") "__get__" = some (some (.builtin "getset_descriptor.__get__")))
    (xT_Refused : PySem.W.takesIn K (.builtin "object.__class__") = some true)
    (xM_Refused : PySem.W.mroIn K Cx_Refused (.type "object") = some true)
    (xi_InvalidNumber : PySem.W.isClsIn K Cx_InvalidNumber = true)
    (xC_InvalidNumber : PySem.W.findIn K (.ref Cx_InvalidNumber) "__class__" = some (some (.builtin "object.__class__")))
    (xP_InvalidNumber : PySem.W.specialIn K (.builtin "object.__class__") "__get__" = some (some (.builtin "getset_descriptor.__get__")))
    (xT_InvalidNumber : PySem.W.takesIn K (.builtin "object.__class__") = some true)
    (xM_InvalidNumber : PySem.W.mroIn K Cx_InvalidNumber (.type "object") = some true)
    (xo_InvalidNumber_InvalidWord : PySem.W.subIn K (.ref Cx_InvalidNumber) (.ref Cx_InvalidWord) = some false)
    (hv_InvalidNumber_InvalidWord : (Value.ref Cx_InvalidNumber == Value.ref Cx_InvalidWord) = false)
    (xo_Refused_InvalidWord : PySem.W.subIn K (.ref Cx_Refused) (.ref Cx_InvalidWord) = some false)
    (hv_Refused_InvalidWord : (Value.ref Cx_Refused == Value.ref Cx_InvalidWord) = false)
    (xo_TooMany_InvalidWord : PySem.W.subIn K (.ref Cx_TooMany) (.ref Cx_InvalidWord) = some false)
    (hv_TooMany_InvalidWord : (Value.ref Cx_TooMany == Value.ref Cx_InvalidWord) = false)
    (xo_NothingToUndo_InvalidWord : PySem.W.subIn K (.ref Cx_NothingToUndo) (.ref Cx_InvalidWord) = some false)
    (hv_NothingToUndo_InvalidWord : (Value.ref Cx_NothingToUndo == Value.ref Cx_InvalidWord) = false)
    (xo_NoProgram_InvalidWord : PySem.W.subIn K (.ref Cx_NoProgram) (.ref Cx_InvalidWord) = some false)
    (hv_NoProgram_InvalidWord : (Value.ref Cx_NoProgram == Value.ref Cx_InvalidWord) = false)
    (xo_UnknownWord_InvalidWord : PySem.W.subIn K (.ref Cx_UnknownWord) (.ref Cx_InvalidWord) = some false)
    (hv_UnknownWord_InvalidWord : (Value.ref Cx_UnknownWord == Value.ref Cx_InvalidWord) = false)
    (xo_ParseError_InvalidWord : PySem.W.subIn K (.ref Cx_ParseError) (.ref Cx_InvalidWord) = some false)
    (hv_ParseError_InvalidWord : (Value.ref Cx_ParseError == Value.ref Cx_InvalidWord) = false)
    (xo_InvalidOperation_InvalidWord : PySem.W.subIn K (.ref Cx_InvalidOperation) (.ref Cx_InvalidWord) = some false)
    (hv_InvalidOperation_InvalidWord : (Value.ref Cx_InvalidOperation == Value.ref Cx_InvalidWord) = false)
    (xo_InvalidDraft_InvalidWord : PySem.W.subIn K (.ref Cx_InvalidDraft) (.ref Cx_InvalidWord) = some false)
    (hv_InvalidDraft_InvalidWord : (Value.ref Cx_InvalidDraft == Value.ref Cx_InvalidWord) = false)
    (xo_InvalidRoom_InvalidWord : PySem.W.subIn K (.ref Cx_InvalidRoom) (.ref Cx_InvalidWord) = some false)
    (hv_InvalidRoom_InvalidWord : (Value.ref Cx_InvalidRoom == Value.ref Cx_InvalidWord) = false)
    (xo_InvalidQuestion_InvalidWord : PySem.W.subIn K (.ref Cx_InvalidQuestion) (.ref Cx_InvalidWord) = some false)
    (hv_InvalidQuestion_InvalidWord : (Value.ref Cx_InvalidQuestion == Value.ref Cx_InvalidWord) = false)
    (xo_InvalidProgram_InvalidWord : PySem.W.subIn K (.ref Cx_InvalidProgram) (.ref Cx_InvalidWord) = some false)
    (hv_InvalidProgram_InvalidWord : (Value.ref Cx_InvalidProgram == Value.ref Cx_InvalidWord) = false)
    (xo_InvalidLibrary_InvalidWord : PySem.W.subIn K (.ref Cx_InvalidLibrary) (.ref Cx_InvalidWord) = some false)
    (hv_InvalidLibrary_InvalidWord : (Value.ref Cx_InvalidLibrary == Value.ref Cx_InvalidWord) = false)
    (xo_InvalidType_InvalidWord : PySem.W.subIn K (.ref Cx_InvalidType) (.ref Cx_InvalidWord) = some false)
    (hv_InvalidType_InvalidWord : (Value.ref Cx_InvalidType == Value.ref Cx_InvalidWord) = false)
    (xo_BuildError_InvalidWord : PySem.W.subIn K (.ref Cx_BuildError) (.ref Cx_InvalidWord) = some false)
    (hv_BuildError_InvalidWord : (Value.ref Cx_BuildError == Value.ref Cx_InvalidWord) = false)
    (xo_InvalidNumber_InvalidType : PySem.W.subIn K (.ref Cx_InvalidNumber) (.ref Cx_InvalidType) = some false)
    (hv_InvalidNumber_InvalidType : (Value.ref Cx_InvalidNumber == Value.ref Cx_InvalidType) = false)
    (xo_Refused_InvalidType : PySem.W.subIn K (.ref Cx_Refused) (.ref Cx_InvalidType) = some false)
    (hv_Refused_InvalidType : (Value.ref Cx_Refused == Value.ref Cx_InvalidType) = false)
    (xo_TooMany_InvalidType : PySem.W.subIn K (.ref Cx_TooMany) (.ref Cx_InvalidType) = some false)
    (hv_TooMany_InvalidType : (Value.ref Cx_TooMany == Value.ref Cx_InvalidType) = false)
    (xo_NothingToUndo_InvalidType : PySem.W.subIn K (.ref Cx_NothingToUndo) (.ref Cx_InvalidType) = some false)
    (hv_NothingToUndo_InvalidType : (Value.ref Cx_NothingToUndo == Value.ref Cx_InvalidType) = false)
    (xo_NoProgram_InvalidType : PySem.W.subIn K (.ref Cx_NoProgram) (.ref Cx_InvalidType) = some false)
    (hv_NoProgram_InvalidType : (Value.ref Cx_NoProgram == Value.ref Cx_InvalidType) = false)
    (xo_UnknownWord_InvalidType : PySem.W.subIn K (.ref Cx_UnknownWord) (.ref Cx_InvalidType) = some false)
    (hv_UnknownWord_InvalidType : (Value.ref Cx_UnknownWord == Value.ref Cx_InvalidType) = false)
    (xo_ParseError_InvalidType : PySem.W.subIn K (.ref Cx_ParseError) (.ref Cx_InvalidType) = some false)
    (hv_ParseError_InvalidType : (Value.ref Cx_ParseError == Value.ref Cx_InvalidType) = false)
    (xo_InvalidOperation_InvalidType : PySem.W.subIn K (.ref Cx_InvalidOperation) (.ref Cx_InvalidType) = some false)
    (hv_InvalidOperation_InvalidType : (Value.ref Cx_InvalidOperation == Value.ref Cx_InvalidType) = false)
    (xo_InvalidDraft_InvalidType : PySem.W.subIn K (.ref Cx_InvalidDraft) (.ref Cx_InvalidType) = some false)
    (hv_InvalidDraft_InvalidType : (Value.ref Cx_InvalidDraft == Value.ref Cx_InvalidType) = false)
    (xo_InvalidRoom_InvalidType : PySem.W.subIn K (.ref Cx_InvalidRoom) (.ref Cx_InvalidType) = some false)
    (hv_InvalidRoom_InvalidType : (Value.ref Cx_InvalidRoom == Value.ref Cx_InvalidType) = false)
    (xo_InvalidQuestion_InvalidType : PySem.W.subIn K (.ref Cx_InvalidQuestion) (.ref Cx_InvalidType) = some false)
    (hv_InvalidQuestion_InvalidType : (Value.ref Cx_InvalidQuestion == Value.ref Cx_InvalidType) = false)
    (xo_InvalidProgram_InvalidType : PySem.W.subIn K (.ref Cx_InvalidProgram) (.ref Cx_InvalidType) = some false)
    (hv_InvalidProgram_InvalidType : (Value.ref Cx_InvalidProgram == Value.ref Cx_InvalidType) = false)
    (xo_InvalidLibrary_InvalidType : PySem.W.subIn K (.ref Cx_InvalidLibrary) (.ref Cx_InvalidType) = some false)
    (hv_InvalidLibrary_InvalidType : (Value.ref Cx_InvalidLibrary == Value.ref Cx_InvalidType) = false)
    (xo_InvalidWord_InvalidType : PySem.W.subIn K (.ref Cx_InvalidWord) (.ref Cx_InvalidType) = some false)
    (hv_InvalidWord_InvalidType : (Value.ref Cx_InvalidWord == Value.ref Cx_InvalidType) = false)
    (xo_BuildError_InvalidType : PySem.W.subIn K (.ref Cx_BuildError) (.ref Cx_InvalidType) = some false)
    (hv_BuildError_InvalidType : (Value.ref Cx_BuildError == Value.ref Cx_InvalidType) = false)
    (xo_InvalidNumber_InvalidLibrary : PySem.W.subIn K (.ref Cx_InvalidNumber) (.ref Cx_InvalidLibrary) = some false)
    (hv_InvalidNumber_InvalidLibrary : (Value.ref Cx_InvalidNumber == Value.ref Cx_InvalidLibrary) = false)
    (xo_Refused_InvalidLibrary : PySem.W.subIn K (.ref Cx_Refused) (.ref Cx_InvalidLibrary) = some false)
    (hv_Refused_InvalidLibrary : (Value.ref Cx_Refused == Value.ref Cx_InvalidLibrary) = false)
    (xo_TooMany_InvalidLibrary : PySem.W.subIn K (.ref Cx_TooMany) (.ref Cx_InvalidLibrary) = some false)
    (hv_TooMany_InvalidLibrary : (Value.ref Cx_TooMany == Value.ref Cx_InvalidLibrary) = false)
    (xo_NothingToUndo_InvalidLibrary : PySem.W.subIn K (.ref Cx_NothingToUndo) (.ref Cx_InvalidLibrary) = some false)
    (hv_NothingToUndo_InvalidLibrary : (Value.ref Cx_NothingToUndo == Value.ref Cx_InvalidLibrary) = false)
    (xo_NoProgram_InvalidLibrary : PySem.W.subIn K (.ref Cx_NoProgram) (.ref Cx_InvalidLibrary) = some false)
    (hv_NoProgram_InvalidLibrary : (Value.ref Cx_NoProgram == Value.ref Cx_InvalidLibrary) = false)
    (xo_UnknownWord_InvalidLibrary : PySem.W.subIn K (.ref Cx_UnknownWord) (.ref Cx_InvalidLibrary) = some false)
    (hv_UnknownWord_InvalidLibrary : (Value.ref Cx_UnknownWord == Value.ref Cx_InvalidLibrary) = false)
    (xo_ParseError_InvalidLibrary : PySem.W.subIn K (.ref Cx_ParseError) (.ref Cx_InvalidLibrary) = some false)
    (hv_ParseError_InvalidLibrary : (Value.ref Cx_ParseError == Value.ref Cx_InvalidLibrary) = false)
    (xo_InvalidOperation_InvalidLibrary : PySem.W.subIn K (.ref Cx_InvalidOperation) (.ref Cx_InvalidLibrary) = some false)
    (hv_InvalidOperation_InvalidLibrary : (Value.ref Cx_InvalidOperation == Value.ref Cx_InvalidLibrary) = false)
    (xo_InvalidDraft_InvalidLibrary : PySem.W.subIn K (.ref Cx_InvalidDraft) (.ref Cx_InvalidLibrary) = some false)
    (hv_InvalidDraft_InvalidLibrary : (Value.ref Cx_InvalidDraft == Value.ref Cx_InvalidLibrary) = false)
    (xo_InvalidRoom_InvalidLibrary : PySem.W.subIn K (.ref Cx_InvalidRoom) (.ref Cx_InvalidLibrary) = some false)
    (hv_InvalidRoom_InvalidLibrary : (Value.ref Cx_InvalidRoom == Value.ref Cx_InvalidLibrary) = false)
    (xo_InvalidQuestion_InvalidLibrary : PySem.W.subIn K (.ref Cx_InvalidQuestion) (.ref Cx_InvalidLibrary) = some false)
    (hv_InvalidQuestion_InvalidLibrary : (Value.ref Cx_InvalidQuestion == Value.ref Cx_InvalidLibrary) = false)
    (xo_InvalidProgram_InvalidLibrary : PySem.W.subIn K (.ref Cx_InvalidProgram) (.ref Cx_InvalidLibrary) = some false)
    (hv_InvalidProgram_InvalidLibrary : (Value.ref Cx_InvalidProgram == Value.ref Cx_InvalidLibrary) = false)
    (xo_InvalidType_InvalidLibrary : PySem.W.subIn K (.ref Cx_InvalidType) (.ref Cx_InvalidLibrary) = some false)
    (hv_InvalidType_InvalidLibrary : (Value.ref Cx_InvalidType == Value.ref Cx_InvalidLibrary) = false)
    (xo_InvalidWord_InvalidLibrary : PySem.W.subIn K (.ref Cx_InvalidWord) (.ref Cx_InvalidLibrary) = some false)
    (hv_InvalidWord_InvalidLibrary : (Value.ref Cx_InvalidWord == Value.ref Cx_InvalidLibrary) = false)
    (xo_BuildError_InvalidLibrary : PySem.W.subIn K (.ref Cx_BuildError) (.ref Cx_InvalidLibrary) = some false)
    (hv_BuildError_InvalidLibrary : (Value.ref Cx_BuildError == Value.ref Cx_InvalidLibrary) = false)
    (xo_InvalidNumber_InvalidProgram : PySem.W.subIn K (.ref Cx_InvalidNumber) (.ref Cx_InvalidProgram) = some false)
    (hv_InvalidNumber_InvalidProgram : (Value.ref Cx_InvalidNumber == Value.ref Cx_InvalidProgram) = false)
    (xo_Refused_InvalidProgram : PySem.W.subIn K (.ref Cx_Refused) (.ref Cx_InvalidProgram) = some false)
    (hv_Refused_InvalidProgram : (Value.ref Cx_Refused == Value.ref Cx_InvalidProgram) = false)
    (xo_TooMany_InvalidProgram : PySem.W.subIn K (.ref Cx_TooMany) (.ref Cx_InvalidProgram) = some false)
    (hv_TooMany_InvalidProgram : (Value.ref Cx_TooMany == Value.ref Cx_InvalidProgram) = false)
    (xo_NothingToUndo_InvalidProgram : PySem.W.subIn K (.ref Cx_NothingToUndo) (.ref Cx_InvalidProgram) = some false)
    (hv_NothingToUndo_InvalidProgram : (Value.ref Cx_NothingToUndo == Value.ref Cx_InvalidProgram) = false)
    (xo_NoProgram_InvalidProgram : PySem.W.subIn K (.ref Cx_NoProgram) (.ref Cx_InvalidProgram) = some false)
    (hv_NoProgram_InvalidProgram : (Value.ref Cx_NoProgram == Value.ref Cx_InvalidProgram) = false)
    (xo_UnknownWord_InvalidProgram : PySem.W.subIn K (.ref Cx_UnknownWord) (.ref Cx_InvalidProgram) = some false)
    (hv_UnknownWord_InvalidProgram : (Value.ref Cx_UnknownWord == Value.ref Cx_InvalidProgram) = false)
    (xo_ParseError_InvalidProgram : PySem.W.subIn K (.ref Cx_ParseError) (.ref Cx_InvalidProgram) = some false)
    (hv_ParseError_InvalidProgram : (Value.ref Cx_ParseError == Value.ref Cx_InvalidProgram) = false)
    (xo_InvalidOperation_InvalidProgram : PySem.W.subIn K (.ref Cx_InvalidOperation) (.ref Cx_InvalidProgram) = some false)
    (hv_InvalidOperation_InvalidProgram : (Value.ref Cx_InvalidOperation == Value.ref Cx_InvalidProgram) = false)
    (xo_InvalidDraft_InvalidProgram : PySem.W.subIn K (.ref Cx_InvalidDraft) (.ref Cx_InvalidProgram) = some false)
    (hv_InvalidDraft_InvalidProgram : (Value.ref Cx_InvalidDraft == Value.ref Cx_InvalidProgram) = false)
    (xo_InvalidRoom_InvalidProgram : PySem.W.subIn K (.ref Cx_InvalidRoom) (.ref Cx_InvalidProgram) = some false)
    (hv_InvalidRoom_InvalidProgram : (Value.ref Cx_InvalidRoom == Value.ref Cx_InvalidProgram) = false)
    (xo_InvalidQuestion_InvalidProgram : PySem.W.subIn K (.ref Cx_InvalidQuestion) (.ref Cx_InvalidProgram) = some false)
    (hv_InvalidQuestion_InvalidProgram : (Value.ref Cx_InvalidQuestion == Value.ref Cx_InvalidProgram) = false)
    (xo_InvalidLibrary_InvalidProgram : PySem.W.subIn K (.ref Cx_InvalidLibrary) (.ref Cx_InvalidProgram) = some false)
    (hv_InvalidLibrary_InvalidProgram : (Value.ref Cx_InvalidLibrary == Value.ref Cx_InvalidProgram) = false)
    (xo_InvalidType_InvalidProgram : PySem.W.subIn K (.ref Cx_InvalidType) (.ref Cx_InvalidProgram) = some false)
    (hv_InvalidType_InvalidProgram : (Value.ref Cx_InvalidType == Value.ref Cx_InvalidProgram) = false)
    (xo_InvalidWord_InvalidProgram : PySem.W.subIn K (.ref Cx_InvalidWord) (.ref Cx_InvalidProgram) = some false)
    (hv_InvalidWord_InvalidProgram : (Value.ref Cx_InvalidWord == Value.ref Cx_InvalidProgram) = false)
    (xo_BuildError_InvalidProgram : PySem.W.subIn K (.ref Cx_BuildError) (.ref Cx_InvalidProgram) = some false)
    (hv_BuildError_InvalidProgram : (Value.ref Cx_BuildError == Value.ref Cx_InvalidProgram) = false)
    (xo_InvalidNumber_InvalidQuestion : PySem.W.subIn K (.ref Cx_InvalidNumber) (.ref Cx_InvalidQuestion) = some false)
    (hv_InvalidNumber_InvalidQuestion : (Value.ref Cx_InvalidNumber == Value.ref Cx_InvalidQuestion) = false)
    (xo_Refused_InvalidQuestion : PySem.W.subIn K (.ref Cx_Refused) (.ref Cx_InvalidQuestion) = some false)
    (hv_Refused_InvalidQuestion : (Value.ref Cx_Refused == Value.ref Cx_InvalidQuestion) = false)
    (xo_TooMany_InvalidQuestion : PySem.W.subIn K (.ref Cx_TooMany) (.ref Cx_InvalidQuestion) = some false)
    (hv_TooMany_InvalidQuestion : (Value.ref Cx_TooMany == Value.ref Cx_InvalidQuestion) = false)
    (xo_NothingToUndo_InvalidQuestion : PySem.W.subIn K (.ref Cx_NothingToUndo) (.ref Cx_InvalidQuestion) = some false)
    (hv_NothingToUndo_InvalidQuestion : (Value.ref Cx_NothingToUndo == Value.ref Cx_InvalidQuestion) = false)
    (xo_NoProgram_InvalidQuestion : PySem.W.subIn K (.ref Cx_NoProgram) (.ref Cx_InvalidQuestion) = some false)
    (hv_NoProgram_InvalidQuestion : (Value.ref Cx_NoProgram == Value.ref Cx_InvalidQuestion) = false)
    (xo_UnknownWord_InvalidQuestion : PySem.W.subIn K (.ref Cx_UnknownWord) (.ref Cx_InvalidQuestion) = some false)
    (hv_UnknownWord_InvalidQuestion : (Value.ref Cx_UnknownWord == Value.ref Cx_InvalidQuestion) = false)
    (xo_ParseError_InvalidQuestion : PySem.W.subIn K (.ref Cx_ParseError) (.ref Cx_InvalidQuestion) = some false)
    (hv_ParseError_InvalidQuestion : (Value.ref Cx_ParseError == Value.ref Cx_InvalidQuestion) = false)
    (xo_InvalidOperation_InvalidQuestion : PySem.W.subIn K (.ref Cx_InvalidOperation) (.ref Cx_InvalidQuestion) = some false)
    (hv_InvalidOperation_InvalidQuestion : (Value.ref Cx_InvalidOperation == Value.ref Cx_InvalidQuestion) = false)
    (xo_InvalidDraft_InvalidQuestion : PySem.W.subIn K (.ref Cx_InvalidDraft) (.ref Cx_InvalidQuestion) = some false)
    (hv_InvalidDraft_InvalidQuestion : (Value.ref Cx_InvalidDraft == Value.ref Cx_InvalidQuestion) = false)
    (xo_InvalidRoom_InvalidQuestion : PySem.W.subIn K (.ref Cx_InvalidRoom) (.ref Cx_InvalidQuestion) = some false)
    (hv_InvalidRoom_InvalidQuestion : (Value.ref Cx_InvalidRoom == Value.ref Cx_InvalidQuestion) = false)
    (xo_InvalidProgram_InvalidQuestion : PySem.W.subIn K (.ref Cx_InvalidProgram) (.ref Cx_InvalidQuestion) = some false)
    (hv_InvalidProgram_InvalidQuestion : (Value.ref Cx_InvalidProgram == Value.ref Cx_InvalidQuestion) = false)
    (xo_InvalidLibrary_InvalidQuestion : PySem.W.subIn K (.ref Cx_InvalidLibrary) (.ref Cx_InvalidQuestion) = some false)
    (hv_InvalidLibrary_InvalidQuestion : (Value.ref Cx_InvalidLibrary == Value.ref Cx_InvalidQuestion) = false)
    (xo_InvalidType_InvalidQuestion : PySem.W.subIn K (.ref Cx_InvalidType) (.ref Cx_InvalidQuestion) = some false)
    (hv_InvalidType_InvalidQuestion : (Value.ref Cx_InvalidType == Value.ref Cx_InvalidQuestion) = false)
    (xo_InvalidWord_InvalidQuestion : PySem.W.subIn K (.ref Cx_InvalidWord) (.ref Cx_InvalidQuestion) = some false)
    (hv_InvalidWord_InvalidQuestion : (Value.ref Cx_InvalidWord == Value.ref Cx_InvalidQuestion) = false)
    (xo_BuildError_InvalidQuestion : PySem.W.subIn K (.ref Cx_BuildError) (.ref Cx_InvalidQuestion) = some false)
    (hv_BuildError_InvalidQuestion : (Value.ref Cx_BuildError == Value.ref Cx_InvalidQuestion) = false)
    (xo_InvalidNumber_InvalidRoom : PySem.W.subIn K (.ref Cx_InvalidNumber) (.ref Cx_InvalidRoom) = some false)
    (hv_InvalidNumber_InvalidRoom : (Value.ref Cx_InvalidNumber == Value.ref Cx_InvalidRoom) = false)
    (xo_Refused_InvalidRoom : PySem.W.subIn K (.ref Cx_Refused) (.ref Cx_InvalidRoom) = some false)
    (hv_Refused_InvalidRoom : (Value.ref Cx_Refused == Value.ref Cx_InvalidRoom) = false)
    (xo_TooMany_InvalidRoom : PySem.W.subIn K (.ref Cx_TooMany) (.ref Cx_InvalidRoom) = some false)
    (hv_TooMany_InvalidRoom : (Value.ref Cx_TooMany == Value.ref Cx_InvalidRoom) = false)
    (xo_NothingToUndo_InvalidRoom : PySem.W.subIn K (.ref Cx_NothingToUndo) (.ref Cx_InvalidRoom) = some false)
    (hv_NothingToUndo_InvalidRoom : (Value.ref Cx_NothingToUndo == Value.ref Cx_InvalidRoom) = false)
    (xo_NoProgram_InvalidRoom : PySem.W.subIn K (.ref Cx_NoProgram) (.ref Cx_InvalidRoom) = some false)
    (hv_NoProgram_InvalidRoom : (Value.ref Cx_NoProgram == Value.ref Cx_InvalidRoom) = false)
    (xo_UnknownWord_InvalidRoom : PySem.W.subIn K (.ref Cx_UnknownWord) (.ref Cx_InvalidRoom) = some false)
    (hv_UnknownWord_InvalidRoom : (Value.ref Cx_UnknownWord == Value.ref Cx_InvalidRoom) = false)
    (xo_ParseError_InvalidRoom : PySem.W.subIn K (.ref Cx_ParseError) (.ref Cx_InvalidRoom) = some false)
    (hv_ParseError_InvalidRoom : (Value.ref Cx_ParseError == Value.ref Cx_InvalidRoom) = false)
    (xo_InvalidOperation_InvalidRoom : PySem.W.subIn K (.ref Cx_InvalidOperation) (.ref Cx_InvalidRoom) = some false)
    (hv_InvalidOperation_InvalidRoom : (Value.ref Cx_InvalidOperation == Value.ref Cx_InvalidRoom) = false)
    (xo_InvalidDraft_InvalidRoom : PySem.W.subIn K (.ref Cx_InvalidDraft) (.ref Cx_InvalidRoom) = some false)
    (hv_InvalidDraft_InvalidRoom : (Value.ref Cx_InvalidDraft == Value.ref Cx_InvalidRoom) = false)
    (xo_InvalidQuestion_InvalidRoom : PySem.W.subIn K (.ref Cx_InvalidQuestion) (.ref Cx_InvalidRoom) = some false)
    (hv_InvalidQuestion_InvalidRoom : (Value.ref Cx_InvalidQuestion == Value.ref Cx_InvalidRoom) = false)
    (xo_InvalidProgram_InvalidRoom : PySem.W.subIn K (.ref Cx_InvalidProgram) (.ref Cx_InvalidRoom) = some false)
    (hv_InvalidProgram_InvalidRoom : (Value.ref Cx_InvalidProgram == Value.ref Cx_InvalidRoom) = false)
    (xo_InvalidLibrary_InvalidRoom : PySem.W.subIn K (.ref Cx_InvalidLibrary) (.ref Cx_InvalidRoom) = some false)
    (hv_InvalidLibrary_InvalidRoom : (Value.ref Cx_InvalidLibrary == Value.ref Cx_InvalidRoom) = false)
    (xo_InvalidType_InvalidRoom : PySem.W.subIn K (.ref Cx_InvalidType) (.ref Cx_InvalidRoom) = some false)
    (hv_InvalidType_InvalidRoom : (Value.ref Cx_InvalidType == Value.ref Cx_InvalidRoom) = false)
    (xo_InvalidWord_InvalidRoom : PySem.W.subIn K (.ref Cx_InvalidWord) (.ref Cx_InvalidRoom) = some false)
    (hv_InvalidWord_InvalidRoom : (Value.ref Cx_InvalidWord == Value.ref Cx_InvalidRoom) = false)
    (xo_BuildError_InvalidRoom : PySem.W.subIn K (.ref Cx_BuildError) (.ref Cx_InvalidRoom) = some false)
    (hv_BuildError_InvalidRoom : (Value.ref Cx_BuildError == Value.ref Cx_InvalidRoom) = false)
    (xo_InvalidNumber_InvalidDraft : PySem.W.subIn K (.ref Cx_InvalidNumber) (.ref Cx_InvalidDraft) = some false)
    (hv_InvalidNumber_InvalidDraft : (Value.ref Cx_InvalidNumber == Value.ref Cx_InvalidDraft) = false)
    (xo_Refused_InvalidDraft : PySem.W.subIn K (.ref Cx_Refused) (.ref Cx_InvalidDraft) = some false)
    (hv_Refused_InvalidDraft : (Value.ref Cx_Refused == Value.ref Cx_InvalidDraft) = false)
    (xo_TooMany_InvalidDraft : PySem.W.subIn K (.ref Cx_TooMany) (.ref Cx_InvalidDraft) = some false)
    (hv_TooMany_InvalidDraft : (Value.ref Cx_TooMany == Value.ref Cx_InvalidDraft) = false)
    (xo_NothingToUndo_InvalidDraft : PySem.W.subIn K (.ref Cx_NothingToUndo) (.ref Cx_InvalidDraft) = some false)
    (hv_NothingToUndo_InvalidDraft : (Value.ref Cx_NothingToUndo == Value.ref Cx_InvalidDraft) = false)
    (xo_NoProgram_InvalidDraft : PySem.W.subIn K (.ref Cx_NoProgram) (.ref Cx_InvalidDraft) = some false)
    (hv_NoProgram_InvalidDraft : (Value.ref Cx_NoProgram == Value.ref Cx_InvalidDraft) = false)
    (xo_UnknownWord_InvalidDraft : PySem.W.subIn K (.ref Cx_UnknownWord) (.ref Cx_InvalidDraft) = some false)
    (hv_UnknownWord_InvalidDraft : (Value.ref Cx_UnknownWord == Value.ref Cx_InvalidDraft) = false)
    (xo_ParseError_InvalidDraft : PySem.W.subIn K (.ref Cx_ParseError) (.ref Cx_InvalidDraft) = some false)
    (hv_ParseError_InvalidDraft : (Value.ref Cx_ParseError == Value.ref Cx_InvalidDraft) = false)
    (xo_InvalidOperation_InvalidDraft : PySem.W.subIn K (.ref Cx_InvalidOperation) (.ref Cx_InvalidDraft) = some false)
    (hv_InvalidOperation_InvalidDraft : (Value.ref Cx_InvalidOperation == Value.ref Cx_InvalidDraft) = false)
    (xo_InvalidRoom_InvalidDraft : PySem.W.subIn K (.ref Cx_InvalidRoom) (.ref Cx_InvalidDraft) = some false)
    (hv_InvalidRoom_InvalidDraft : (Value.ref Cx_InvalidRoom == Value.ref Cx_InvalidDraft) = false)
    (xo_InvalidQuestion_InvalidDraft : PySem.W.subIn K (.ref Cx_InvalidQuestion) (.ref Cx_InvalidDraft) = some false)
    (hv_InvalidQuestion_InvalidDraft : (Value.ref Cx_InvalidQuestion == Value.ref Cx_InvalidDraft) = false)
    (xo_InvalidProgram_InvalidDraft : PySem.W.subIn K (.ref Cx_InvalidProgram) (.ref Cx_InvalidDraft) = some false)
    (hv_InvalidProgram_InvalidDraft : (Value.ref Cx_InvalidProgram == Value.ref Cx_InvalidDraft) = false)
    (xo_InvalidLibrary_InvalidDraft : PySem.W.subIn K (.ref Cx_InvalidLibrary) (.ref Cx_InvalidDraft) = some false)
    (hv_InvalidLibrary_InvalidDraft : (Value.ref Cx_InvalidLibrary == Value.ref Cx_InvalidDraft) = false)
    (xo_InvalidType_InvalidDraft : PySem.W.subIn K (.ref Cx_InvalidType) (.ref Cx_InvalidDraft) = some false)
    (hv_InvalidType_InvalidDraft : (Value.ref Cx_InvalidType == Value.ref Cx_InvalidDraft) = false)
    (xo_InvalidWord_InvalidDraft : PySem.W.subIn K (.ref Cx_InvalidWord) (.ref Cx_InvalidDraft) = some false)
    (hv_InvalidWord_InvalidDraft : (Value.ref Cx_InvalidWord == Value.ref Cx_InvalidDraft) = false)
    (xo_BuildError_InvalidDraft : PySem.W.subIn K (.ref Cx_BuildError) (.ref Cx_InvalidDraft) = some false)
    (hv_BuildError_InvalidDraft : (Value.ref Cx_BuildError == Value.ref Cx_InvalidDraft) = false)
    (xo_InvalidNumber_InvalidOperation : PySem.W.subIn K (.ref Cx_InvalidNumber) (.ref Cx_InvalidOperation) = some false)
    (hv_InvalidNumber_InvalidOperation : (Value.ref Cx_InvalidNumber == Value.ref Cx_InvalidOperation) = false)
    (xo_Refused_InvalidOperation : PySem.W.subIn K (.ref Cx_Refused) (.ref Cx_InvalidOperation) = some false)
    (hv_Refused_InvalidOperation : (Value.ref Cx_Refused == Value.ref Cx_InvalidOperation) = false)
    (xo_TooMany_InvalidOperation : PySem.W.subIn K (.ref Cx_TooMany) (.ref Cx_InvalidOperation) = some false)
    (hv_TooMany_InvalidOperation : (Value.ref Cx_TooMany == Value.ref Cx_InvalidOperation) = false)
    (xo_NothingToUndo_InvalidOperation : PySem.W.subIn K (.ref Cx_NothingToUndo) (.ref Cx_InvalidOperation) = some false)
    (hv_NothingToUndo_InvalidOperation : (Value.ref Cx_NothingToUndo == Value.ref Cx_InvalidOperation) = false)
    (xo_NoProgram_InvalidOperation : PySem.W.subIn K (.ref Cx_NoProgram) (.ref Cx_InvalidOperation) = some false)
    (hv_NoProgram_InvalidOperation : (Value.ref Cx_NoProgram == Value.ref Cx_InvalidOperation) = false)
    (xo_UnknownWord_InvalidOperation : PySem.W.subIn K (.ref Cx_UnknownWord) (.ref Cx_InvalidOperation) = some false)
    (hv_UnknownWord_InvalidOperation : (Value.ref Cx_UnknownWord == Value.ref Cx_InvalidOperation) = false)
    (xo_ParseError_InvalidOperation : PySem.W.subIn K (.ref Cx_ParseError) (.ref Cx_InvalidOperation) = some false)
    (hv_ParseError_InvalidOperation : (Value.ref Cx_ParseError == Value.ref Cx_InvalidOperation) = false)
    (xo_InvalidDraft_InvalidOperation : PySem.W.subIn K (.ref Cx_InvalidDraft) (.ref Cx_InvalidOperation) = some false)
    (hv_InvalidDraft_InvalidOperation : (Value.ref Cx_InvalidDraft == Value.ref Cx_InvalidOperation) = false)
    (xo_InvalidRoom_InvalidOperation : PySem.W.subIn K (.ref Cx_InvalidRoom) (.ref Cx_InvalidOperation) = some false)
    (hv_InvalidRoom_InvalidOperation : (Value.ref Cx_InvalidRoom == Value.ref Cx_InvalidOperation) = false)
    (xo_InvalidQuestion_InvalidOperation : PySem.W.subIn K (.ref Cx_InvalidQuestion) (.ref Cx_InvalidOperation) = some false)
    (hv_InvalidQuestion_InvalidOperation : (Value.ref Cx_InvalidQuestion == Value.ref Cx_InvalidOperation) = false)
    (xo_InvalidProgram_InvalidOperation : PySem.W.subIn K (.ref Cx_InvalidProgram) (.ref Cx_InvalidOperation) = some false)
    (hv_InvalidProgram_InvalidOperation : (Value.ref Cx_InvalidProgram == Value.ref Cx_InvalidOperation) = false)
    (xo_InvalidLibrary_InvalidOperation : PySem.W.subIn K (.ref Cx_InvalidLibrary) (.ref Cx_InvalidOperation) = some false)
    (hv_InvalidLibrary_InvalidOperation : (Value.ref Cx_InvalidLibrary == Value.ref Cx_InvalidOperation) = false)
    (xo_InvalidType_InvalidOperation : PySem.W.subIn K (.ref Cx_InvalidType) (.ref Cx_InvalidOperation) = some false)
    (hv_InvalidType_InvalidOperation : (Value.ref Cx_InvalidType == Value.ref Cx_InvalidOperation) = false)
    (xo_InvalidWord_InvalidOperation : PySem.W.subIn K (.ref Cx_InvalidWord) (.ref Cx_InvalidOperation) = some false)
    (hv_InvalidWord_InvalidOperation : (Value.ref Cx_InvalidWord == Value.ref Cx_InvalidOperation) = false)
    (xo_BuildError_InvalidOperation : PySem.W.subIn K (.ref Cx_BuildError) (.ref Cx_InvalidOperation) = some false)
    (hv_BuildError_InvalidOperation : (Value.ref Cx_BuildError == Value.ref Cx_InvalidOperation) = false)
    (xo_InvalidNumber_ParseError : PySem.W.subIn K (.ref Cx_InvalidNumber) (.ref Cx_ParseError) = some false)
    (hv_InvalidNumber_ParseError : (Value.ref Cx_InvalidNumber == Value.ref Cx_ParseError) = false)
    (xo_Refused_ParseError : PySem.W.subIn K (.ref Cx_Refused) (.ref Cx_ParseError) = some false)
    (hv_Refused_ParseError : (Value.ref Cx_Refused == Value.ref Cx_ParseError) = false)
    (xo_TooMany_ParseError : PySem.W.subIn K (.ref Cx_TooMany) (.ref Cx_ParseError) = some false)
    (hv_TooMany_ParseError : (Value.ref Cx_TooMany == Value.ref Cx_ParseError) = false)
    (xo_NothingToUndo_ParseError : PySem.W.subIn K (.ref Cx_NothingToUndo) (.ref Cx_ParseError) = some false)
    (hv_NothingToUndo_ParseError : (Value.ref Cx_NothingToUndo == Value.ref Cx_ParseError) = false)
    (xo_NoProgram_ParseError : PySem.W.subIn K (.ref Cx_NoProgram) (.ref Cx_ParseError) = some false)
    (hv_NoProgram_ParseError : (Value.ref Cx_NoProgram == Value.ref Cx_ParseError) = false)
    (xo_UnknownWord_ParseError : PySem.W.subIn K (.ref Cx_UnknownWord) (.ref Cx_ParseError) = some false)
    (hv_UnknownWord_ParseError : (Value.ref Cx_UnknownWord == Value.ref Cx_ParseError) = false)
    (xo_InvalidOperation_ParseError : PySem.W.subIn K (.ref Cx_InvalidOperation) (.ref Cx_ParseError) = some false)
    (hv_InvalidOperation_ParseError : (Value.ref Cx_InvalidOperation == Value.ref Cx_ParseError) = false)
    (xo_InvalidDraft_ParseError : PySem.W.subIn K (.ref Cx_InvalidDraft) (.ref Cx_ParseError) = some false)
    (hv_InvalidDraft_ParseError : (Value.ref Cx_InvalidDraft == Value.ref Cx_ParseError) = false)
    (xo_InvalidRoom_ParseError : PySem.W.subIn K (.ref Cx_InvalidRoom) (.ref Cx_ParseError) = some false)
    (hv_InvalidRoom_ParseError : (Value.ref Cx_InvalidRoom == Value.ref Cx_ParseError) = false)
    (xo_InvalidQuestion_ParseError : PySem.W.subIn K (.ref Cx_InvalidQuestion) (.ref Cx_ParseError) = some false)
    (hv_InvalidQuestion_ParseError : (Value.ref Cx_InvalidQuestion == Value.ref Cx_ParseError) = false)
    (xo_InvalidProgram_ParseError : PySem.W.subIn K (.ref Cx_InvalidProgram) (.ref Cx_ParseError) = some false)
    (hv_InvalidProgram_ParseError : (Value.ref Cx_InvalidProgram == Value.ref Cx_ParseError) = false)
    (xo_InvalidLibrary_ParseError : PySem.W.subIn K (.ref Cx_InvalidLibrary) (.ref Cx_ParseError) = some false)
    (hv_InvalidLibrary_ParseError : (Value.ref Cx_InvalidLibrary == Value.ref Cx_ParseError) = false)
    (xo_InvalidType_ParseError : PySem.W.subIn K (.ref Cx_InvalidType) (.ref Cx_ParseError) = some false)
    (hv_InvalidType_ParseError : (Value.ref Cx_InvalidType == Value.ref Cx_ParseError) = false)
    (xo_InvalidWord_ParseError : PySem.W.subIn K (.ref Cx_InvalidWord) (.ref Cx_ParseError) = some false)
    (hv_InvalidWord_ParseError : (Value.ref Cx_InvalidWord == Value.ref Cx_ParseError) = false)
    (xo_BuildError_ParseError : PySem.W.subIn K (.ref Cx_BuildError) (.ref Cx_ParseError) = some false)
    (hv_BuildError_ParseError : (Value.ref Cx_BuildError == Value.ref Cx_ParseError) = false)
    (xo_InvalidNumber_BuildError : PySem.W.subIn K (.ref Cx_InvalidNumber) (.ref Cx_BuildError) = some false)
    (hv_InvalidNumber_BuildError : (Value.ref Cx_InvalidNumber == Value.ref Cx_BuildError) = false)
    (xo_Refused_BuildError : PySem.W.subIn K (.ref Cx_Refused) (.ref Cx_BuildError) = some false)
    (hv_Refused_BuildError : (Value.ref Cx_Refused == Value.ref Cx_BuildError) = false)
    (xo_TooMany_BuildError : PySem.W.subIn K (.ref Cx_TooMany) (.ref Cx_BuildError) = some false)
    (hv_TooMany_BuildError : (Value.ref Cx_TooMany == Value.ref Cx_BuildError) = false)
    (xo_NothingToUndo_BuildError : PySem.W.subIn K (.ref Cx_NothingToUndo) (.ref Cx_BuildError) = some false)
    (hv_NothingToUndo_BuildError : (Value.ref Cx_NothingToUndo == Value.ref Cx_BuildError) = false)
    (xo_NoProgram_BuildError : PySem.W.subIn K (.ref Cx_NoProgram) (.ref Cx_BuildError) = some false)
    (hv_NoProgram_BuildError : (Value.ref Cx_NoProgram == Value.ref Cx_BuildError) = false)
    (xo_UnknownWord_BuildError : PySem.W.subIn K (.ref Cx_UnknownWord) (.ref Cx_BuildError) = some false)
    (hv_UnknownWord_BuildError : (Value.ref Cx_UnknownWord == Value.ref Cx_BuildError) = false)
    (xo_ParseError_BuildError : PySem.W.subIn K (.ref Cx_ParseError) (.ref Cx_BuildError) = some true)
    (hv_ParseError_BuildError : (Value.ref Cx_ParseError == Value.ref Cx_BuildError) = false)
    (xo_InvalidOperation_BuildError : PySem.W.subIn K (.ref Cx_InvalidOperation) (.ref Cx_BuildError) = some true)
    (hv_InvalidOperation_BuildError : (Value.ref Cx_InvalidOperation == Value.ref Cx_BuildError) = false)
    (xo_InvalidDraft_BuildError : PySem.W.subIn K (.ref Cx_InvalidDraft) (.ref Cx_BuildError) = some true)
    (hv_InvalidDraft_BuildError : (Value.ref Cx_InvalidDraft == Value.ref Cx_BuildError) = false)
    (xo_InvalidRoom_BuildError : PySem.W.subIn K (.ref Cx_InvalidRoom) (.ref Cx_BuildError) = some true)
    (hv_InvalidRoom_BuildError : (Value.ref Cx_InvalidRoom == Value.ref Cx_BuildError) = false)
    (xo_InvalidQuestion_BuildError : PySem.W.subIn K (.ref Cx_InvalidQuestion) (.ref Cx_BuildError) = some true)
    (hv_InvalidQuestion_BuildError : (Value.ref Cx_InvalidQuestion == Value.ref Cx_BuildError) = false)
    (xo_InvalidProgram_BuildError : PySem.W.subIn K (.ref Cx_InvalidProgram) (.ref Cx_BuildError) = some true)
    (hv_InvalidProgram_BuildError : (Value.ref Cx_InvalidProgram == Value.ref Cx_BuildError) = false)
    (xo_InvalidLibrary_BuildError : PySem.W.subIn K (.ref Cx_InvalidLibrary) (.ref Cx_BuildError) = some true)
    (hv_InvalidLibrary_BuildError : (Value.ref Cx_InvalidLibrary == Value.ref Cx_BuildError) = false)
    (xo_InvalidType_BuildError : PySem.W.subIn K (.ref Cx_InvalidType) (.ref Cx_BuildError) = some true)
    (hv_InvalidType_BuildError : (Value.ref Cx_InvalidType == Value.ref Cx_BuildError) = false)
    (xo_InvalidWord_BuildError : PySem.W.subIn K (.ref Cx_InvalidWord) (.ref Cx_BuildError) = some true)
    (hv_InvalidWord_BuildError : (Value.ref Cx_InvalidWord == Value.ref Cx_BuildError) = false)
    (xo_InvalidNumber_ValueError : PySem.W.subIn K (.ref Cx_InvalidNumber) (.type "ValueError") = some false)
    (xo_Refused_ValueError : PySem.W.subIn K (.ref Cx_Refused) (.type "ValueError") = some false)
    (xo_TooMany_ValueError : PySem.W.subIn K (.ref Cx_TooMany) (.type "ValueError") = some false)
    (xo_NothingToUndo_ValueError : PySem.W.subIn K (.ref Cx_NothingToUndo) (.type "ValueError") = some false)
    (xo_NoProgram_ValueError : PySem.W.subIn K (.ref Cx_NoProgram) (.type "ValueError") = some false)
    (xo_UnknownWord_ValueError : PySem.W.subIn K (.ref Cx_UnknownWord) (.type "ValueError") = some false)
    (xo_ParseError_ValueError : PySem.W.subIn K (.ref Cx_ParseError) (.type "ValueError") = some true)
    (xo_InvalidOperation_ValueError : PySem.W.subIn K (.ref Cx_InvalidOperation) (.type "ValueError") = some true)
    (xo_InvalidDraft_ValueError : PySem.W.subIn K (.ref Cx_InvalidDraft) (.type "ValueError") = some true)
    (xo_InvalidRoom_ValueError : PySem.W.subIn K (.ref Cx_InvalidRoom) (.type "ValueError") = some true)
    (xo_InvalidQuestion_ValueError : PySem.W.subIn K (.ref Cx_InvalidQuestion) (.type "ValueError") = some true)
    (xo_InvalidProgram_ValueError : PySem.W.subIn K (.ref Cx_InvalidProgram) (.type "ValueError") = some true)
    (xo_InvalidLibrary_ValueError : PySem.W.subIn K (.ref Cx_InvalidLibrary) (.type "ValueError") = some true)
    (xo_InvalidType_ValueError : PySem.W.subIn K (.ref Cx_InvalidType) (.type "ValueError") = some true)
    (xo_InvalidWord_ValueError : PySem.W.subIn K (.ref Cx_InvalidWord) (.type "ValueError") = some true)
    (xo_BuildError_ValueError : PySem.W.subIn K (.ref Cx_BuildError) (.type "ValueError") = some true)
    (xo_InvalidNumber_UnknownWord : PySem.W.subIn K (.ref Cx_InvalidNumber) (.ref Cx_UnknownWord) = some false)
    (hv_InvalidNumber_UnknownWord : (Value.ref Cx_InvalidNumber == Value.ref Cx_UnknownWord) = false)
    (xo_Refused_UnknownWord : PySem.W.subIn K (.ref Cx_Refused) (.ref Cx_UnknownWord) = some false)
    (hv_Refused_UnknownWord : (Value.ref Cx_Refused == Value.ref Cx_UnknownWord) = false)
    (xo_TooMany_UnknownWord : PySem.W.subIn K (.ref Cx_TooMany) (.ref Cx_UnknownWord) = some false)
    (hv_TooMany_UnknownWord : (Value.ref Cx_TooMany == Value.ref Cx_UnknownWord) = false)
    (xo_NothingToUndo_UnknownWord : PySem.W.subIn K (.ref Cx_NothingToUndo) (.ref Cx_UnknownWord) = some false)
    (hv_NothingToUndo_UnknownWord : (Value.ref Cx_NothingToUndo == Value.ref Cx_UnknownWord) = false)
    (xo_NoProgram_UnknownWord : PySem.W.subIn K (.ref Cx_NoProgram) (.ref Cx_UnknownWord) = some false)
    (hv_NoProgram_UnknownWord : (Value.ref Cx_NoProgram == Value.ref Cx_UnknownWord) = false)
    (xo_ParseError_UnknownWord : PySem.W.subIn K (.ref Cx_ParseError) (.ref Cx_UnknownWord) = some false)
    (hv_ParseError_UnknownWord : (Value.ref Cx_ParseError == Value.ref Cx_UnknownWord) = false)
    (xo_InvalidOperation_UnknownWord : PySem.W.subIn K (.ref Cx_InvalidOperation) (.ref Cx_UnknownWord) = some false)
    (hv_InvalidOperation_UnknownWord : (Value.ref Cx_InvalidOperation == Value.ref Cx_UnknownWord) = false)
    (xo_InvalidDraft_UnknownWord : PySem.W.subIn K (.ref Cx_InvalidDraft) (.ref Cx_UnknownWord) = some false)
    (hv_InvalidDraft_UnknownWord : (Value.ref Cx_InvalidDraft == Value.ref Cx_UnknownWord) = false)
    (xo_InvalidRoom_UnknownWord : PySem.W.subIn K (.ref Cx_InvalidRoom) (.ref Cx_UnknownWord) = some false)
    (hv_InvalidRoom_UnknownWord : (Value.ref Cx_InvalidRoom == Value.ref Cx_UnknownWord) = false)
    (xo_InvalidQuestion_UnknownWord : PySem.W.subIn K (.ref Cx_InvalidQuestion) (.ref Cx_UnknownWord) = some false)
    (hv_InvalidQuestion_UnknownWord : (Value.ref Cx_InvalidQuestion == Value.ref Cx_UnknownWord) = false)
    (xo_InvalidProgram_UnknownWord : PySem.W.subIn K (.ref Cx_InvalidProgram) (.ref Cx_UnknownWord) = some false)
    (hv_InvalidProgram_UnknownWord : (Value.ref Cx_InvalidProgram == Value.ref Cx_UnknownWord) = false)
    (xo_InvalidLibrary_UnknownWord : PySem.W.subIn K (.ref Cx_InvalidLibrary) (.ref Cx_UnknownWord) = some false)
    (hv_InvalidLibrary_UnknownWord : (Value.ref Cx_InvalidLibrary == Value.ref Cx_UnknownWord) = false)
    (xo_InvalidType_UnknownWord : PySem.W.subIn K (.ref Cx_InvalidType) (.ref Cx_UnknownWord) = some false)
    (hv_InvalidType_UnknownWord : (Value.ref Cx_InvalidType == Value.ref Cx_UnknownWord) = false)
    (xo_InvalidWord_UnknownWord : PySem.W.subIn K (.ref Cx_InvalidWord) (.ref Cx_UnknownWord) = some false)
    (hv_InvalidWord_UnknownWord : (Value.ref Cx_InvalidWord == Value.ref Cx_UnknownWord) = false)
    (xo_BuildError_UnknownWord : PySem.W.subIn K (.ref Cx_BuildError) (.ref Cx_UnknownWord) = some false)
    (hv_BuildError_UnknownWord : (Value.ref Cx_BuildError == Value.ref Cx_UnknownWord) = false)
    (xo_InvalidNumber_NoProgram : PySem.W.subIn K (.ref Cx_InvalidNumber) (.ref Cx_NoProgram) = some false)
    (hv_InvalidNumber_NoProgram : (Value.ref Cx_InvalidNumber == Value.ref Cx_NoProgram) = false)
    (xo_Refused_NoProgram : PySem.W.subIn K (.ref Cx_Refused) (.ref Cx_NoProgram) = some false)
    (hv_Refused_NoProgram : (Value.ref Cx_Refused == Value.ref Cx_NoProgram) = false)
    (xo_TooMany_NoProgram : PySem.W.subIn K (.ref Cx_TooMany) (.ref Cx_NoProgram) = some false)
    (hv_TooMany_NoProgram : (Value.ref Cx_TooMany == Value.ref Cx_NoProgram) = false)
    (xo_NothingToUndo_NoProgram : PySem.W.subIn K (.ref Cx_NothingToUndo) (.ref Cx_NoProgram) = some false)
    (hv_NothingToUndo_NoProgram : (Value.ref Cx_NothingToUndo == Value.ref Cx_NoProgram) = false)
    (xo_UnknownWord_NoProgram : PySem.W.subIn K (.ref Cx_UnknownWord) (.ref Cx_NoProgram) = some false)
    (hv_UnknownWord_NoProgram : (Value.ref Cx_UnknownWord == Value.ref Cx_NoProgram) = false)
    (xo_ParseError_NoProgram : PySem.W.subIn K (.ref Cx_ParseError) (.ref Cx_NoProgram) = some false)
    (hv_ParseError_NoProgram : (Value.ref Cx_ParseError == Value.ref Cx_NoProgram) = false)
    (xo_InvalidOperation_NoProgram : PySem.W.subIn K (.ref Cx_InvalidOperation) (.ref Cx_NoProgram) = some false)
    (hv_InvalidOperation_NoProgram : (Value.ref Cx_InvalidOperation == Value.ref Cx_NoProgram) = false)
    (xo_InvalidDraft_NoProgram : PySem.W.subIn K (.ref Cx_InvalidDraft) (.ref Cx_NoProgram) = some false)
    (hv_InvalidDraft_NoProgram : (Value.ref Cx_InvalidDraft == Value.ref Cx_NoProgram) = false)
    (xo_InvalidRoom_NoProgram : PySem.W.subIn K (.ref Cx_InvalidRoom) (.ref Cx_NoProgram) = some false)
    (hv_InvalidRoom_NoProgram : (Value.ref Cx_InvalidRoom == Value.ref Cx_NoProgram) = false)
    (xo_InvalidQuestion_NoProgram : PySem.W.subIn K (.ref Cx_InvalidQuestion) (.ref Cx_NoProgram) = some false)
    (hv_InvalidQuestion_NoProgram : (Value.ref Cx_InvalidQuestion == Value.ref Cx_NoProgram) = false)
    (xo_InvalidProgram_NoProgram : PySem.W.subIn K (.ref Cx_InvalidProgram) (.ref Cx_NoProgram) = some false)
    (hv_InvalidProgram_NoProgram : (Value.ref Cx_InvalidProgram == Value.ref Cx_NoProgram) = false)
    (xo_InvalidLibrary_NoProgram : PySem.W.subIn K (.ref Cx_InvalidLibrary) (.ref Cx_NoProgram) = some false)
    (hv_InvalidLibrary_NoProgram : (Value.ref Cx_InvalidLibrary == Value.ref Cx_NoProgram) = false)
    (xo_InvalidType_NoProgram : PySem.W.subIn K (.ref Cx_InvalidType) (.ref Cx_NoProgram) = some false)
    (hv_InvalidType_NoProgram : (Value.ref Cx_InvalidType == Value.ref Cx_NoProgram) = false)
    (xo_InvalidWord_NoProgram : PySem.W.subIn K (.ref Cx_InvalidWord) (.ref Cx_NoProgram) = some false)
    (hv_InvalidWord_NoProgram : (Value.ref Cx_InvalidWord == Value.ref Cx_NoProgram) = false)
    (xo_BuildError_NoProgram : PySem.W.subIn K (.ref Cx_BuildError) (.ref Cx_NoProgram) = some false)
    (hv_BuildError_NoProgram : (Value.ref Cx_BuildError == Value.ref Cx_NoProgram) = false)
    (xo_InvalidNumber_NothingToUndo : PySem.W.subIn K (.ref Cx_InvalidNumber) (.ref Cx_NothingToUndo) = some false)
    (hv_InvalidNumber_NothingToUndo : (Value.ref Cx_InvalidNumber == Value.ref Cx_NothingToUndo) = false)
    (xo_Refused_NothingToUndo : PySem.W.subIn K (.ref Cx_Refused) (.ref Cx_NothingToUndo) = some false)
    (hv_Refused_NothingToUndo : (Value.ref Cx_Refused == Value.ref Cx_NothingToUndo) = false)
    (xo_TooMany_NothingToUndo : PySem.W.subIn K (.ref Cx_TooMany) (.ref Cx_NothingToUndo) = some false)
    (hv_TooMany_NothingToUndo : (Value.ref Cx_TooMany == Value.ref Cx_NothingToUndo) = false)
    (xo_NoProgram_NothingToUndo : PySem.W.subIn K (.ref Cx_NoProgram) (.ref Cx_NothingToUndo) = some false)
    (hv_NoProgram_NothingToUndo : (Value.ref Cx_NoProgram == Value.ref Cx_NothingToUndo) = false)
    (xo_UnknownWord_NothingToUndo : PySem.W.subIn K (.ref Cx_UnknownWord) (.ref Cx_NothingToUndo) = some false)
    (hv_UnknownWord_NothingToUndo : (Value.ref Cx_UnknownWord == Value.ref Cx_NothingToUndo) = false)
    (xo_ParseError_NothingToUndo : PySem.W.subIn K (.ref Cx_ParseError) (.ref Cx_NothingToUndo) = some false)
    (hv_ParseError_NothingToUndo : (Value.ref Cx_ParseError == Value.ref Cx_NothingToUndo) = false)
    (xo_InvalidOperation_NothingToUndo : PySem.W.subIn K (.ref Cx_InvalidOperation) (.ref Cx_NothingToUndo) = some false)
    (hv_InvalidOperation_NothingToUndo : (Value.ref Cx_InvalidOperation == Value.ref Cx_NothingToUndo) = false)
    (xo_InvalidDraft_NothingToUndo : PySem.W.subIn K (.ref Cx_InvalidDraft) (.ref Cx_NothingToUndo) = some false)
    (hv_InvalidDraft_NothingToUndo : (Value.ref Cx_InvalidDraft == Value.ref Cx_NothingToUndo) = false)
    (xo_InvalidRoom_NothingToUndo : PySem.W.subIn K (.ref Cx_InvalidRoom) (.ref Cx_NothingToUndo) = some false)
    (hv_InvalidRoom_NothingToUndo : (Value.ref Cx_InvalidRoom == Value.ref Cx_NothingToUndo) = false)
    (xo_InvalidQuestion_NothingToUndo : PySem.W.subIn K (.ref Cx_InvalidQuestion) (.ref Cx_NothingToUndo) = some false)
    (hv_InvalidQuestion_NothingToUndo : (Value.ref Cx_InvalidQuestion == Value.ref Cx_NothingToUndo) = false)
    (xo_InvalidProgram_NothingToUndo : PySem.W.subIn K (.ref Cx_InvalidProgram) (.ref Cx_NothingToUndo) = some false)
    (hv_InvalidProgram_NothingToUndo : (Value.ref Cx_InvalidProgram == Value.ref Cx_NothingToUndo) = false)
    (xo_InvalidLibrary_NothingToUndo : PySem.W.subIn K (.ref Cx_InvalidLibrary) (.ref Cx_NothingToUndo) = some false)
    (hv_InvalidLibrary_NothingToUndo : (Value.ref Cx_InvalidLibrary == Value.ref Cx_NothingToUndo) = false)
    (xo_InvalidType_NothingToUndo : PySem.W.subIn K (.ref Cx_InvalidType) (.ref Cx_NothingToUndo) = some false)
    (hv_InvalidType_NothingToUndo : (Value.ref Cx_InvalidType == Value.ref Cx_NothingToUndo) = false)
    (xo_InvalidWord_NothingToUndo : PySem.W.subIn K (.ref Cx_InvalidWord) (.ref Cx_NothingToUndo) = some false)
    (hv_InvalidWord_NothingToUndo : (Value.ref Cx_InvalidWord == Value.ref Cx_NothingToUndo) = false)
    (xo_BuildError_NothingToUndo : PySem.W.subIn K (.ref Cx_BuildError) (.ref Cx_NothingToUndo) = some false)
    (hv_BuildError_NothingToUndo : (Value.ref Cx_BuildError == Value.ref Cx_NothingToUndo) = false)
    (xo_InvalidNumber_TooMany : PySem.W.subIn K (.ref Cx_InvalidNumber) (.ref Cx_TooMany) = some false)
    (hv_InvalidNumber_TooMany : (Value.ref Cx_InvalidNumber == Value.ref Cx_TooMany) = false)
    (xo_Refused_TooMany : PySem.W.subIn K (.ref Cx_Refused) (.ref Cx_TooMany) = some false)
    (hv_Refused_TooMany : (Value.ref Cx_Refused == Value.ref Cx_TooMany) = false)
    (xo_NothingToUndo_TooMany : PySem.W.subIn K (.ref Cx_NothingToUndo) (.ref Cx_TooMany) = some false)
    (hv_NothingToUndo_TooMany : (Value.ref Cx_NothingToUndo == Value.ref Cx_TooMany) = false)
    (xo_NoProgram_TooMany : PySem.W.subIn K (.ref Cx_NoProgram) (.ref Cx_TooMany) = some false)
    (hv_NoProgram_TooMany : (Value.ref Cx_NoProgram == Value.ref Cx_TooMany) = false)
    (xo_UnknownWord_TooMany : PySem.W.subIn K (.ref Cx_UnknownWord) (.ref Cx_TooMany) = some false)
    (hv_UnknownWord_TooMany : (Value.ref Cx_UnknownWord == Value.ref Cx_TooMany) = false)
    (xo_ParseError_TooMany : PySem.W.subIn K (.ref Cx_ParseError) (.ref Cx_TooMany) = some false)
    (hv_ParseError_TooMany : (Value.ref Cx_ParseError == Value.ref Cx_TooMany) = false)
    (xo_InvalidOperation_TooMany : PySem.W.subIn K (.ref Cx_InvalidOperation) (.ref Cx_TooMany) = some false)
    (hv_InvalidOperation_TooMany : (Value.ref Cx_InvalidOperation == Value.ref Cx_TooMany) = false)
    (xo_InvalidDraft_TooMany : PySem.W.subIn K (.ref Cx_InvalidDraft) (.ref Cx_TooMany) = some false)
    (hv_InvalidDraft_TooMany : (Value.ref Cx_InvalidDraft == Value.ref Cx_TooMany) = false)
    (xo_InvalidRoom_TooMany : PySem.W.subIn K (.ref Cx_InvalidRoom) (.ref Cx_TooMany) = some false)
    (hv_InvalidRoom_TooMany : (Value.ref Cx_InvalidRoom == Value.ref Cx_TooMany) = false)
    (xo_InvalidQuestion_TooMany : PySem.W.subIn K (.ref Cx_InvalidQuestion) (.ref Cx_TooMany) = some false)
    (hv_InvalidQuestion_TooMany : (Value.ref Cx_InvalidQuestion == Value.ref Cx_TooMany) = false)
    (xo_InvalidProgram_TooMany : PySem.W.subIn K (.ref Cx_InvalidProgram) (.ref Cx_TooMany) = some false)
    (hv_InvalidProgram_TooMany : (Value.ref Cx_InvalidProgram == Value.ref Cx_TooMany) = false)
    (xo_InvalidLibrary_TooMany : PySem.W.subIn K (.ref Cx_InvalidLibrary) (.ref Cx_TooMany) = some false)
    (hv_InvalidLibrary_TooMany : (Value.ref Cx_InvalidLibrary == Value.ref Cx_TooMany) = false)
    (xo_InvalidType_TooMany : PySem.W.subIn K (.ref Cx_InvalidType) (.ref Cx_TooMany) = some false)
    (hv_InvalidType_TooMany : (Value.ref Cx_InvalidType == Value.ref Cx_TooMany) = false)
    (xo_InvalidWord_TooMany : PySem.W.subIn K (.ref Cx_InvalidWord) (.ref Cx_TooMany) = some false)
    (hv_InvalidWord_TooMany : (Value.ref Cx_InvalidWord == Value.ref Cx_TooMany) = false)
    (xo_BuildError_TooMany : PySem.W.subIn K (.ref Cx_BuildError) (.ref Cx_TooMany) = some false)
    (hv_BuildError_TooMany : (Value.ref Cx_BuildError == Value.ref Cx_TooMany) = false)
    (xo_InvalidNumber_Refused : PySem.W.subIn K (.ref Cx_InvalidNumber) (.ref Cx_Refused) = some false)
    (hv_InvalidNumber_Refused : (Value.ref Cx_InvalidNumber == Value.ref Cx_Refused) = false)
    (xo_TooMany_Refused : PySem.W.subIn K (.ref Cx_TooMany) (.ref Cx_Refused) = some false)
    (hv_TooMany_Refused : (Value.ref Cx_TooMany == Value.ref Cx_Refused) = false)
    (xo_NothingToUndo_Refused : PySem.W.subIn K (.ref Cx_NothingToUndo) (.ref Cx_Refused) = some false)
    (hv_NothingToUndo_Refused : (Value.ref Cx_NothingToUndo == Value.ref Cx_Refused) = false)
    (xo_NoProgram_Refused : PySem.W.subIn K (.ref Cx_NoProgram) (.ref Cx_Refused) = some false)
    (hv_NoProgram_Refused : (Value.ref Cx_NoProgram == Value.ref Cx_Refused) = false)
    (xo_UnknownWord_Refused : PySem.W.subIn K (.ref Cx_UnknownWord) (.ref Cx_Refused) = some false)
    (hv_UnknownWord_Refused : (Value.ref Cx_UnknownWord == Value.ref Cx_Refused) = false)
    (xo_ParseError_Refused : PySem.W.subIn K (.ref Cx_ParseError) (.ref Cx_Refused) = some false)
    (hv_ParseError_Refused : (Value.ref Cx_ParseError == Value.ref Cx_Refused) = false)
    (xo_InvalidOperation_Refused : PySem.W.subIn K (.ref Cx_InvalidOperation) (.ref Cx_Refused) = some false)
    (hv_InvalidOperation_Refused : (Value.ref Cx_InvalidOperation == Value.ref Cx_Refused) = false)
    (xo_InvalidDraft_Refused : PySem.W.subIn K (.ref Cx_InvalidDraft) (.ref Cx_Refused) = some false)
    (hv_InvalidDraft_Refused : (Value.ref Cx_InvalidDraft == Value.ref Cx_Refused) = false)
    (xo_InvalidRoom_Refused : PySem.W.subIn K (.ref Cx_InvalidRoom) (.ref Cx_Refused) = some false)
    (hv_InvalidRoom_Refused : (Value.ref Cx_InvalidRoom == Value.ref Cx_Refused) = false)
    (xo_InvalidQuestion_Refused : PySem.W.subIn K (.ref Cx_InvalidQuestion) (.ref Cx_Refused) = some false)
    (hv_InvalidQuestion_Refused : (Value.ref Cx_InvalidQuestion == Value.ref Cx_Refused) = false)
    (xo_InvalidProgram_Refused : PySem.W.subIn K (.ref Cx_InvalidProgram) (.ref Cx_Refused) = some false)
    (hv_InvalidProgram_Refused : (Value.ref Cx_InvalidProgram == Value.ref Cx_Refused) = false)
    (xo_InvalidLibrary_Refused : PySem.W.subIn K (.ref Cx_InvalidLibrary) (.ref Cx_Refused) = some false)
    (hv_InvalidLibrary_Refused : (Value.ref Cx_InvalidLibrary == Value.ref Cx_Refused) = false)
    (xo_InvalidType_Refused : PySem.W.subIn K (.ref Cx_InvalidType) (.ref Cx_Refused) = some false)
    (hv_InvalidType_Refused : (Value.ref Cx_InvalidType == Value.ref Cx_Refused) = false)
    (xo_InvalidWord_Refused : PySem.W.subIn K (.ref Cx_InvalidWord) (.ref Cx_Refused) = some false)
    (hv_InvalidWord_Refused : (Value.ref Cx_InvalidWord == Value.ref Cx_Refused) = false)
    (xo_BuildError_Refused : PySem.W.subIn K (.ref Cx_BuildError) (.ref Cx_Refused) = some false)
    (hv_BuildError_Refused : (Value.ref Cx_BuildError == Value.ref Cx_Refused) = false)
    (xo_Refused_InvalidNumber : PySem.W.subIn K (.ref Cx_Refused) (.ref Cx_InvalidNumber) = some false)
    (hv_Refused_InvalidNumber : (Value.ref Cx_Refused == Value.ref Cx_InvalidNumber) = false)
    (xo_TooMany_InvalidNumber : PySem.W.subIn K (.ref Cx_TooMany) (.ref Cx_InvalidNumber) = some false)
    (hv_TooMany_InvalidNumber : (Value.ref Cx_TooMany == Value.ref Cx_InvalidNumber) = false)
    (xo_NothingToUndo_InvalidNumber : PySem.W.subIn K (.ref Cx_NothingToUndo) (.ref Cx_InvalidNumber) = some false)
    (hv_NothingToUndo_InvalidNumber : (Value.ref Cx_NothingToUndo == Value.ref Cx_InvalidNumber) = false)
    (xo_NoProgram_InvalidNumber : PySem.W.subIn K (.ref Cx_NoProgram) (.ref Cx_InvalidNumber) = some false)
    (hv_NoProgram_InvalidNumber : (Value.ref Cx_NoProgram == Value.ref Cx_InvalidNumber) = false)
    (xo_UnknownWord_InvalidNumber : PySem.W.subIn K (.ref Cx_UnknownWord) (.ref Cx_InvalidNumber) = some false)
    (hv_UnknownWord_InvalidNumber : (Value.ref Cx_UnknownWord == Value.ref Cx_InvalidNumber) = false)
    (xo_ParseError_InvalidNumber : PySem.W.subIn K (.ref Cx_ParseError) (.ref Cx_InvalidNumber) = some false)
    (hv_ParseError_InvalidNumber : (Value.ref Cx_ParseError == Value.ref Cx_InvalidNumber) = false)
    (xo_InvalidOperation_InvalidNumber : PySem.W.subIn K (.ref Cx_InvalidOperation) (.ref Cx_InvalidNumber) = some false)
    (hv_InvalidOperation_InvalidNumber : (Value.ref Cx_InvalidOperation == Value.ref Cx_InvalidNumber) = false)
    (xo_InvalidDraft_InvalidNumber : PySem.W.subIn K (.ref Cx_InvalidDraft) (.ref Cx_InvalidNumber) = some false)
    (hv_InvalidDraft_InvalidNumber : (Value.ref Cx_InvalidDraft == Value.ref Cx_InvalidNumber) = false)
    (xo_InvalidRoom_InvalidNumber : PySem.W.subIn K (.ref Cx_InvalidRoom) (.ref Cx_InvalidNumber) = some false)
    (hv_InvalidRoom_InvalidNumber : (Value.ref Cx_InvalidRoom == Value.ref Cx_InvalidNumber) = false)
    (xo_InvalidQuestion_InvalidNumber : PySem.W.subIn K (.ref Cx_InvalidQuestion) (.ref Cx_InvalidNumber) = some false)
    (hv_InvalidQuestion_InvalidNumber : (Value.ref Cx_InvalidQuestion == Value.ref Cx_InvalidNumber) = false)
    (xo_InvalidProgram_InvalidNumber : PySem.W.subIn K (.ref Cx_InvalidProgram) (.ref Cx_InvalidNumber) = some false)
    (hv_InvalidProgram_InvalidNumber : (Value.ref Cx_InvalidProgram == Value.ref Cx_InvalidNumber) = false)
    (xo_InvalidLibrary_InvalidNumber : PySem.W.subIn K (.ref Cx_InvalidLibrary) (.ref Cx_InvalidNumber) = some false)
    (hv_InvalidLibrary_InvalidNumber : (Value.ref Cx_InvalidLibrary == Value.ref Cx_InvalidNumber) = false)
    (xo_InvalidType_InvalidNumber : PySem.W.subIn K (.ref Cx_InvalidType) (.ref Cx_InvalidNumber) = some false)
    (hv_InvalidType_InvalidNumber : (Value.ref Cx_InvalidType == Value.ref Cx_InvalidNumber) = false)
    (xo_InvalidWord_InvalidNumber : PySem.W.subIn K (.ref Cx_InvalidWord) (.ref Cx_InvalidNumber) = some false)
    (hv_InvalidWord_InvalidNumber : (Value.ref Cx_InvalidWord == Value.ref Cx_InvalidNumber) = false)
    (xo_BuildError_InvalidNumber : PySem.W.subIn K (.ref Cx_BuildError) (.ref Cx_InvalidNumber) = some false)
    (hv_BuildError_InvalidNumber : (Value.ref Cx_BuildError == Value.ref Cx_InvalidNumber) = false)
    (xo_InvalidNumber_KeyError : PySem.W.subIn K (.ref Cx_InvalidNumber) (.type "KeyError") = some false)
    (xo_Refused_KeyError : PySem.W.subIn K (.ref Cx_Refused) (.type "KeyError") = some false)
    (xo_TooMany_KeyError : PySem.W.subIn K (.ref Cx_TooMany) (.type "KeyError") = some false)
    (xo_NothingToUndo_KeyError : PySem.W.subIn K (.ref Cx_NothingToUndo) (.type "KeyError") = some false)
    (xo_NoProgram_KeyError : PySem.W.subIn K (.ref Cx_NoProgram) (.type "KeyError") = some false)
    (xo_UnknownWord_KeyError : PySem.W.subIn K (.ref Cx_UnknownWord) (.type "KeyError") = some true)
    (xo_ParseError_KeyError : PySem.W.subIn K (.ref Cx_ParseError) (.type "KeyError") = some false)
    (xo_InvalidOperation_KeyError : PySem.W.subIn K (.ref Cx_InvalidOperation) (.type "KeyError") = some false)
    (xo_InvalidDraft_KeyError : PySem.W.subIn K (.ref Cx_InvalidDraft) (.type "KeyError") = some false)
    (xo_InvalidRoom_KeyError : PySem.W.subIn K (.ref Cx_InvalidRoom) (.type "KeyError") = some false)
    (xo_InvalidQuestion_KeyError : PySem.W.subIn K (.ref Cx_InvalidQuestion) (.type "KeyError") = some false)
    (xo_InvalidProgram_KeyError : PySem.W.subIn K (.ref Cx_InvalidProgram) (.type "KeyError") = some false)
    (xo_InvalidLibrary_KeyError : PySem.W.subIn K (.ref Cx_InvalidLibrary) (.type "KeyError") = some false)
    (xo_InvalidType_KeyError : PySem.W.subIn K (.ref Cx_InvalidType) (.type "KeyError") = some false)
    (xo_InvalidWord_KeyError : PySem.W.subIn K (.ref Cx_InvalidWord) (.type "KeyError") = some false)
    (xo_BuildError_KeyError : PySem.W.subIn K (.ref Cx_BuildError) (.type "KeyError") = some false)
    (xo_InvalidNumber_IndexError : PySem.W.subIn K (.ref Cx_InvalidNumber) (.type "IndexError") = some false)
    (xo_Refused_IndexError : PySem.W.subIn K (.ref Cx_Refused) (.type "IndexError") = some false)
    (xo_TooMany_IndexError : PySem.W.subIn K (.ref Cx_TooMany) (.type "IndexError") = some false)
    (xo_NothingToUndo_IndexError : PySem.W.subIn K (.ref Cx_NothingToUndo) (.type "IndexError") = some true)
    (xo_NoProgram_IndexError : PySem.W.subIn K (.ref Cx_NoProgram) (.type "IndexError") = some false)
    (xo_UnknownWord_IndexError : PySem.W.subIn K (.ref Cx_UnknownWord) (.type "IndexError") = some false)
    (xo_ParseError_IndexError : PySem.W.subIn K (.ref Cx_ParseError) (.type "IndexError") = some false)
    (xo_InvalidOperation_IndexError : PySem.W.subIn K (.ref Cx_InvalidOperation) (.type "IndexError") = some false)
    (xo_InvalidDraft_IndexError : PySem.W.subIn K (.ref Cx_InvalidDraft) (.type "IndexError") = some false)
    (xo_InvalidRoom_IndexError : PySem.W.subIn K (.ref Cx_InvalidRoom) (.type "IndexError") = some false)
    (xo_InvalidQuestion_IndexError : PySem.W.subIn K (.ref Cx_InvalidQuestion) (.type "IndexError") = some false)
    (xo_InvalidProgram_IndexError : PySem.W.subIn K (.ref Cx_InvalidProgram) (.type "IndexError") = some false)
    (xo_InvalidLibrary_IndexError : PySem.W.subIn K (.ref Cx_InvalidLibrary) (.type "IndexError") = some false)
    (xo_InvalidType_IndexError : PySem.W.subIn K (.ref Cx_InvalidType) (.type "IndexError") = some false)
    (xo_InvalidWord_IndexError : PySem.W.subIn K (.ref Cx_InvalidWord) (.type "IndexError") = some false)
    (xo_BuildError_IndexError : PySem.W.subIn K (.ref Cx_BuildError) (.type "IndexError") = some false)
    (xo_InvalidNumber_LookupError : PySem.W.subIn K (.ref Cx_InvalidNumber) (.type "LookupError") = some false)
    (xo_Refused_LookupError : PySem.W.subIn K (.ref Cx_Refused) (.type "LookupError") = some false)
    (xo_TooMany_LookupError : PySem.W.subIn K (.ref Cx_TooMany) (.type "LookupError") = some false)
    (xo_NothingToUndo_LookupError : PySem.W.subIn K (.ref Cx_NothingToUndo) (.type "LookupError") = some true)
    (xo_NoProgram_LookupError : PySem.W.subIn K (.ref Cx_NoProgram) (.type "LookupError") = some true)
    (xo_UnknownWord_LookupError : PySem.W.subIn K (.ref Cx_UnknownWord) (.type "LookupError") = some true)
    (xo_ParseError_LookupError : PySem.W.subIn K (.ref Cx_ParseError) (.type "LookupError") = some false)
    (xo_InvalidOperation_LookupError : PySem.W.subIn K (.ref Cx_InvalidOperation) (.type "LookupError") = some false)
    (xo_InvalidDraft_LookupError : PySem.W.subIn K (.ref Cx_InvalidDraft) (.type "LookupError") = some false)
    (xo_InvalidRoom_LookupError : PySem.W.subIn K (.ref Cx_InvalidRoom) (.type "LookupError") = some false)
    (xo_InvalidQuestion_LookupError : PySem.W.subIn K (.ref Cx_InvalidQuestion) (.type "LookupError") = some false)
    (xo_InvalidProgram_LookupError : PySem.W.subIn K (.ref Cx_InvalidProgram) (.type "LookupError") = some false)
    (xo_InvalidLibrary_LookupError : PySem.W.subIn K (.ref Cx_InvalidLibrary) (.type "LookupError") = some false)
    (xo_InvalidType_LookupError : PySem.W.subIn K (.ref Cx_InvalidType) (.type "LookupError") = some false)
    (xo_InvalidWord_LookupError : PySem.W.subIn K (.ref Cx_InvalidWord) (.type "LookupError") = some false)
    (xo_BuildError_LookupError : PySem.W.subIn K (.ref Cx_BuildError) (.type "LookupError") = some false)
    (xo_InvalidNumber_OverflowError : PySem.W.subIn K (.ref Cx_InvalidNumber) (.type "OverflowError") = some false)
    (xo_Refused_OverflowError : PySem.W.subIn K (.ref Cx_Refused) (.type "OverflowError") = some false)
    (xo_TooMany_OverflowError : PySem.W.subIn K (.ref Cx_TooMany) (.type "OverflowError") = some true)
    (xo_NothingToUndo_OverflowError : PySem.W.subIn K (.ref Cx_NothingToUndo) (.type "OverflowError") = some false)
    (xo_NoProgram_OverflowError : PySem.W.subIn K (.ref Cx_NoProgram) (.type "OverflowError") = some false)
    (xo_UnknownWord_OverflowError : PySem.W.subIn K (.ref Cx_UnknownWord) (.type "OverflowError") = some false)
    (xo_ParseError_OverflowError : PySem.W.subIn K (.ref Cx_ParseError) (.type "OverflowError") = some false)
    (xo_InvalidOperation_OverflowError : PySem.W.subIn K (.ref Cx_InvalidOperation) (.type "OverflowError") = some false)
    (xo_InvalidDraft_OverflowError : PySem.W.subIn K (.ref Cx_InvalidDraft) (.type "OverflowError") = some false)
    (xo_InvalidRoom_OverflowError : PySem.W.subIn K (.ref Cx_InvalidRoom) (.type "OverflowError") = some false)
    (xo_InvalidQuestion_OverflowError : PySem.W.subIn K (.ref Cx_InvalidQuestion) (.type "OverflowError") = some false)
    (xo_InvalidProgram_OverflowError : PySem.W.subIn K (.ref Cx_InvalidProgram) (.type "OverflowError") = some false)
    (xo_InvalidLibrary_OverflowError : PySem.W.subIn K (.ref Cx_InvalidLibrary) (.type "OverflowError") = some false)
    (xo_InvalidType_OverflowError : PySem.W.subIn K (.ref Cx_InvalidType) (.type "OverflowError") = some false)
    (xo_InvalidWord_OverflowError : PySem.W.subIn K (.ref Cx_InvalidWord) (.type "OverflowError") = some false)
    (xo_BuildError_OverflowError : PySem.W.subIn K (.ref Cx_BuildError) (.type "OverflowError") = some false)
    (xo_InvalidNumber_ArithmeticError : PySem.W.subIn K (.ref Cx_InvalidNumber) (.type "ArithmeticError") = some false)
    (xo_Refused_ArithmeticError : PySem.W.subIn K (.ref Cx_Refused) (.type "ArithmeticError") = some true)
    (xo_TooMany_ArithmeticError : PySem.W.subIn K (.ref Cx_TooMany) (.type "ArithmeticError") = some true)
    (xo_NothingToUndo_ArithmeticError : PySem.W.subIn K (.ref Cx_NothingToUndo) (.type "ArithmeticError") = some false)
    (xo_NoProgram_ArithmeticError : PySem.W.subIn K (.ref Cx_NoProgram) (.type "ArithmeticError") = some false)
    (xo_UnknownWord_ArithmeticError : PySem.W.subIn K (.ref Cx_UnknownWord) (.type "ArithmeticError") = some false)
    (xo_ParseError_ArithmeticError : PySem.W.subIn K (.ref Cx_ParseError) (.type "ArithmeticError") = some false)
    (xo_InvalidOperation_ArithmeticError : PySem.W.subIn K (.ref Cx_InvalidOperation) (.type "ArithmeticError") = some false)
    (xo_InvalidDraft_ArithmeticError : PySem.W.subIn K (.ref Cx_InvalidDraft) (.type "ArithmeticError") = some false)
    (xo_InvalidRoom_ArithmeticError : PySem.W.subIn K (.ref Cx_InvalidRoom) (.type "ArithmeticError") = some false)
    (xo_InvalidQuestion_ArithmeticError : PySem.W.subIn K (.ref Cx_InvalidQuestion) (.type "ArithmeticError") = some false)
    (xo_InvalidProgram_ArithmeticError : PySem.W.subIn K (.ref Cx_InvalidProgram) (.type "ArithmeticError") = some false)
    (xo_InvalidLibrary_ArithmeticError : PySem.W.subIn K (.ref Cx_InvalidLibrary) (.type "ArithmeticError") = some false)
    (xo_InvalidType_ArithmeticError : PySem.W.subIn K (.ref Cx_InvalidType) (.type "ArithmeticError") = some false)
    (xo_InvalidWord_ArithmeticError : PySem.W.subIn K (.ref Cx_InvalidWord) (.type "ArithmeticError") = some false)
    (xo_BuildError_ArithmeticError : PySem.W.subIn K (.ref Cx_BuildError) (.type "ArithmeticError") = some false)
    (xo_InvalidNumber_RuntimeError : PySem.W.subIn K (.ref Cx_InvalidNumber) (.type "RuntimeError") = some true)
    (xo_Refused_RuntimeError : PySem.W.subIn K (.ref Cx_Refused) (.type "RuntimeError") = some false)
    (xo_TooMany_RuntimeError : PySem.W.subIn K (.ref Cx_TooMany) (.type "RuntimeError") = some false)
    (xo_NothingToUndo_RuntimeError : PySem.W.subIn K (.ref Cx_NothingToUndo) (.type "RuntimeError") = some false)
    (xo_NoProgram_RuntimeError : PySem.W.subIn K (.ref Cx_NoProgram) (.type "RuntimeError") = some false)
    (xo_UnknownWord_RuntimeError : PySem.W.subIn K (.ref Cx_UnknownWord) (.type "RuntimeError") = some false)
    (xo_ParseError_RuntimeError : PySem.W.subIn K (.ref Cx_ParseError) (.type "RuntimeError") = some false)
    (xo_InvalidOperation_RuntimeError : PySem.W.subIn K (.ref Cx_InvalidOperation) (.type "RuntimeError") = some false)
    (xo_InvalidDraft_RuntimeError : PySem.W.subIn K (.ref Cx_InvalidDraft) (.type "RuntimeError") = some false)
    (xo_InvalidRoom_RuntimeError : PySem.W.subIn K (.ref Cx_InvalidRoom) (.type "RuntimeError") = some false)
    (xo_InvalidQuestion_RuntimeError : PySem.W.subIn K (.ref Cx_InvalidQuestion) (.type "RuntimeError") = some false)
    (xo_InvalidProgram_RuntimeError : PySem.W.subIn K (.ref Cx_InvalidProgram) (.type "RuntimeError") = some false)
    (xo_InvalidLibrary_RuntimeError : PySem.W.subIn K (.ref Cx_InvalidLibrary) (.type "RuntimeError") = some false)
    (xo_InvalidType_RuntimeError : PySem.W.subIn K (.ref Cx_InvalidType) (.type "RuntimeError") = some false)
    (xo_InvalidWord_RuntimeError : PySem.W.subIn K (.ref Cx_InvalidWord) (.type "RuntimeError") = some false)
    (xo_BuildError_RuntimeError : PySem.W.subIn K (.ref Cx_BuildError) (.type "RuntimeError") = some false)
    (xZ_InvalidOperation : PySem.W.findIn K (.ref Cx_InvalidOperation) "__str__" = some (some (.builtin "BaseException.__str__")))
    (xZ_InvalidDraft : PySem.W.findIn K (.ref Cx_InvalidDraft) "__str__" = some (some (.builtin "BaseException.__str__")))
    (xZ_InvalidRoom : PySem.W.findIn K (.ref Cx_InvalidRoom) "__str__" = some (some (.builtin "BaseException.__str__")))
    (xZ_InvalidQuestion : PySem.W.findIn K (.ref Cx_InvalidQuestion) "__str__" = some (some (.builtin "BaseException.__str__")))
    (xZ_InvalidProgram : PySem.W.findIn K (.ref Cx_InvalidProgram) "__str__" = some (some (.builtin "BaseException.__str__")))
    (xZ_InvalidLibrary : PySem.W.findIn K (.ref Cx_InvalidLibrary) "__str__" = some (some (.builtin "BaseException.__str__")))
    (xZ_InvalidType : PySem.W.findIn K (.ref Cx_InvalidType) "__str__" = some (some (.builtin "BaseException.__str__")))
    (xZ_InvalidWord : PySem.W.findIn K (.ref Cx_InvalidWord) "__str__" = some (some (.builtin "BaseException.__str__")))
    (xZ_BuildError : PySem.W.findIn K (.ref Cx_BuildError) "__str__" = some (some (.builtin "BaseException.__str__"))) : ∃ Z, All ⟨mg, K⟩ Z := by
  
  exact ⟨⟨Cx_BuildError, Cx_InvalidWord, Cx_InvalidType, Cx_InvalidLibrary, Cx_InvalidProgram, Cx_InvalidQuestion, Cx_InvalidRoom, Cx_InvalidDraft, Cx_InvalidOperation, Cx_ParseError, Cx_UnknownWord, Cx_NoProgram, Cx_NothingToUndo, Cx_TooMany, Cx_Refused, Cx_InvalidNumber⟩, ⟨PySem.W.mg_none_of X G z_ArithmeticError,
    PySem.W.mg_none_of X G z_IndexError,
    PySem.W.mg_none_of X G z_KeyError,
    PySem.W.mg_none_of X G z_LookupError,
    PySem.W.mg_none_of X G z_OverflowError,
    PySem.W.mg_none_of X G z_RuntimeError,
    PySem.W.mg_none_of X G z_ValueError,
    PySem.W.mg_none_of X G z_abs,
    PySem.W.mg_none_of X G z_int,
    PySem.W.mg_none_of X G z_isinstance,
    PySem.W.mg_none_of X G z_len,
    PySem.W.mg_none_of X G z_max,
    PySem.W.mg_none_of X G z_min,
    PySem.W.mg_none_of X G z_range,
    PySem.W.mg_none_of X G z_repr,
    PySem.W.mg_none_of X G z_str,
    ⟨_, _, PySem.W.mg_of X G a__law_dice, fun_mk (st := s__law_dice) l__law_dice c__law_dice k__law_dice⟩,
    ⟨_, _, PySem.W.mg_of X G a__law_roll, fun_mk (st := s__law_roll) l__law_roll c__law_roll k__law_roll⟩,
    ⟨_, _, PySem.W.mg_of X G a__law_pick, fun_mk (st := s__law_pick) l__law_pick c__law_pick k__law_pick⟩,
    ⟨_, _, PySem.W.mg_of X G a__law_kinds, fun_mk (st := s__law_kinds) l__law_kinds c__law_kinds k__law_kinds⟩,
    ⟨_, _, PySem.W.mg_of X G a__law_others, fun_mk (st := s__law_others) l__law_others c__law_others k__law_others⟩,
    ⟨_, _, PySem.W.mg_of X G a__law_right, fun_mk (st := s__law_right) l__law_right c__law_right k__law_right⟩,
    ⟨_, _, PySem.W.mg_of X G a_law, fun_mk (st := s_law) l_law c_law k_law⟩,
    ⟨PySem.W.mg_of X G xa_BuildError, xe_BuildError, xk_BuildError, xs_BuildError, xt_BuildError⟩,
    ⟨PySem.W.mg_of X G xa_InvalidWord, xe_InvalidWord, xk_InvalidWord, xs_InvalidWord, xt_InvalidWord⟩,
    ⟨PySem.W.mg_of X G xa_InvalidType, xe_InvalidType, xk_InvalidType, xs_InvalidType, xt_InvalidType⟩,
    ⟨PySem.W.mg_of X G xa_InvalidLibrary, xe_InvalidLibrary, xk_InvalidLibrary, xs_InvalidLibrary, xt_InvalidLibrary⟩,
    ⟨PySem.W.mg_of X G xa_InvalidProgram, xe_InvalidProgram, xk_InvalidProgram, xs_InvalidProgram, xt_InvalidProgram⟩,
    ⟨PySem.W.mg_of X G xa_InvalidQuestion, xe_InvalidQuestion, xk_InvalidQuestion, xs_InvalidQuestion, xt_InvalidQuestion⟩,
    ⟨PySem.W.mg_of X G xa_InvalidRoom, xe_InvalidRoom, xk_InvalidRoom, xs_InvalidRoom, xt_InvalidRoom⟩,
    ⟨PySem.W.mg_of X G xa_InvalidDraft, xe_InvalidDraft, xk_InvalidDraft, xs_InvalidDraft, xt_InvalidDraft⟩,
    ⟨PySem.W.mg_of X G xa_InvalidOperation, xe_InvalidOperation, xk_InvalidOperation, xs_InvalidOperation, xt_InvalidOperation⟩,
    xcF_mk (st := s_ParseError___init__) (PySem.W.mg_of X G xa_ParseError) xq_ParseError xv_ParseError xS_ParseError xn_ParseError xh_ParseError xc_ParseError xf_ParseError l_ParseError___init__ c_ParseError___init__ ⟨by decide, by decide, ⟨_, _, rfl⟩, ⟨_, _, _, _, rfl⟩, rfl⟩ (fun _ _ => rfl) xk_ParseError xs_ParseError xt_ParseError xg_ParseError xG_ParseError,
    xcF_mk (st := s_UnknownWord___init__) (PySem.W.mg_of X G xa_UnknownWord) xq_UnknownWord xv_UnknownWord xS_UnknownWord xn_UnknownWord xh_UnknownWord xc_UnknownWord xf_UnknownWord l_UnknownWord___init__ c_UnknownWord___init__ ⟨by decide, by decide, ⟨_, _, rfl⟩, ⟨_, _, _, _, rfl⟩, rfl⟩ (fun _ _ => rfl) xk_UnknownWord xs_UnknownWord xt_UnknownWord xg_UnknownWord xG_UnknownWord,
    xcF_mk (st := s_NoProgram___init__) (PySem.W.mg_of X G xa_NoProgram) xq_NoProgram xv_NoProgram xS_NoProgram xn_NoProgram xh_NoProgram xc_NoProgram xf_NoProgram l_NoProgram___init__ c_NoProgram___init__ ⟨by decide, by decide, ⟨_, _, rfl⟩, ⟨_, _, _, _, rfl⟩, rfl⟩ (fun _ _ => rfl) xk_NoProgram xs_NoProgram xt_NoProgram xg_NoProgram xG_NoProgram,
    xcF_mk (st := s_NothingToUndo___init__) (PySem.W.mg_of X G xa_NothingToUndo) xq_NothingToUndo xv_NothingToUndo xS_NothingToUndo xn_NothingToUndo xh_NothingToUndo xc_NothingToUndo xf_NothingToUndo l_NothingToUndo___init__ c_NothingToUndo___init__ ⟨by decide, by decide, ⟨_, _, rfl⟩, ⟨_, _, _, _, rfl⟩, rfl⟩ (fun _ _ => rfl) xk_NothingToUndo xs_NothingToUndo xt_NothingToUndo xg_NothingToUndo xG_NothingToUndo,
    xcF_mk (st := s_TooMany___init__) (PySem.W.mg_of X G xa_TooMany) xq_TooMany xv_TooMany xS_TooMany xn_TooMany xh_TooMany xc_TooMany xf_TooMany l_TooMany___init__ c_TooMany___init__ ⟨by decide, by decide, ⟨_, _, rfl⟩, ⟨_, _, _, _, rfl⟩, rfl⟩ (fun _ _ => rfl) xk_TooMany xs_TooMany xt_TooMany xg_TooMany xG_TooMany,
    xcF_mk (st := s_Refused___init__) (PySem.W.mg_of X G xa_Refused) xq_Refused xv_Refused xS_Refused xn_Refused xh_Refused xc_Refused xf_Refused l_Refused___init__ c_Refused___init__ ⟨by decide, by decide, ⟨_, _, rfl⟩, ⟨_, _, _, _, rfl⟩, rfl⟩ (fun _ _ => rfl) xk_Refused xs_Refused xt_Refused xg_Refused xG_Refused,
    xcF_mk (st := s_InvalidNumber___init__) (PySem.W.mg_of X G xa_InvalidNumber) xq_InvalidNumber xv_InvalidNumber xS_InvalidNumber xn_InvalidNumber xh_InvalidNumber xc_InvalidNumber xf_InvalidNumber l_InvalidNumber___init__ c_InvalidNumber___init__ ⟨by decide, by decide, ⟨_, _, rfl⟩, ⟨_, _, _, _, rfl⟩, rfl⟩ (fun _ _ => rfl) xk_InvalidNumber xs_InvalidNumber xt_InvalidNumber xg_InvalidNumber xG_InvalidNumber,
    ⟨xi_BuildError, xg_BuildError, xG_BuildError, xs_BuildError, xC_BuildError, xP_BuildError, xT_BuildError, xM_BuildError⟩,
    ⟨xi_InvalidWord, xg_InvalidWord, xG_InvalidWord, xs_InvalidWord, xC_InvalidWord, xP_InvalidWord, xT_InvalidWord, xM_InvalidWord⟩,
    ⟨xi_InvalidType, xg_InvalidType, xG_InvalidType, xs_InvalidType, xC_InvalidType, xP_InvalidType, xT_InvalidType, xM_InvalidType⟩,
    ⟨xi_InvalidLibrary, xg_InvalidLibrary, xG_InvalidLibrary, xs_InvalidLibrary, xC_InvalidLibrary, xP_InvalidLibrary, xT_InvalidLibrary, xM_InvalidLibrary⟩,
    ⟨xi_InvalidProgram, xg_InvalidProgram, xG_InvalidProgram, xs_InvalidProgram, xC_InvalidProgram, xP_InvalidProgram, xT_InvalidProgram, xM_InvalidProgram⟩,
    ⟨xi_InvalidQuestion, xg_InvalidQuestion, xG_InvalidQuestion, xs_InvalidQuestion, xC_InvalidQuestion, xP_InvalidQuestion, xT_InvalidQuestion, xM_InvalidQuestion⟩,
    ⟨xi_InvalidRoom, xg_InvalidRoom, xG_InvalidRoom, xs_InvalidRoom, xC_InvalidRoom, xP_InvalidRoom, xT_InvalidRoom, xM_InvalidRoom⟩,
    ⟨xi_InvalidDraft, xg_InvalidDraft, xG_InvalidDraft, xs_InvalidDraft, xC_InvalidDraft, xP_InvalidDraft, xT_InvalidDraft, xM_InvalidDraft⟩,
    ⟨xi_InvalidOperation, xg_InvalidOperation, xG_InvalidOperation, xs_InvalidOperation, xC_InvalidOperation, xP_InvalidOperation, xT_InvalidOperation, xM_InvalidOperation⟩,
    ⟨xi_ParseError, xg_ParseError, xG_ParseError, xs_ParseError, xC_ParseError, xP_ParseError, xT_ParseError, xM_ParseError⟩,
    ⟨xi_UnknownWord, xg_UnknownWord, xG_UnknownWord, xs_UnknownWord, xC_UnknownWord, xP_UnknownWord, xT_UnknownWord, xM_UnknownWord⟩,
    ⟨xi_NoProgram, xg_NoProgram, xG_NoProgram, xs_NoProgram, xC_NoProgram, xP_NoProgram, xT_NoProgram, xM_NoProgram⟩,
    ⟨xi_NothingToUndo, xg_NothingToUndo, xG_NothingToUndo, xs_NothingToUndo, xC_NothingToUndo, xP_NothingToUndo, xT_NothingToUndo, xM_NothingToUndo⟩,
    ⟨xi_TooMany, xg_TooMany, xG_TooMany, xs_TooMany, xC_TooMany, xP_TooMany, xT_TooMany, xM_TooMany⟩,
    ⟨xi_Refused, xg_Refused, xG_Refused, xs_Refused, xC_Refused, xP_Refused, xT_Refused, xM_Refused⟩,
    ⟨xi_InvalidNumber, xg_InvalidNumber, xG_InvalidNumber, xs_InvalidNumber, xC_InvalidNumber, xP_InvalidNumber, xT_InvalidNumber, xM_InvalidNumber⟩,
    (IsvF.cons (b := false) (PySem.W.mg_of X G xa_BuildError) ⟨xi_BuildError, xg_BuildError, xG_BuildError, xs_BuildError, xC_BuildError, xP_BuildError, xT_BuildError, xM_BuildError⟩ (kit_own xi_InvalidWord xt_InvalidWord xo_BuildError_InvalidWord hv_BuildError_InvalidWord) (by decide +kernel) (IsvF.cons (b := true) (PySem.W.mg_of X G xa_InvalidWord) ⟨xi_InvalidWord, xg_InvalidWord, xG_InvalidWord, xs_InvalidWord, xC_InvalidWord, xP_InvalidWord, xT_InvalidWord, xM_InvalidWord⟩ kit_self (by decide +kernel) (IsvF.cons (b := false) (PySem.W.mg_of X G xa_InvalidType) ⟨xi_InvalidType, xg_InvalidType, xG_InvalidType, xs_InvalidType, xC_InvalidType, xP_InvalidType, xT_InvalidType, xM_InvalidType⟩ (kit_own xi_InvalidWord xt_InvalidWord xo_InvalidType_InvalidWord hv_InvalidType_InvalidWord) (by decide +kernel) (IsvF.cons (b := false) (PySem.W.mg_of X G xa_InvalidLibrary) ⟨xi_InvalidLibrary, xg_InvalidLibrary, xG_InvalidLibrary, xs_InvalidLibrary, xC_InvalidLibrary, xP_InvalidLibrary, xT_InvalidLibrary, xM_InvalidLibrary⟩ (kit_own xi_InvalidWord xt_InvalidWord xo_InvalidLibrary_InvalidWord hv_InvalidLibrary_InvalidWord) (by decide +kernel) (IsvF.cons (b := false) (PySem.W.mg_of X G xa_InvalidProgram) ⟨xi_InvalidProgram, xg_InvalidProgram, xG_InvalidProgram, xs_InvalidProgram, xC_InvalidProgram, xP_InvalidProgram, xT_InvalidProgram, xM_InvalidProgram⟩ (kit_own xi_InvalidWord xt_InvalidWord xo_InvalidProgram_InvalidWord hv_InvalidProgram_InvalidWord) (by decide +kernel) (IsvF.cons (b := false) (PySem.W.mg_of X G xa_InvalidQuestion) ⟨xi_InvalidQuestion, xg_InvalidQuestion, xG_InvalidQuestion, xs_InvalidQuestion, xC_InvalidQuestion, xP_InvalidQuestion, xT_InvalidQuestion, xM_InvalidQuestion⟩ (kit_own xi_InvalidWord xt_InvalidWord xo_InvalidQuestion_InvalidWord hv_InvalidQuestion_InvalidWord) (by decide +kernel) (IsvF.cons (b := false) (PySem.W.mg_of X G xa_InvalidRoom) ⟨xi_InvalidRoom, xg_InvalidRoom, xG_InvalidRoom, xs_InvalidRoom, xC_InvalidRoom, xP_InvalidRoom, xT_InvalidRoom, xM_InvalidRoom⟩ (kit_own xi_InvalidWord xt_InvalidWord xo_InvalidRoom_InvalidWord hv_InvalidRoom_InvalidWord) (by decide +kernel) (IsvF.cons (b := false) (PySem.W.mg_of X G xa_InvalidDraft) ⟨xi_InvalidDraft, xg_InvalidDraft, xG_InvalidDraft, xs_InvalidDraft, xC_InvalidDraft, xP_InvalidDraft, xT_InvalidDraft, xM_InvalidDraft⟩ (kit_own xi_InvalidWord xt_InvalidWord xo_InvalidDraft_InvalidWord hv_InvalidDraft_InvalidWord) (by decide +kernel) (IsvF.cons (b := false) (PySem.W.mg_of X G xa_InvalidOperation) ⟨xi_InvalidOperation, xg_InvalidOperation, xG_InvalidOperation, xs_InvalidOperation, xC_InvalidOperation, xP_InvalidOperation, xT_InvalidOperation, xM_InvalidOperation⟩ (kit_own xi_InvalidWord xt_InvalidWord xo_InvalidOperation_InvalidWord hv_InvalidOperation_InvalidWord) (by decide +kernel) (IsvF.cons (b := false) (PySem.W.mg_of X G xa_ParseError) ⟨xi_ParseError, xg_ParseError, xG_ParseError, xs_ParseError, xC_ParseError, xP_ParseError, xT_ParseError, xM_ParseError⟩ (kit_own xi_InvalidWord xt_InvalidWord xo_ParseError_InvalidWord hv_ParseError_InvalidWord) (by decide +kernel) (IsvF.cons (b := false) (PySem.W.mg_of X G xa_UnknownWord) ⟨xi_UnknownWord, xg_UnknownWord, xG_UnknownWord, xs_UnknownWord, xC_UnknownWord, xP_UnknownWord, xT_UnknownWord, xM_UnknownWord⟩ (kit_own xi_InvalidWord xt_InvalidWord xo_UnknownWord_InvalidWord hv_UnknownWord_InvalidWord) (by decide +kernel) (IsvF.cons (b := false) (PySem.W.mg_of X G xa_NoProgram) ⟨xi_NoProgram, xg_NoProgram, xG_NoProgram, xs_NoProgram, xC_NoProgram, xP_NoProgram, xT_NoProgram, xM_NoProgram⟩ (kit_own xi_InvalidWord xt_InvalidWord xo_NoProgram_InvalidWord hv_NoProgram_InvalidWord) (by decide +kernel) (IsvF.cons (b := false) (PySem.W.mg_of X G xa_NothingToUndo) ⟨xi_NothingToUndo, xg_NothingToUndo, xG_NothingToUndo, xs_NothingToUndo, xC_NothingToUndo, xP_NothingToUndo, xT_NothingToUndo, xM_NothingToUndo⟩ (kit_own xi_InvalidWord xt_InvalidWord xo_NothingToUndo_InvalidWord hv_NothingToUndo_InvalidWord) (by decide +kernel) (IsvF.cons (b := false) (PySem.W.mg_of X G xa_TooMany) ⟨xi_TooMany, xg_TooMany, xG_TooMany, xs_TooMany, xC_TooMany, xP_TooMany, xT_TooMany, xM_TooMany⟩ (kit_own xi_InvalidWord xt_InvalidWord xo_TooMany_InvalidWord hv_TooMany_InvalidWord) (by decide +kernel) (IsvF.cons (b := false) (PySem.W.mg_of X G xa_Refused) ⟨xi_Refused, xg_Refused, xG_Refused, xs_Refused, xC_Refused, xP_Refused, xT_Refused, xM_Refused⟩ (kit_own xi_InvalidWord xt_InvalidWord xo_Refused_InvalidWord hv_Refused_InvalidWord) (by decide +kernel) (IsvF.cons (b := false) (PySem.W.mg_of X G xa_InvalidNumber) ⟨xi_InvalidNumber, xg_InvalidNumber, xG_InvalidNumber, xs_InvalidNumber, xC_InvalidNumber, xP_InvalidNumber, xT_InvalidNumber, xM_InvalidNumber⟩ (kit_own xi_InvalidWord xt_InvalidWord xo_InvalidNumber_InvalidWord hv_InvalidNumber_InvalidWord) (by decide +kernel) (IsvF.nil (.own _)))))))))))))))))),
    (IsvF.cons (b := false) (PySem.W.mg_of X G xa_BuildError) ⟨xi_BuildError, xg_BuildError, xG_BuildError, xs_BuildError, xC_BuildError, xP_BuildError, xT_BuildError, xM_BuildError⟩ (kit_own xi_InvalidType xt_InvalidType xo_BuildError_InvalidType hv_BuildError_InvalidType) (by decide +kernel) (IsvF.cons (b := false) (PySem.W.mg_of X G xa_InvalidWord) ⟨xi_InvalidWord, xg_InvalidWord, xG_InvalidWord, xs_InvalidWord, xC_InvalidWord, xP_InvalidWord, xT_InvalidWord, xM_InvalidWord⟩ (kit_own xi_InvalidType xt_InvalidType xo_InvalidWord_InvalidType hv_InvalidWord_InvalidType) (by decide +kernel) (IsvF.cons (b := true) (PySem.W.mg_of X G xa_InvalidType) ⟨xi_InvalidType, xg_InvalidType, xG_InvalidType, xs_InvalidType, xC_InvalidType, xP_InvalidType, xT_InvalidType, xM_InvalidType⟩ kit_self (by decide +kernel) (IsvF.cons (b := false) (PySem.W.mg_of X G xa_InvalidLibrary) ⟨xi_InvalidLibrary, xg_InvalidLibrary, xG_InvalidLibrary, xs_InvalidLibrary, xC_InvalidLibrary, xP_InvalidLibrary, xT_InvalidLibrary, xM_InvalidLibrary⟩ (kit_own xi_InvalidType xt_InvalidType xo_InvalidLibrary_InvalidType hv_InvalidLibrary_InvalidType) (by decide +kernel) (IsvF.cons (b := false) (PySem.W.mg_of X G xa_InvalidProgram) ⟨xi_InvalidProgram, xg_InvalidProgram, xG_InvalidProgram, xs_InvalidProgram, xC_InvalidProgram, xP_InvalidProgram, xT_InvalidProgram, xM_InvalidProgram⟩ (kit_own xi_InvalidType xt_InvalidType xo_InvalidProgram_InvalidType hv_InvalidProgram_InvalidType) (by decide +kernel) (IsvF.cons (b := false) (PySem.W.mg_of X G xa_InvalidQuestion) ⟨xi_InvalidQuestion, xg_InvalidQuestion, xG_InvalidQuestion, xs_InvalidQuestion, xC_InvalidQuestion, xP_InvalidQuestion, xT_InvalidQuestion, xM_InvalidQuestion⟩ (kit_own xi_InvalidType xt_InvalidType xo_InvalidQuestion_InvalidType hv_InvalidQuestion_InvalidType) (by decide +kernel) (IsvF.cons (b := false) (PySem.W.mg_of X G xa_InvalidRoom) ⟨xi_InvalidRoom, xg_InvalidRoom, xG_InvalidRoom, xs_InvalidRoom, xC_InvalidRoom, xP_InvalidRoom, xT_InvalidRoom, xM_InvalidRoom⟩ (kit_own xi_InvalidType xt_InvalidType xo_InvalidRoom_InvalidType hv_InvalidRoom_InvalidType) (by decide +kernel) (IsvF.cons (b := false) (PySem.W.mg_of X G xa_InvalidDraft) ⟨xi_InvalidDraft, xg_InvalidDraft, xG_InvalidDraft, xs_InvalidDraft, xC_InvalidDraft, xP_InvalidDraft, xT_InvalidDraft, xM_InvalidDraft⟩ (kit_own xi_InvalidType xt_InvalidType xo_InvalidDraft_InvalidType hv_InvalidDraft_InvalidType) (by decide +kernel) (IsvF.cons (b := false) (PySem.W.mg_of X G xa_InvalidOperation) ⟨xi_InvalidOperation, xg_InvalidOperation, xG_InvalidOperation, xs_InvalidOperation, xC_InvalidOperation, xP_InvalidOperation, xT_InvalidOperation, xM_InvalidOperation⟩ (kit_own xi_InvalidType xt_InvalidType xo_InvalidOperation_InvalidType hv_InvalidOperation_InvalidType) (by decide +kernel) (IsvF.cons (b := false) (PySem.W.mg_of X G xa_ParseError) ⟨xi_ParseError, xg_ParseError, xG_ParseError, xs_ParseError, xC_ParseError, xP_ParseError, xT_ParseError, xM_ParseError⟩ (kit_own xi_InvalidType xt_InvalidType xo_ParseError_InvalidType hv_ParseError_InvalidType) (by decide +kernel) (IsvF.cons (b := false) (PySem.W.mg_of X G xa_UnknownWord) ⟨xi_UnknownWord, xg_UnknownWord, xG_UnknownWord, xs_UnknownWord, xC_UnknownWord, xP_UnknownWord, xT_UnknownWord, xM_UnknownWord⟩ (kit_own xi_InvalidType xt_InvalidType xo_UnknownWord_InvalidType hv_UnknownWord_InvalidType) (by decide +kernel) (IsvF.cons (b := false) (PySem.W.mg_of X G xa_NoProgram) ⟨xi_NoProgram, xg_NoProgram, xG_NoProgram, xs_NoProgram, xC_NoProgram, xP_NoProgram, xT_NoProgram, xM_NoProgram⟩ (kit_own xi_InvalidType xt_InvalidType xo_NoProgram_InvalidType hv_NoProgram_InvalidType) (by decide +kernel) (IsvF.cons (b := false) (PySem.W.mg_of X G xa_NothingToUndo) ⟨xi_NothingToUndo, xg_NothingToUndo, xG_NothingToUndo, xs_NothingToUndo, xC_NothingToUndo, xP_NothingToUndo, xT_NothingToUndo, xM_NothingToUndo⟩ (kit_own xi_InvalidType xt_InvalidType xo_NothingToUndo_InvalidType hv_NothingToUndo_InvalidType) (by decide +kernel) (IsvF.cons (b := false) (PySem.W.mg_of X G xa_TooMany) ⟨xi_TooMany, xg_TooMany, xG_TooMany, xs_TooMany, xC_TooMany, xP_TooMany, xT_TooMany, xM_TooMany⟩ (kit_own xi_InvalidType xt_InvalidType xo_TooMany_InvalidType hv_TooMany_InvalidType) (by decide +kernel) (IsvF.cons (b := false) (PySem.W.mg_of X G xa_Refused) ⟨xi_Refused, xg_Refused, xG_Refused, xs_Refused, xC_Refused, xP_Refused, xT_Refused, xM_Refused⟩ (kit_own xi_InvalidType xt_InvalidType xo_Refused_InvalidType hv_Refused_InvalidType) (by decide +kernel) (IsvF.cons (b := false) (PySem.W.mg_of X G xa_InvalidNumber) ⟨xi_InvalidNumber, xg_InvalidNumber, xG_InvalidNumber, xs_InvalidNumber, xC_InvalidNumber, xP_InvalidNumber, xT_InvalidNumber, xM_InvalidNumber⟩ (kit_own xi_InvalidType xt_InvalidType xo_InvalidNumber_InvalidType hv_InvalidNumber_InvalidType) (by decide +kernel) (IsvF.nil (.own _)))))))))))))))))),
    (IsvF.cons (b := false) (PySem.W.mg_of X G xa_BuildError) ⟨xi_BuildError, xg_BuildError, xG_BuildError, xs_BuildError, xC_BuildError, xP_BuildError, xT_BuildError, xM_BuildError⟩ (kit_own xi_InvalidLibrary xt_InvalidLibrary xo_BuildError_InvalidLibrary hv_BuildError_InvalidLibrary) (by decide +kernel) (IsvF.cons (b := false) (PySem.W.mg_of X G xa_InvalidWord) ⟨xi_InvalidWord, xg_InvalidWord, xG_InvalidWord, xs_InvalidWord, xC_InvalidWord, xP_InvalidWord, xT_InvalidWord, xM_InvalidWord⟩ (kit_own xi_InvalidLibrary xt_InvalidLibrary xo_InvalidWord_InvalidLibrary hv_InvalidWord_InvalidLibrary) (by decide +kernel) (IsvF.cons (b := false) (PySem.W.mg_of X G xa_InvalidType) ⟨xi_InvalidType, xg_InvalidType, xG_InvalidType, xs_InvalidType, xC_InvalidType, xP_InvalidType, xT_InvalidType, xM_InvalidType⟩ (kit_own xi_InvalidLibrary xt_InvalidLibrary xo_InvalidType_InvalidLibrary hv_InvalidType_InvalidLibrary) (by decide +kernel) (IsvF.cons (b := true) (PySem.W.mg_of X G xa_InvalidLibrary) ⟨xi_InvalidLibrary, xg_InvalidLibrary, xG_InvalidLibrary, xs_InvalidLibrary, xC_InvalidLibrary, xP_InvalidLibrary, xT_InvalidLibrary, xM_InvalidLibrary⟩ kit_self (by decide +kernel) (IsvF.cons (b := false) (PySem.W.mg_of X G xa_InvalidProgram) ⟨xi_InvalidProgram, xg_InvalidProgram, xG_InvalidProgram, xs_InvalidProgram, xC_InvalidProgram, xP_InvalidProgram, xT_InvalidProgram, xM_InvalidProgram⟩ (kit_own xi_InvalidLibrary xt_InvalidLibrary xo_InvalidProgram_InvalidLibrary hv_InvalidProgram_InvalidLibrary) (by decide +kernel) (IsvF.cons (b := false) (PySem.W.mg_of X G xa_InvalidQuestion) ⟨xi_InvalidQuestion, xg_InvalidQuestion, xG_InvalidQuestion, xs_InvalidQuestion, xC_InvalidQuestion, xP_InvalidQuestion, xT_InvalidQuestion, xM_InvalidQuestion⟩ (kit_own xi_InvalidLibrary xt_InvalidLibrary xo_InvalidQuestion_InvalidLibrary hv_InvalidQuestion_InvalidLibrary) (by decide +kernel) (IsvF.cons (b := false) (PySem.W.mg_of X G xa_InvalidRoom) ⟨xi_InvalidRoom, xg_InvalidRoom, xG_InvalidRoom, xs_InvalidRoom, xC_InvalidRoom, xP_InvalidRoom, xT_InvalidRoom, xM_InvalidRoom⟩ (kit_own xi_InvalidLibrary xt_InvalidLibrary xo_InvalidRoom_InvalidLibrary hv_InvalidRoom_InvalidLibrary) (by decide +kernel) (IsvF.cons (b := false) (PySem.W.mg_of X G xa_InvalidDraft) ⟨xi_InvalidDraft, xg_InvalidDraft, xG_InvalidDraft, xs_InvalidDraft, xC_InvalidDraft, xP_InvalidDraft, xT_InvalidDraft, xM_InvalidDraft⟩ (kit_own xi_InvalidLibrary xt_InvalidLibrary xo_InvalidDraft_InvalidLibrary hv_InvalidDraft_InvalidLibrary) (by decide +kernel) (IsvF.cons (b := false) (PySem.W.mg_of X G xa_InvalidOperation) ⟨xi_InvalidOperation, xg_InvalidOperation, xG_InvalidOperation, xs_InvalidOperation, xC_InvalidOperation, xP_InvalidOperation, xT_InvalidOperation, xM_InvalidOperation⟩ (kit_own xi_InvalidLibrary xt_InvalidLibrary xo_InvalidOperation_InvalidLibrary hv_InvalidOperation_InvalidLibrary) (by decide +kernel) (IsvF.cons (b := false) (PySem.W.mg_of X G xa_ParseError) ⟨xi_ParseError, xg_ParseError, xG_ParseError, xs_ParseError, xC_ParseError, xP_ParseError, xT_ParseError, xM_ParseError⟩ (kit_own xi_InvalidLibrary xt_InvalidLibrary xo_ParseError_InvalidLibrary hv_ParseError_InvalidLibrary) (by decide +kernel) (IsvF.cons (b := false) (PySem.W.mg_of X G xa_UnknownWord) ⟨xi_UnknownWord, xg_UnknownWord, xG_UnknownWord, xs_UnknownWord, xC_UnknownWord, xP_UnknownWord, xT_UnknownWord, xM_UnknownWord⟩ (kit_own xi_InvalidLibrary xt_InvalidLibrary xo_UnknownWord_InvalidLibrary hv_UnknownWord_InvalidLibrary) (by decide +kernel) (IsvF.cons (b := false) (PySem.W.mg_of X G xa_NoProgram) ⟨xi_NoProgram, xg_NoProgram, xG_NoProgram, xs_NoProgram, xC_NoProgram, xP_NoProgram, xT_NoProgram, xM_NoProgram⟩ (kit_own xi_InvalidLibrary xt_InvalidLibrary xo_NoProgram_InvalidLibrary hv_NoProgram_InvalidLibrary) (by decide +kernel) (IsvF.cons (b := false) (PySem.W.mg_of X G xa_NothingToUndo) ⟨xi_NothingToUndo, xg_NothingToUndo, xG_NothingToUndo, xs_NothingToUndo, xC_NothingToUndo, xP_NothingToUndo, xT_NothingToUndo, xM_NothingToUndo⟩ (kit_own xi_InvalidLibrary xt_InvalidLibrary xo_NothingToUndo_InvalidLibrary hv_NothingToUndo_InvalidLibrary) (by decide +kernel) (IsvF.cons (b := false) (PySem.W.mg_of X G xa_TooMany) ⟨xi_TooMany, xg_TooMany, xG_TooMany, xs_TooMany, xC_TooMany, xP_TooMany, xT_TooMany, xM_TooMany⟩ (kit_own xi_InvalidLibrary xt_InvalidLibrary xo_TooMany_InvalidLibrary hv_TooMany_InvalidLibrary) (by decide +kernel) (IsvF.cons (b := false) (PySem.W.mg_of X G xa_Refused) ⟨xi_Refused, xg_Refused, xG_Refused, xs_Refused, xC_Refused, xP_Refused, xT_Refused, xM_Refused⟩ (kit_own xi_InvalidLibrary xt_InvalidLibrary xo_Refused_InvalidLibrary hv_Refused_InvalidLibrary) (by decide +kernel) (IsvF.cons (b := false) (PySem.W.mg_of X G xa_InvalidNumber) ⟨xi_InvalidNumber, xg_InvalidNumber, xG_InvalidNumber, xs_InvalidNumber, xC_InvalidNumber, xP_InvalidNumber, xT_InvalidNumber, xM_InvalidNumber⟩ (kit_own xi_InvalidLibrary xt_InvalidLibrary xo_InvalidNumber_InvalidLibrary hv_InvalidNumber_InvalidLibrary) (by decide +kernel) (IsvF.nil (.own _)))))))))))))))))),
    (IsvF.cons (b := false) (PySem.W.mg_of X G xa_BuildError) ⟨xi_BuildError, xg_BuildError, xG_BuildError, xs_BuildError, xC_BuildError, xP_BuildError, xT_BuildError, xM_BuildError⟩ (kit_own xi_InvalidProgram xt_InvalidProgram xo_BuildError_InvalidProgram hv_BuildError_InvalidProgram) (by decide +kernel) (IsvF.cons (b := false) (PySem.W.mg_of X G xa_InvalidWord) ⟨xi_InvalidWord, xg_InvalidWord, xG_InvalidWord, xs_InvalidWord, xC_InvalidWord, xP_InvalidWord, xT_InvalidWord, xM_InvalidWord⟩ (kit_own xi_InvalidProgram xt_InvalidProgram xo_InvalidWord_InvalidProgram hv_InvalidWord_InvalidProgram) (by decide +kernel) (IsvF.cons (b := false) (PySem.W.mg_of X G xa_InvalidType) ⟨xi_InvalidType, xg_InvalidType, xG_InvalidType, xs_InvalidType, xC_InvalidType, xP_InvalidType, xT_InvalidType, xM_InvalidType⟩ (kit_own xi_InvalidProgram xt_InvalidProgram xo_InvalidType_InvalidProgram hv_InvalidType_InvalidProgram) (by decide +kernel) (IsvF.cons (b := false) (PySem.W.mg_of X G xa_InvalidLibrary) ⟨xi_InvalidLibrary, xg_InvalidLibrary, xG_InvalidLibrary, xs_InvalidLibrary, xC_InvalidLibrary, xP_InvalidLibrary, xT_InvalidLibrary, xM_InvalidLibrary⟩ (kit_own xi_InvalidProgram xt_InvalidProgram xo_InvalidLibrary_InvalidProgram hv_InvalidLibrary_InvalidProgram) (by decide +kernel) (IsvF.cons (b := true) (PySem.W.mg_of X G xa_InvalidProgram) ⟨xi_InvalidProgram, xg_InvalidProgram, xG_InvalidProgram, xs_InvalidProgram, xC_InvalidProgram, xP_InvalidProgram, xT_InvalidProgram, xM_InvalidProgram⟩ kit_self (by decide +kernel) (IsvF.cons (b := false) (PySem.W.mg_of X G xa_InvalidQuestion) ⟨xi_InvalidQuestion, xg_InvalidQuestion, xG_InvalidQuestion, xs_InvalidQuestion, xC_InvalidQuestion, xP_InvalidQuestion, xT_InvalidQuestion, xM_InvalidQuestion⟩ (kit_own xi_InvalidProgram xt_InvalidProgram xo_InvalidQuestion_InvalidProgram hv_InvalidQuestion_InvalidProgram) (by decide +kernel) (IsvF.cons (b := false) (PySem.W.mg_of X G xa_InvalidRoom) ⟨xi_InvalidRoom, xg_InvalidRoom, xG_InvalidRoom, xs_InvalidRoom, xC_InvalidRoom, xP_InvalidRoom, xT_InvalidRoom, xM_InvalidRoom⟩ (kit_own xi_InvalidProgram xt_InvalidProgram xo_InvalidRoom_InvalidProgram hv_InvalidRoom_InvalidProgram) (by decide +kernel) (IsvF.cons (b := false) (PySem.W.mg_of X G xa_InvalidDraft) ⟨xi_InvalidDraft, xg_InvalidDraft, xG_InvalidDraft, xs_InvalidDraft, xC_InvalidDraft, xP_InvalidDraft, xT_InvalidDraft, xM_InvalidDraft⟩ (kit_own xi_InvalidProgram xt_InvalidProgram xo_InvalidDraft_InvalidProgram hv_InvalidDraft_InvalidProgram) (by decide +kernel) (IsvF.cons (b := false) (PySem.W.mg_of X G xa_InvalidOperation) ⟨xi_InvalidOperation, xg_InvalidOperation, xG_InvalidOperation, xs_InvalidOperation, xC_InvalidOperation, xP_InvalidOperation, xT_InvalidOperation, xM_InvalidOperation⟩ (kit_own xi_InvalidProgram xt_InvalidProgram xo_InvalidOperation_InvalidProgram hv_InvalidOperation_InvalidProgram) (by decide +kernel) (IsvF.cons (b := false) (PySem.W.mg_of X G xa_ParseError) ⟨xi_ParseError, xg_ParseError, xG_ParseError, xs_ParseError, xC_ParseError, xP_ParseError, xT_ParseError, xM_ParseError⟩ (kit_own xi_InvalidProgram xt_InvalidProgram xo_ParseError_InvalidProgram hv_ParseError_InvalidProgram) (by decide +kernel) (IsvF.cons (b := false) (PySem.W.mg_of X G xa_UnknownWord) ⟨xi_UnknownWord, xg_UnknownWord, xG_UnknownWord, xs_UnknownWord, xC_UnknownWord, xP_UnknownWord, xT_UnknownWord, xM_UnknownWord⟩ (kit_own xi_InvalidProgram xt_InvalidProgram xo_UnknownWord_InvalidProgram hv_UnknownWord_InvalidProgram) (by decide +kernel) (IsvF.cons (b := false) (PySem.W.mg_of X G xa_NoProgram) ⟨xi_NoProgram, xg_NoProgram, xG_NoProgram, xs_NoProgram, xC_NoProgram, xP_NoProgram, xT_NoProgram, xM_NoProgram⟩ (kit_own xi_InvalidProgram xt_InvalidProgram xo_NoProgram_InvalidProgram hv_NoProgram_InvalidProgram) (by decide +kernel) (IsvF.cons (b := false) (PySem.W.mg_of X G xa_NothingToUndo) ⟨xi_NothingToUndo, xg_NothingToUndo, xG_NothingToUndo, xs_NothingToUndo, xC_NothingToUndo, xP_NothingToUndo, xT_NothingToUndo, xM_NothingToUndo⟩ (kit_own xi_InvalidProgram xt_InvalidProgram xo_NothingToUndo_InvalidProgram hv_NothingToUndo_InvalidProgram) (by decide +kernel) (IsvF.cons (b := false) (PySem.W.mg_of X G xa_TooMany) ⟨xi_TooMany, xg_TooMany, xG_TooMany, xs_TooMany, xC_TooMany, xP_TooMany, xT_TooMany, xM_TooMany⟩ (kit_own xi_InvalidProgram xt_InvalidProgram xo_TooMany_InvalidProgram hv_TooMany_InvalidProgram) (by decide +kernel) (IsvF.cons (b := false) (PySem.W.mg_of X G xa_Refused) ⟨xi_Refused, xg_Refused, xG_Refused, xs_Refused, xC_Refused, xP_Refused, xT_Refused, xM_Refused⟩ (kit_own xi_InvalidProgram xt_InvalidProgram xo_Refused_InvalidProgram hv_Refused_InvalidProgram) (by decide +kernel) (IsvF.cons (b := false) (PySem.W.mg_of X G xa_InvalidNumber) ⟨xi_InvalidNumber, xg_InvalidNumber, xG_InvalidNumber, xs_InvalidNumber, xC_InvalidNumber, xP_InvalidNumber, xT_InvalidNumber, xM_InvalidNumber⟩ (kit_own xi_InvalidProgram xt_InvalidProgram xo_InvalidNumber_InvalidProgram hv_InvalidNumber_InvalidProgram) (by decide +kernel) (IsvF.nil (.own _)))))))))))))))))),
    (IsvF.cons (b := false) (PySem.W.mg_of X G xa_BuildError) ⟨xi_BuildError, xg_BuildError, xG_BuildError, xs_BuildError, xC_BuildError, xP_BuildError, xT_BuildError, xM_BuildError⟩ (kit_own xi_InvalidQuestion xt_InvalidQuestion xo_BuildError_InvalidQuestion hv_BuildError_InvalidQuestion) (by decide +kernel) (IsvF.cons (b := false) (PySem.W.mg_of X G xa_InvalidWord) ⟨xi_InvalidWord, xg_InvalidWord, xG_InvalidWord, xs_InvalidWord, xC_InvalidWord, xP_InvalidWord, xT_InvalidWord, xM_InvalidWord⟩ (kit_own xi_InvalidQuestion xt_InvalidQuestion xo_InvalidWord_InvalidQuestion hv_InvalidWord_InvalidQuestion) (by decide +kernel) (IsvF.cons (b := false) (PySem.W.mg_of X G xa_InvalidType) ⟨xi_InvalidType, xg_InvalidType, xG_InvalidType, xs_InvalidType, xC_InvalidType, xP_InvalidType, xT_InvalidType, xM_InvalidType⟩ (kit_own xi_InvalidQuestion xt_InvalidQuestion xo_InvalidType_InvalidQuestion hv_InvalidType_InvalidQuestion) (by decide +kernel) (IsvF.cons (b := false) (PySem.W.mg_of X G xa_InvalidLibrary) ⟨xi_InvalidLibrary, xg_InvalidLibrary, xG_InvalidLibrary, xs_InvalidLibrary, xC_InvalidLibrary, xP_InvalidLibrary, xT_InvalidLibrary, xM_InvalidLibrary⟩ (kit_own xi_InvalidQuestion xt_InvalidQuestion xo_InvalidLibrary_InvalidQuestion hv_InvalidLibrary_InvalidQuestion) (by decide +kernel) (IsvF.cons (b := false) (PySem.W.mg_of X G xa_InvalidProgram) ⟨xi_InvalidProgram, xg_InvalidProgram, xG_InvalidProgram, xs_InvalidProgram, xC_InvalidProgram, xP_InvalidProgram, xT_InvalidProgram, xM_InvalidProgram⟩ (kit_own xi_InvalidQuestion xt_InvalidQuestion xo_InvalidProgram_InvalidQuestion hv_InvalidProgram_InvalidQuestion) (by decide +kernel) (IsvF.cons (b := true) (PySem.W.mg_of X G xa_InvalidQuestion) ⟨xi_InvalidQuestion, xg_InvalidQuestion, xG_InvalidQuestion, xs_InvalidQuestion, xC_InvalidQuestion, xP_InvalidQuestion, xT_InvalidQuestion, xM_InvalidQuestion⟩ kit_self (by decide +kernel) (IsvF.cons (b := false) (PySem.W.mg_of X G xa_InvalidRoom) ⟨xi_InvalidRoom, xg_InvalidRoom, xG_InvalidRoom, xs_InvalidRoom, xC_InvalidRoom, xP_InvalidRoom, xT_InvalidRoom, xM_InvalidRoom⟩ (kit_own xi_InvalidQuestion xt_InvalidQuestion xo_InvalidRoom_InvalidQuestion hv_InvalidRoom_InvalidQuestion) (by decide +kernel) (IsvF.cons (b := false) (PySem.W.mg_of X G xa_InvalidDraft) ⟨xi_InvalidDraft, xg_InvalidDraft, xG_InvalidDraft, xs_InvalidDraft, xC_InvalidDraft, xP_InvalidDraft, xT_InvalidDraft, xM_InvalidDraft⟩ (kit_own xi_InvalidQuestion xt_InvalidQuestion xo_InvalidDraft_InvalidQuestion hv_InvalidDraft_InvalidQuestion) (by decide +kernel) (IsvF.cons (b := false) (PySem.W.mg_of X G xa_InvalidOperation) ⟨xi_InvalidOperation, xg_InvalidOperation, xG_InvalidOperation, xs_InvalidOperation, xC_InvalidOperation, xP_InvalidOperation, xT_InvalidOperation, xM_InvalidOperation⟩ (kit_own xi_InvalidQuestion xt_InvalidQuestion xo_InvalidOperation_InvalidQuestion hv_InvalidOperation_InvalidQuestion) (by decide +kernel) (IsvF.cons (b := false) (PySem.W.mg_of X G xa_ParseError) ⟨xi_ParseError, xg_ParseError, xG_ParseError, xs_ParseError, xC_ParseError, xP_ParseError, xT_ParseError, xM_ParseError⟩ (kit_own xi_InvalidQuestion xt_InvalidQuestion xo_ParseError_InvalidQuestion hv_ParseError_InvalidQuestion) (by decide +kernel) (IsvF.cons (b := false) (PySem.W.mg_of X G xa_UnknownWord) ⟨xi_UnknownWord, xg_UnknownWord, xG_UnknownWord, xs_UnknownWord, xC_UnknownWord, xP_UnknownWord, xT_UnknownWord, xM_UnknownWord⟩ (kit_own xi_InvalidQuestion xt_InvalidQuestion xo_UnknownWord_InvalidQuestion hv_UnknownWord_InvalidQuestion) (by decide +kernel) (IsvF.cons (b := false) (PySem.W.mg_of X G xa_NoProgram) ⟨xi_NoProgram, xg_NoProgram, xG_NoProgram, xs_NoProgram, xC_NoProgram, xP_NoProgram, xT_NoProgram, xM_NoProgram⟩ (kit_own xi_InvalidQuestion xt_InvalidQuestion xo_NoProgram_InvalidQuestion hv_NoProgram_InvalidQuestion) (by decide +kernel) (IsvF.cons (b := false) (PySem.W.mg_of X G xa_NothingToUndo) ⟨xi_NothingToUndo, xg_NothingToUndo, xG_NothingToUndo, xs_NothingToUndo, xC_NothingToUndo, xP_NothingToUndo, xT_NothingToUndo, xM_NothingToUndo⟩ (kit_own xi_InvalidQuestion xt_InvalidQuestion xo_NothingToUndo_InvalidQuestion hv_NothingToUndo_InvalidQuestion) (by decide +kernel) (IsvF.cons (b := false) (PySem.W.mg_of X G xa_TooMany) ⟨xi_TooMany, xg_TooMany, xG_TooMany, xs_TooMany, xC_TooMany, xP_TooMany, xT_TooMany, xM_TooMany⟩ (kit_own xi_InvalidQuestion xt_InvalidQuestion xo_TooMany_InvalidQuestion hv_TooMany_InvalidQuestion) (by decide +kernel) (IsvF.cons (b := false) (PySem.W.mg_of X G xa_Refused) ⟨xi_Refused, xg_Refused, xG_Refused, xs_Refused, xC_Refused, xP_Refused, xT_Refused, xM_Refused⟩ (kit_own xi_InvalidQuestion xt_InvalidQuestion xo_Refused_InvalidQuestion hv_Refused_InvalidQuestion) (by decide +kernel) (IsvF.cons (b := false) (PySem.W.mg_of X G xa_InvalidNumber) ⟨xi_InvalidNumber, xg_InvalidNumber, xG_InvalidNumber, xs_InvalidNumber, xC_InvalidNumber, xP_InvalidNumber, xT_InvalidNumber, xM_InvalidNumber⟩ (kit_own xi_InvalidQuestion xt_InvalidQuestion xo_InvalidNumber_InvalidQuestion hv_InvalidNumber_InvalidQuestion) (by decide +kernel) (IsvF.nil (.own _)))))))))))))))))),
    (IsvF.cons (b := false) (PySem.W.mg_of X G xa_BuildError) ⟨xi_BuildError, xg_BuildError, xG_BuildError, xs_BuildError, xC_BuildError, xP_BuildError, xT_BuildError, xM_BuildError⟩ (kit_own xi_InvalidRoom xt_InvalidRoom xo_BuildError_InvalidRoom hv_BuildError_InvalidRoom) (by decide +kernel) (IsvF.cons (b := false) (PySem.W.mg_of X G xa_InvalidWord) ⟨xi_InvalidWord, xg_InvalidWord, xG_InvalidWord, xs_InvalidWord, xC_InvalidWord, xP_InvalidWord, xT_InvalidWord, xM_InvalidWord⟩ (kit_own xi_InvalidRoom xt_InvalidRoom xo_InvalidWord_InvalidRoom hv_InvalidWord_InvalidRoom) (by decide +kernel) (IsvF.cons (b := false) (PySem.W.mg_of X G xa_InvalidType) ⟨xi_InvalidType, xg_InvalidType, xG_InvalidType, xs_InvalidType, xC_InvalidType, xP_InvalidType, xT_InvalidType, xM_InvalidType⟩ (kit_own xi_InvalidRoom xt_InvalidRoom xo_InvalidType_InvalidRoom hv_InvalidType_InvalidRoom) (by decide +kernel) (IsvF.cons (b := false) (PySem.W.mg_of X G xa_InvalidLibrary) ⟨xi_InvalidLibrary, xg_InvalidLibrary, xG_InvalidLibrary, xs_InvalidLibrary, xC_InvalidLibrary, xP_InvalidLibrary, xT_InvalidLibrary, xM_InvalidLibrary⟩ (kit_own xi_InvalidRoom xt_InvalidRoom xo_InvalidLibrary_InvalidRoom hv_InvalidLibrary_InvalidRoom) (by decide +kernel) (IsvF.cons (b := false) (PySem.W.mg_of X G xa_InvalidProgram) ⟨xi_InvalidProgram, xg_InvalidProgram, xG_InvalidProgram, xs_InvalidProgram, xC_InvalidProgram, xP_InvalidProgram, xT_InvalidProgram, xM_InvalidProgram⟩ (kit_own xi_InvalidRoom xt_InvalidRoom xo_InvalidProgram_InvalidRoom hv_InvalidProgram_InvalidRoom) (by decide +kernel) (IsvF.cons (b := false) (PySem.W.mg_of X G xa_InvalidQuestion) ⟨xi_InvalidQuestion, xg_InvalidQuestion, xG_InvalidQuestion, xs_InvalidQuestion, xC_InvalidQuestion, xP_InvalidQuestion, xT_InvalidQuestion, xM_InvalidQuestion⟩ (kit_own xi_InvalidRoom xt_InvalidRoom xo_InvalidQuestion_InvalidRoom hv_InvalidQuestion_InvalidRoom) (by decide +kernel) (IsvF.cons (b := true) (PySem.W.mg_of X G xa_InvalidRoom) ⟨xi_InvalidRoom, xg_InvalidRoom, xG_InvalidRoom, xs_InvalidRoom, xC_InvalidRoom, xP_InvalidRoom, xT_InvalidRoom, xM_InvalidRoom⟩ kit_self (by decide +kernel) (IsvF.cons (b := false) (PySem.W.mg_of X G xa_InvalidDraft) ⟨xi_InvalidDraft, xg_InvalidDraft, xG_InvalidDraft, xs_InvalidDraft, xC_InvalidDraft, xP_InvalidDraft, xT_InvalidDraft, xM_InvalidDraft⟩ (kit_own xi_InvalidRoom xt_InvalidRoom xo_InvalidDraft_InvalidRoom hv_InvalidDraft_InvalidRoom) (by decide +kernel) (IsvF.cons (b := false) (PySem.W.mg_of X G xa_InvalidOperation) ⟨xi_InvalidOperation, xg_InvalidOperation, xG_InvalidOperation, xs_InvalidOperation, xC_InvalidOperation, xP_InvalidOperation, xT_InvalidOperation, xM_InvalidOperation⟩ (kit_own xi_InvalidRoom xt_InvalidRoom xo_InvalidOperation_InvalidRoom hv_InvalidOperation_InvalidRoom) (by decide +kernel) (IsvF.cons (b := false) (PySem.W.mg_of X G xa_ParseError) ⟨xi_ParseError, xg_ParseError, xG_ParseError, xs_ParseError, xC_ParseError, xP_ParseError, xT_ParseError, xM_ParseError⟩ (kit_own xi_InvalidRoom xt_InvalidRoom xo_ParseError_InvalidRoom hv_ParseError_InvalidRoom) (by decide +kernel) (IsvF.cons (b := false) (PySem.W.mg_of X G xa_UnknownWord) ⟨xi_UnknownWord, xg_UnknownWord, xG_UnknownWord, xs_UnknownWord, xC_UnknownWord, xP_UnknownWord, xT_UnknownWord, xM_UnknownWord⟩ (kit_own xi_InvalidRoom xt_InvalidRoom xo_UnknownWord_InvalidRoom hv_UnknownWord_InvalidRoom) (by decide +kernel) (IsvF.cons (b := false) (PySem.W.mg_of X G xa_NoProgram) ⟨xi_NoProgram, xg_NoProgram, xG_NoProgram, xs_NoProgram, xC_NoProgram, xP_NoProgram, xT_NoProgram, xM_NoProgram⟩ (kit_own xi_InvalidRoom xt_InvalidRoom xo_NoProgram_InvalidRoom hv_NoProgram_InvalidRoom) (by decide +kernel) (IsvF.cons (b := false) (PySem.W.mg_of X G xa_NothingToUndo) ⟨xi_NothingToUndo, xg_NothingToUndo, xG_NothingToUndo, xs_NothingToUndo, xC_NothingToUndo, xP_NothingToUndo, xT_NothingToUndo, xM_NothingToUndo⟩ (kit_own xi_InvalidRoom xt_InvalidRoom xo_NothingToUndo_InvalidRoom hv_NothingToUndo_InvalidRoom) (by decide +kernel) (IsvF.cons (b := false) (PySem.W.mg_of X G xa_TooMany) ⟨xi_TooMany, xg_TooMany, xG_TooMany, xs_TooMany, xC_TooMany, xP_TooMany, xT_TooMany, xM_TooMany⟩ (kit_own xi_InvalidRoom xt_InvalidRoom xo_TooMany_InvalidRoom hv_TooMany_InvalidRoom) (by decide +kernel) (IsvF.cons (b := false) (PySem.W.mg_of X G xa_Refused) ⟨xi_Refused, xg_Refused, xG_Refused, xs_Refused, xC_Refused, xP_Refused, xT_Refused, xM_Refused⟩ (kit_own xi_InvalidRoom xt_InvalidRoom xo_Refused_InvalidRoom hv_Refused_InvalidRoom) (by decide +kernel) (IsvF.cons (b := false) (PySem.W.mg_of X G xa_InvalidNumber) ⟨xi_InvalidNumber, xg_InvalidNumber, xG_InvalidNumber, xs_InvalidNumber, xC_InvalidNumber, xP_InvalidNumber, xT_InvalidNumber, xM_InvalidNumber⟩ (kit_own xi_InvalidRoom xt_InvalidRoom xo_InvalidNumber_InvalidRoom hv_InvalidNumber_InvalidRoom) (by decide +kernel) (IsvF.nil (.own _)))))))))))))))))),
    (IsvF.cons (b := false) (PySem.W.mg_of X G xa_BuildError) ⟨xi_BuildError, xg_BuildError, xG_BuildError, xs_BuildError, xC_BuildError, xP_BuildError, xT_BuildError, xM_BuildError⟩ (kit_own xi_InvalidDraft xt_InvalidDraft xo_BuildError_InvalidDraft hv_BuildError_InvalidDraft) (by decide +kernel) (IsvF.cons (b := false) (PySem.W.mg_of X G xa_InvalidWord) ⟨xi_InvalidWord, xg_InvalidWord, xG_InvalidWord, xs_InvalidWord, xC_InvalidWord, xP_InvalidWord, xT_InvalidWord, xM_InvalidWord⟩ (kit_own xi_InvalidDraft xt_InvalidDraft xo_InvalidWord_InvalidDraft hv_InvalidWord_InvalidDraft) (by decide +kernel) (IsvF.cons (b := false) (PySem.W.mg_of X G xa_InvalidType) ⟨xi_InvalidType, xg_InvalidType, xG_InvalidType, xs_InvalidType, xC_InvalidType, xP_InvalidType, xT_InvalidType, xM_InvalidType⟩ (kit_own xi_InvalidDraft xt_InvalidDraft xo_InvalidType_InvalidDraft hv_InvalidType_InvalidDraft) (by decide +kernel) (IsvF.cons (b := false) (PySem.W.mg_of X G xa_InvalidLibrary) ⟨xi_InvalidLibrary, xg_InvalidLibrary, xG_InvalidLibrary, xs_InvalidLibrary, xC_InvalidLibrary, xP_InvalidLibrary, xT_InvalidLibrary, xM_InvalidLibrary⟩ (kit_own xi_InvalidDraft xt_InvalidDraft xo_InvalidLibrary_InvalidDraft hv_InvalidLibrary_InvalidDraft) (by decide +kernel) (IsvF.cons (b := false) (PySem.W.mg_of X G xa_InvalidProgram) ⟨xi_InvalidProgram, xg_InvalidProgram, xG_InvalidProgram, xs_InvalidProgram, xC_InvalidProgram, xP_InvalidProgram, xT_InvalidProgram, xM_InvalidProgram⟩ (kit_own xi_InvalidDraft xt_InvalidDraft xo_InvalidProgram_InvalidDraft hv_InvalidProgram_InvalidDraft) (by decide +kernel) (IsvF.cons (b := false) (PySem.W.mg_of X G xa_InvalidQuestion) ⟨xi_InvalidQuestion, xg_InvalidQuestion, xG_InvalidQuestion, xs_InvalidQuestion, xC_InvalidQuestion, xP_InvalidQuestion, xT_InvalidQuestion, xM_InvalidQuestion⟩ (kit_own xi_InvalidDraft xt_InvalidDraft xo_InvalidQuestion_InvalidDraft hv_InvalidQuestion_InvalidDraft) (by decide +kernel) (IsvF.cons (b := false) (PySem.W.mg_of X G xa_InvalidRoom) ⟨xi_InvalidRoom, xg_InvalidRoom, xG_InvalidRoom, xs_InvalidRoom, xC_InvalidRoom, xP_InvalidRoom, xT_InvalidRoom, xM_InvalidRoom⟩ (kit_own xi_InvalidDraft xt_InvalidDraft xo_InvalidRoom_InvalidDraft hv_InvalidRoom_InvalidDraft) (by decide +kernel) (IsvF.cons (b := true) (PySem.W.mg_of X G xa_InvalidDraft) ⟨xi_InvalidDraft, xg_InvalidDraft, xG_InvalidDraft, xs_InvalidDraft, xC_InvalidDraft, xP_InvalidDraft, xT_InvalidDraft, xM_InvalidDraft⟩ kit_self (by decide +kernel) (IsvF.cons (b := false) (PySem.W.mg_of X G xa_InvalidOperation) ⟨xi_InvalidOperation, xg_InvalidOperation, xG_InvalidOperation, xs_InvalidOperation, xC_InvalidOperation, xP_InvalidOperation, xT_InvalidOperation, xM_InvalidOperation⟩ (kit_own xi_InvalidDraft xt_InvalidDraft xo_InvalidOperation_InvalidDraft hv_InvalidOperation_InvalidDraft) (by decide +kernel) (IsvF.cons (b := false) (PySem.W.mg_of X G xa_ParseError) ⟨xi_ParseError, xg_ParseError, xG_ParseError, xs_ParseError, xC_ParseError, xP_ParseError, xT_ParseError, xM_ParseError⟩ (kit_own xi_InvalidDraft xt_InvalidDraft xo_ParseError_InvalidDraft hv_ParseError_InvalidDraft) (by decide +kernel) (IsvF.cons (b := false) (PySem.W.mg_of X G xa_UnknownWord) ⟨xi_UnknownWord, xg_UnknownWord, xG_UnknownWord, xs_UnknownWord, xC_UnknownWord, xP_UnknownWord, xT_UnknownWord, xM_UnknownWord⟩ (kit_own xi_InvalidDraft xt_InvalidDraft xo_UnknownWord_InvalidDraft hv_UnknownWord_InvalidDraft) (by decide +kernel) (IsvF.cons (b := false) (PySem.W.mg_of X G xa_NoProgram) ⟨xi_NoProgram, xg_NoProgram, xG_NoProgram, xs_NoProgram, xC_NoProgram, xP_NoProgram, xT_NoProgram, xM_NoProgram⟩ (kit_own xi_InvalidDraft xt_InvalidDraft xo_NoProgram_InvalidDraft hv_NoProgram_InvalidDraft) (by decide +kernel) (IsvF.cons (b := false) (PySem.W.mg_of X G xa_NothingToUndo) ⟨xi_NothingToUndo, xg_NothingToUndo, xG_NothingToUndo, xs_NothingToUndo, xC_NothingToUndo, xP_NothingToUndo, xT_NothingToUndo, xM_NothingToUndo⟩ (kit_own xi_InvalidDraft xt_InvalidDraft xo_NothingToUndo_InvalidDraft hv_NothingToUndo_InvalidDraft) (by decide +kernel) (IsvF.cons (b := false) (PySem.W.mg_of X G xa_TooMany) ⟨xi_TooMany, xg_TooMany, xG_TooMany, xs_TooMany, xC_TooMany, xP_TooMany, xT_TooMany, xM_TooMany⟩ (kit_own xi_InvalidDraft xt_InvalidDraft xo_TooMany_InvalidDraft hv_TooMany_InvalidDraft) (by decide +kernel) (IsvF.cons (b := false) (PySem.W.mg_of X G xa_Refused) ⟨xi_Refused, xg_Refused, xG_Refused, xs_Refused, xC_Refused, xP_Refused, xT_Refused, xM_Refused⟩ (kit_own xi_InvalidDraft xt_InvalidDraft xo_Refused_InvalidDraft hv_Refused_InvalidDraft) (by decide +kernel) (IsvF.cons (b := false) (PySem.W.mg_of X G xa_InvalidNumber) ⟨xi_InvalidNumber, xg_InvalidNumber, xG_InvalidNumber, xs_InvalidNumber, xC_InvalidNumber, xP_InvalidNumber, xT_InvalidNumber, xM_InvalidNumber⟩ (kit_own xi_InvalidDraft xt_InvalidDraft xo_InvalidNumber_InvalidDraft hv_InvalidNumber_InvalidDraft) (by decide +kernel) (IsvF.nil (.own _)))))))))))))))))),
    (IsvF.cons (b := false) (PySem.W.mg_of X G xa_BuildError) ⟨xi_BuildError, xg_BuildError, xG_BuildError, xs_BuildError, xC_BuildError, xP_BuildError, xT_BuildError, xM_BuildError⟩ (kit_own xi_InvalidOperation xt_InvalidOperation xo_BuildError_InvalidOperation hv_BuildError_InvalidOperation) (by decide +kernel) (IsvF.cons (b := false) (PySem.W.mg_of X G xa_InvalidWord) ⟨xi_InvalidWord, xg_InvalidWord, xG_InvalidWord, xs_InvalidWord, xC_InvalidWord, xP_InvalidWord, xT_InvalidWord, xM_InvalidWord⟩ (kit_own xi_InvalidOperation xt_InvalidOperation xo_InvalidWord_InvalidOperation hv_InvalidWord_InvalidOperation) (by decide +kernel) (IsvF.cons (b := false) (PySem.W.mg_of X G xa_InvalidType) ⟨xi_InvalidType, xg_InvalidType, xG_InvalidType, xs_InvalidType, xC_InvalidType, xP_InvalidType, xT_InvalidType, xM_InvalidType⟩ (kit_own xi_InvalidOperation xt_InvalidOperation xo_InvalidType_InvalidOperation hv_InvalidType_InvalidOperation) (by decide +kernel) (IsvF.cons (b := false) (PySem.W.mg_of X G xa_InvalidLibrary) ⟨xi_InvalidLibrary, xg_InvalidLibrary, xG_InvalidLibrary, xs_InvalidLibrary, xC_InvalidLibrary, xP_InvalidLibrary, xT_InvalidLibrary, xM_InvalidLibrary⟩ (kit_own xi_InvalidOperation xt_InvalidOperation xo_InvalidLibrary_InvalidOperation hv_InvalidLibrary_InvalidOperation) (by decide +kernel) (IsvF.cons (b := false) (PySem.W.mg_of X G xa_InvalidProgram) ⟨xi_InvalidProgram, xg_InvalidProgram, xG_InvalidProgram, xs_InvalidProgram, xC_InvalidProgram, xP_InvalidProgram, xT_InvalidProgram, xM_InvalidProgram⟩ (kit_own xi_InvalidOperation xt_InvalidOperation xo_InvalidProgram_InvalidOperation hv_InvalidProgram_InvalidOperation) (by decide +kernel) (IsvF.cons (b := false) (PySem.W.mg_of X G xa_InvalidQuestion) ⟨xi_InvalidQuestion, xg_InvalidQuestion, xG_InvalidQuestion, xs_InvalidQuestion, xC_InvalidQuestion, xP_InvalidQuestion, xT_InvalidQuestion, xM_InvalidQuestion⟩ (kit_own xi_InvalidOperation xt_InvalidOperation xo_InvalidQuestion_InvalidOperation hv_InvalidQuestion_InvalidOperation) (by decide +kernel) (IsvF.cons (b := false) (PySem.W.mg_of X G xa_InvalidRoom) ⟨xi_InvalidRoom, xg_InvalidRoom, xG_InvalidRoom, xs_InvalidRoom, xC_InvalidRoom, xP_InvalidRoom, xT_InvalidRoom, xM_InvalidRoom⟩ (kit_own xi_InvalidOperation xt_InvalidOperation xo_InvalidRoom_InvalidOperation hv_InvalidRoom_InvalidOperation) (by decide +kernel) (IsvF.cons (b := false) (PySem.W.mg_of X G xa_InvalidDraft) ⟨xi_InvalidDraft, xg_InvalidDraft, xG_InvalidDraft, xs_InvalidDraft, xC_InvalidDraft, xP_InvalidDraft, xT_InvalidDraft, xM_InvalidDraft⟩ (kit_own xi_InvalidOperation xt_InvalidOperation xo_InvalidDraft_InvalidOperation hv_InvalidDraft_InvalidOperation) (by decide +kernel) (IsvF.cons (b := true) (PySem.W.mg_of X G xa_InvalidOperation) ⟨xi_InvalidOperation, xg_InvalidOperation, xG_InvalidOperation, xs_InvalidOperation, xC_InvalidOperation, xP_InvalidOperation, xT_InvalidOperation, xM_InvalidOperation⟩ kit_self (by decide +kernel) (IsvF.cons (b := false) (PySem.W.mg_of X G xa_ParseError) ⟨xi_ParseError, xg_ParseError, xG_ParseError, xs_ParseError, xC_ParseError, xP_ParseError, xT_ParseError, xM_ParseError⟩ (kit_own xi_InvalidOperation xt_InvalidOperation xo_ParseError_InvalidOperation hv_ParseError_InvalidOperation) (by decide +kernel) (IsvF.cons (b := false) (PySem.W.mg_of X G xa_UnknownWord) ⟨xi_UnknownWord, xg_UnknownWord, xG_UnknownWord, xs_UnknownWord, xC_UnknownWord, xP_UnknownWord, xT_UnknownWord, xM_UnknownWord⟩ (kit_own xi_InvalidOperation xt_InvalidOperation xo_UnknownWord_InvalidOperation hv_UnknownWord_InvalidOperation) (by decide +kernel) (IsvF.cons (b := false) (PySem.W.mg_of X G xa_NoProgram) ⟨xi_NoProgram, xg_NoProgram, xG_NoProgram, xs_NoProgram, xC_NoProgram, xP_NoProgram, xT_NoProgram, xM_NoProgram⟩ (kit_own xi_InvalidOperation xt_InvalidOperation xo_NoProgram_InvalidOperation hv_NoProgram_InvalidOperation) (by decide +kernel) (IsvF.cons (b := false) (PySem.W.mg_of X G xa_NothingToUndo) ⟨xi_NothingToUndo, xg_NothingToUndo, xG_NothingToUndo, xs_NothingToUndo, xC_NothingToUndo, xP_NothingToUndo, xT_NothingToUndo, xM_NothingToUndo⟩ (kit_own xi_InvalidOperation xt_InvalidOperation xo_NothingToUndo_InvalidOperation hv_NothingToUndo_InvalidOperation) (by decide +kernel) (IsvF.cons (b := false) (PySem.W.mg_of X G xa_TooMany) ⟨xi_TooMany, xg_TooMany, xG_TooMany, xs_TooMany, xC_TooMany, xP_TooMany, xT_TooMany, xM_TooMany⟩ (kit_own xi_InvalidOperation xt_InvalidOperation xo_TooMany_InvalidOperation hv_TooMany_InvalidOperation) (by decide +kernel) (IsvF.cons (b := false) (PySem.W.mg_of X G xa_Refused) ⟨xi_Refused, xg_Refused, xG_Refused, xs_Refused, xC_Refused, xP_Refused, xT_Refused, xM_Refused⟩ (kit_own xi_InvalidOperation xt_InvalidOperation xo_Refused_InvalidOperation hv_Refused_InvalidOperation) (by decide +kernel) (IsvF.cons (b := false) (PySem.W.mg_of X G xa_InvalidNumber) ⟨xi_InvalidNumber, xg_InvalidNumber, xG_InvalidNumber, xs_InvalidNumber, xC_InvalidNumber, xP_InvalidNumber, xT_InvalidNumber, xM_InvalidNumber⟩ (kit_own xi_InvalidOperation xt_InvalidOperation xo_InvalidNumber_InvalidOperation hv_InvalidNumber_InvalidOperation) (by decide +kernel) (IsvF.nil (.own _)))))))))))))))))),
    (IsvF.cons (b := false) (PySem.W.mg_of X G xa_BuildError) ⟨xi_BuildError, xg_BuildError, xG_BuildError, xs_BuildError, xC_BuildError, xP_BuildError, xT_BuildError, xM_BuildError⟩ (kit_own xi_ParseError xt_ParseError xo_BuildError_ParseError hv_BuildError_ParseError) (by decide +kernel) (IsvF.cons (b := false) (PySem.W.mg_of X G xa_InvalidWord) ⟨xi_InvalidWord, xg_InvalidWord, xG_InvalidWord, xs_InvalidWord, xC_InvalidWord, xP_InvalidWord, xT_InvalidWord, xM_InvalidWord⟩ (kit_own xi_ParseError xt_ParseError xo_InvalidWord_ParseError hv_InvalidWord_ParseError) (by decide +kernel) (IsvF.cons (b := false) (PySem.W.mg_of X G xa_InvalidType) ⟨xi_InvalidType, xg_InvalidType, xG_InvalidType, xs_InvalidType, xC_InvalidType, xP_InvalidType, xT_InvalidType, xM_InvalidType⟩ (kit_own xi_ParseError xt_ParseError xo_InvalidType_ParseError hv_InvalidType_ParseError) (by decide +kernel) (IsvF.cons (b := false) (PySem.W.mg_of X G xa_InvalidLibrary) ⟨xi_InvalidLibrary, xg_InvalidLibrary, xG_InvalidLibrary, xs_InvalidLibrary, xC_InvalidLibrary, xP_InvalidLibrary, xT_InvalidLibrary, xM_InvalidLibrary⟩ (kit_own xi_ParseError xt_ParseError xo_InvalidLibrary_ParseError hv_InvalidLibrary_ParseError) (by decide +kernel) (IsvF.cons (b := false) (PySem.W.mg_of X G xa_InvalidProgram) ⟨xi_InvalidProgram, xg_InvalidProgram, xG_InvalidProgram, xs_InvalidProgram, xC_InvalidProgram, xP_InvalidProgram, xT_InvalidProgram, xM_InvalidProgram⟩ (kit_own xi_ParseError xt_ParseError xo_InvalidProgram_ParseError hv_InvalidProgram_ParseError) (by decide +kernel) (IsvF.cons (b := false) (PySem.W.mg_of X G xa_InvalidQuestion) ⟨xi_InvalidQuestion, xg_InvalidQuestion, xG_InvalidQuestion, xs_InvalidQuestion, xC_InvalidQuestion, xP_InvalidQuestion, xT_InvalidQuestion, xM_InvalidQuestion⟩ (kit_own xi_ParseError xt_ParseError xo_InvalidQuestion_ParseError hv_InvalidQuestion_ParseError) (by decide +kernel) (IsvF.cons (b := false) (PySem.W.mg_of X G xa_InvalidRoom) ⟨xi_InvalidRoom, xg_InvalidRoom, xG_InvalidRoom, xs_InvalidRoom, xC_InvalidRoom, xP_InvalidRoom, xT_InvalidRoom, xM_InvalidRoom⟩ (kit_own xi_ParseError xt_ParseError xo_InvalidRoom_ParseError hv_InvalidRoom_ParseError) (by decide +kernel) (IsvF.cons (b := false) (PySem.W.mg_of X G xa_InvalidDraft) ⟨xi_InvalidDraft, xg_InvalidDraft, xG_InvalidDraft, xs_InvalidDraft, xC_InvalidDraft, xP_InvalidDraft, xT_InvalidDraft, xM_InvalidDraft⟩ (kit_own xi_ParseError xt_ParseError xo_InvalidDraft_ParseError hv_InvalidDraft_ParseError) (by decide +kernel) (IsvF.cons (b := false) (PySem.W.mg_of X G xa_InvalidOperation) ⟨xi_InvalidOperation, xg_InvalidOperation, xG_InvalidOperation, xs_InvalidOperation, xC_InvalidOperation, xP_InvalidOperation, xT_InvalidOperation, xM_InvalidOperation⟩ (kit_own xi_ParseError xt_ParseError xo_InvalidOperation_ParseError hv_InvalidOperation_ParseError) (by decide +kernel) (IsvF.cons (b := true) (PySem.W.mg_of X G xa_ParseError) ⟨xi_ParseError, xg_ParseError, xG_ParseError, xs_ParseError, xC_ParseError, xP_ParseError, xT_ParseError, xM_ParseError⟩ kit_self (by decide +kernel) (IsvF.cons (b := false) (PySem.W.mg_of X G xa_UnknownWord) ⟨xi_UnknownWord, xg_UnknownWord, xG_UnknownWord, xs_UnknownWord, xC_UnknownWord, xP_UnknownWord, xT_UnknownWord, xM_UnknownWord⟩ (kit_own xi_ParseError xt_ParseError xo_UnknownWord_ParseError hv_UnknownWord_ParseError) (by decide +kernel) (IsvF.cons (b := false) (PySem.W.mg_of X G xa_NoProgram) ⟨xi_NoProgram, xg_NoProgram, xG_NoProgram, xs_NoProgram, xC_NoProgram, xP_NoProgram, xT_NoProgram, xM_NoProgram⟩ (kit_own xi_ParseError xt_ParseError xo_NoProgram_ParseError hv_NoProgram_ParseError) (by decide +kernel) (IsvF.cons (b := false) (PySem.W.mg_of X G xa_NothingToUndo) ⟨xi_NothingToUndo, xg_NothingToUndo, xG_NothingToUndo, xs_NothingToUndo, xC_NothingToUndo, xP_NothingToUndo, xT_NothingToUndo, xM_NothingToUndo⟩ (kit_own xi_ParseError xt_ParseError xo_NothingToUndo_ParseError hv_NothingToUndo_ParseError) (by decide +kernel) (IsvF.cons (b := false) (PySem.W.mg_of X G xa_TooMany) ⟨xi_TooMany, xg_TooMany, xG_TooMany, xs_TooMany, xC_TooMany, xP_TooMany, xT_TooMany, xM_TooMany⟩ (kit_own xi_ParseError xt_ParseError xo_TooMany_ParseError hv_TooMany_ParseError) (by decide +kernel) (IsvF.cons (b := false) (PySem.W.mg_of X G xa_Refused) ⟨xi_Refused, xg_Refused, xG_Refused, xs_Refused, xC_Refused, xP_Refused, xT_Refused, xM_Refused⟩ (kit_own xi_ParseError xt_ParseError xo_Refused_ParseError hv_Refused_ParseError) (by decide +kernel) (IsvF.cons (b := false) (PySem.W.mg_of X G xa_InvalidNumber) ⟨xi_InvalidNumber, xg_InvalidNumber, xG_InvalidNumber, xs_InvalidNumber, xC_InvalidNumber, xP_InvalidNumber, xT_InvalidNumber, xM_InvalidNumber⟩ (kit_own xi_ParseError xt_ParseError xo_InvalidNumber_ParseError hv_InvalidNumber_ParseError) (by decide +kernel) (IsvF.nil (.own _)))))))))))))))))),
    (IsvF.cons (b := true) (PySem.W.mg_of X G xa_BuildError) ⟨xi_BuildError, xg_BuildError, xG_BuildError, xs_BuildError, xC_BuildError, xP_BuildError, xT_BuildError, xM_BuildError⟩ kit_self (by decide +kernel) (IsvF.cons (b := true) (PySem.W.mg_of X G xa_InvalidWord) ⟨xi_InvalidWord, xg_InvalidWord, xG_InvalidWord, xs_InvalidWord, xC_InvalidWord, xP_InvalidWord, xT_InvalidWord, xM_InvalidWord⟩ (kit_own xi_BuildError xt_BuildError xo_InvalidWord_BuildError hv_InvalidWord_BuildError) (by decide +kernel) (IsvF.cons (b := true) (PySem.W.mg_of X G xa_InvalidType) ⟨xi_InvalidType, xg_InvalidType, xG_InvalidType, xs_InvalidType, xC_InvalidType, xP_InvalidType, xT_InvalidType, xM_InvalidType⟩ (kit_own xi_BuildError xt_BuildError xo_InvalidType_BuildError hv_InvalidType_BuildError) (by decide +kernel) (IsvF.cons (b := true) (PySem.W.mg_of X G xa_InvalidLibrary) ⟨xi_InvalidLibrary, xg_InvalidLibrary, xG_InvalidLibrary, xs_InvalidLibrary, xC_InvalidLibrary, xP_InvalidLibrary, xT_InvalidLibrary, xM_InvalidLibrary⟩ (kit_own xi_BuildError xt_BuildError xo_InvalidLibrary_BuildError hv_InvalidLibrary_BuildError) (by decide +kernel) (IsvF.cons (b := true) (PySem.W.mg_of X G xa_InvalidProgram) ⟨xi_InvalidProgram, xg_InvalidProgram, xG_InvalidProgram, xs_InvalidProgram, xC_InvalidProgram, xP_InvalidProgram, xT_InvalidProgram, xM_InvalidProgram⟩ (kit_own xi_BuildError xt_BuildError xo_InvalidProgram_BuildError hv_InvalidProgram_BuildError) (by decide +kernel) (IsvF.cons (b := true) (PySem.W.mg_of X G xa_InvalidQuestion) ⟨xi_InvalidQuestion, xg_InvalidQuestion, xG_InvalidQuestion, xs_InvalidQuestion, xC_InvalidQuestion, xP_InvalidQuestion, xT_InvalidQuestion, xM_InvalidQuestion⟩ (kit_own xi_BuildError xt_BuildError xo_InvalidQuestion_BuildError hv_InvalidQuestion_BuildError) (by decide +kernel) (IsvF.cons (b := true) (PySem.W.mg_of X G xa_InvalidRoom) ⟨xi_InvalidRoom, xg_InvalidRoom, xG_InvalidRoom, xs_InvalidRoom, xC_InvalidRoom, xP_InvalidRoom, xT_InvalidRoom, xM_InvalidRoom⟩ (kit_own xi_BuildError xt_BuildError xo_InvalidRoom_BuildError hv_InvalidRoom_BuildError) (by decide +kernel) (IsvF.cons (b := true) (PySem.W.mg_of X G xa_InvalidDraft) ⟨xi_InvalidDraft, xg_InvalidDraft, xG_InvalidDraft, xs_InvalidDraft, xC_InvalidDraft, xP_InvalidDraft, xT_InvalidDraft, xM_InvalidDraft⟩ (kit_own xi_BuildError xt_BuildError xo_InvalidDraft_BuildError hv_InvalidDraft_BuildError) (by decide +kernel) (IsvF.cons (b := true) (PySem.W.mg_of X G xa_InvalidOperation) ⟨xi_InvalidOperation, xg_InvalidOperation, xG_InvalidOperation, xs_InvalidOperation, xC_InvalidOperation, xP_InvalidOperation, xT_InvalidOperation, xM_InvalidOperation⟩ (kit_own xi_BuildError xt_BuildError xo_InvalidOperation_BuildError hv_InvalidOperation_BuildError) (by decide +kernel) (IsvF.cons (b := true) (PySem.W.mg_of X G xa_ParseError) ⟨xi_ParseError, xg_ParseError, xG_ParseError, xs_ParseError, xC_ParseError, xP_ParseError, xT_ParseError, xM_ParseError⟩ (kit_own xi_BuildError xt_BuildError xo_ParseError_BuildError hv_ParseError_BuildError) (by decide +kernel) (IsvF.cons (b := false) (PySem.W.mg_of X G xa_UnknownWord) ⟨xi_UnknownWord, xg_UnknownWord, xG_UnknownWord, xs_UnknownWord, xC_UnknownWord, xP_UnknownWord, xT_UnknownWord, xM_UnknownWord⟩ (kit_own xi_BuildError xt_BuildError xo_UnknownWord_BuildError hv_UnknownWord_BuildError) (by decide +kernel) (IsvF.cons (b := false) (PySem.W.mg_of X G xa_NoProgram) ⟨xi_NoProgram, xg_NoProgram, xG_NoProgram, xs_NoProgram, xC_NoProgram, xP_NoProgram, xT_NoProgram, xM_NoProgram⟩ (kit_own xi_BuildError xt_BuildError xo_NoProgram_BuildError hv_NoProgram_BuildError) (by decide +kernel) (IsvF.cons (b := false) (PySem.W.mg_of X G xa_NothingToUndo) ⟨xi_NothingToUndo, xg_NothingToUndo, xG_NothingToUndo, xs_NothingToUndo, xC_NothingToUndo, xP_NothingToUndo, xT_NothingToUndo, xM_NothingToUndo⟩ (kit_own xi_BuildError xt_BuildError xo_NothingToUndo_BuildError hv_NothingToUndo_BuildError) (by decide +kernel) (IsvF.cons (b := false) (PySem.W.mg_of X G xa_TooMany) ⟨xi_TooMany, xg_TooMany, xG_TooMany, xs_TooMany, xC_TooMany, xP_TooMany, xT_TooMany, xM_TooMany⟩ (kit_own xi_BuildError xt_BuildError xo_TooMany_BuildError hv_TooMany_BuildError) (by decide +kernel) (IsvF.cons (b := false) (PySem.W.mg_of X G xa_Refused) ⟨xi_Refused, xg_Refused, xG_Refused, xs_Refused, xC_Refused, xP_Refused, xT_Refused, xM_Refused⟩ (kit_own xi_BuildError xt_BuildError xo_Refused_BuildError hv_Refused_BuildError) (by decide +kernel) (IsvF.cons (b := false) (PySem.W.mg_of X G xa_InvalidNumber) ⟨xi_InvalidNumber, xg_InvalidNumber, xG_InvalidNumber, xs_InvalidNumber, xC_InvalidNumber, xP_InvalidNumber, xT_InvalidNumber, xM_InvalidNumber⟩ (kit_own xi_BuildError xt_BuildError xo_InvalidNumber_BuildError hv_InvalidNumber_BuildError) (by decide +kernel) (IsvF.nil (.own _)))))))))))))))))),
    (IsvF.cons (b := true) (PySem.W.mg_of X G xa_BuildError) ⟨xi_BuildError, xg_BuildError, xG_BuildError, xs_BuildError, xC_BuildError, xP_BuildError, xT_BuildError, xM_BuildError⟩ (kit_blt (by decide +kernel) xo_BuildError_ValueError) (by decide +kernel) (IsvF.cons (b := true) (PySem.W.mg_of X G xa_InvalidWord) ⟨xi_InvalidWord, xg_InvalidWord, xG_InvalidWord, xs_InvalidWord, xC_InvalidWord, xP_InvalidWord, xT_InvalidWord, xM_InvalidWord⟩ (kit_blt (by decide +kernel) xo_InvalidWord_ValueError) (by decide +kernel) (IsvF.cons (b := true) (PySem.W.mg_of X G xa_InvalidType) ⟨xi_InvalidType, xg_InvalidType, xG_InvalidType, xs_InvalidType, xC_InvalidType, xP_InvalidType, xT_InvalidType, xM_InvalidType⟩ (kit_blt (by decide +kernel) xo_InvalidType_ValueError) (by decide +kernel) (IsvF.cons (b := true) (PySem.W.mg_of X G xa_InvalidLibrary) ⟨xi_InvalidLibrary, xg_InvalidLibrary, xG_InvalidLibrary, xs_InvalidLibrary, xC_InvalidLibrary, xP_InvalidLibrary, xT_InvalidLibrary, xM_InvalidLibrary⟩ (kit_blt (by decide +kernel) xo_InvalidLibrary_ValueError) (by decide +kernel) (IsvF.cons (b := true) (PySem.W.mg_of X G xa_InvalidProgram) ⟨xi_InvalidProgram, xg_InvalidProgram, xG_InvalidProgram, xs_InvalidProgram, xC_InvalidProgram, xP_InvalidProgram, xT_InvalidProgram, xM_InvalidProgram⟩ (kit_blt (by decide +kernel) xo_InvalidProgram_ValueError) (by decide +kernel) (IsvF.cons (b := true) (PySem.W.mg_of X G xa_InvalidQuestion) ⟨xi_InvalidQuestion, xg_InvalidQuestion, xG_InvalidQuestion, xs_InvalidQuestion, xC_InvalidQuestion, xP_InvalidQuestion, xT_InvalidQuestion, xM_InvalidQuestion⟩ (kit_blt (by decide +kernel) xo_InvalidQuestion_ValueError) (by decide +kernel) (IsvF.cons (b := true) (PySem.W.mg_of X G xa_InvalidRoom) ⟨xi_InvalidRoom, xg_InvalidRoom, xG_InvalidRoom, xs_InvalidRoom, xC_InvalidRoom, xP_InvalidRoom, xT_InvalidRoom, xM_InvalidRoom⟩ (kit_blt (by decide +kernel) xo_InvalidRoom_ValueError) (by decide +kernel) (IsvF.cons (b := true) (PySem.W.mg_of X G xa_InvalidDraft) ⟨xi_InvalidDraft, xg_InvalidDraft, xG_InvalidDraft, xs_InvalidDraft, xC_InvalidDraft, xP_InvalidDraft, xT_InvalidDraft, xM_InvalidDraft⟩ (kit_blt (by decide +kernel) xo_InvalidDraft_ValueError) (by decide +kernel) (IsvF.cons (b := true) (PySem.W.mg_of X G xa_InvalidOperation) ⟨xi_InvalidOperation, xg_InvalidOperation, xG_InvalidOperation, xs_InvalidOperation, xC_InvalidOperation, xP_InvalidOperation, xT_InvalidOperation, xM_InvalidOperation⟩ (kit_blt (by decide +kernel) xo_InvalidOperation_ValueError) (by decide +kernel) (IsvF.cons (b := true) (PySem.W.mg_of X G xa_ParseError) ⟨xi_ParseError, xg_ParseError, xG_ParseError, xs_ParseError, xC_ParseError, xP_ParseError, xT_ParseError, xM_ParseError⟩ (kit_blt (by decide +kernel) xo_ParseError_ValueError) (by decide +kernel) (IsvF.cons (b := false) (PySem.W.mg_of X G xa_UnknownWord) ⟨xi_UnknownWord, xg_UnknownWord, xG_UnknownWord, xs_UnknownWord, xC_UnknownWord, xP_UnknownWord, xT_UnknownWord, xM_UnknownWord⟩ (kit_blt (by decide +kernel) xo_UnknownWord_ValueError) (by decide +kernel) (IsvF.cons (b := false) (PySem.W.mg_of X G xa_NoProgram) ⟨xi_NoProgram, xg_NoProgram, xG_NoProgram, xs_NoProgram, xC_NoProgram, xP_NoProgram, xT_NoProgram, xM_NoProgram⟩ (kit_blt (by decide +kernel) xo_NoProgram_ValueError) (by decide +kernel) (IsvF.cons (b := false) (PySem.W.mg_of X G xa_NothingToUndo) ⟨xi_NothingToUndo, xg_NothingToUndo, xG_NothingToUndo, xs_NothingToUndo, xC_NothingToUndo, xP_NothingToUndo, xT_NothingToUndo, xM_NothingToUndo⟩ (kit_blt (by decide +kernel) xo_NothingToUndo_ValueError) (by decide +kernel) (IsvF.cons (b := false) (PySem.W.mg_of X G xa_TooMany) ⟨xi_TooMany, xg_TooMany, xG_TooMany, xs_TooMany, xC_TooMany, xP_TooMany, xT_TooMany, xM_TooMany⟩ (kit_blt (by decide +kernel) xo_TooMany_ValueError) (by decide +kernel) (IsvF.cons (b := false) (PySem.W.mg_of X G xa_Refused) ⟨xi_Refused, xg_Refused, xG_Refused, xs_Refused, xC_Refused, xP_Refused, xT_Refused, xM_Refused⟩ (kit_blt (by decide +kernel) xo_Refused_ValueError) (by decide +kernel) (IsvF.cons (b := false) (PySem.W.mg_of X G xa_InvalidNumber) ⟨xi_InvalidNumber, xg_InvalidNumber, xG_InvalidNumber, xs_InvalidNumber, xC_InvalidNumber, xP_InvalidNumber, xT_InvalidNumber, xM_InvalidNumber⟩ (kit_blt (by decide +kernel) xo_InvalidNumber_ValueError) (by decide +kernel) (IsvF.nil (.ty _)))))))))))))))))),
    (IsvF.cons (b := false) (PySem.W.mg_of X G xa_BuildError) ⟨xi_BuildError, xg_BuildError, xG_BuildError, xs_BuildError, xC_BuildError, xP_BuildError, xT_BuildError, xM_BuildError⟩ (kit_own xi_UnknownWord xt_UnknownWord xo_BuildError_UnknownWord hv_BuildError_UnknownWord) (by decide +kernel) (IsvF.cons (b := false) (PySem.W.mg_of X G xa_InvalidWord) ⟨xi_InvalidWord, xg_InvalidWord, xG_InvalidWord, xs_InvalidWord, xC_InvalidWord, xP_InvalidWord, xT_InvalidWord, xM_InvalidWord⟩ (kit_own xi_UnknownWord xt_UnknownWord xo_InvalidWord_UnknownWord hv_InvalidWord_UnknownWord) (by decide +kernel) (IsvF.cons (b := false) (PySem.W.mg_of X G xa_InvalidType) ⟨xi_InvalidType, xg_InvalidType, xG_InvalidType, xs_InvalidType, xC_InvalidType, xP_InvalidType, xT_InvalidType, xM_InvalidType⟩ (kit_own xi_UnknownWord xt_UnknownWord xo_InvalidType_UnknownWord hv_InvalidType_UnknownWord) (by decide +kernel) (IsvF.cons (b := false) (PySem.W.mg_of X G xa_InvalidLibrary) ⟨xi_InvalidLibrary, xg_InvalidLibrary, xG_InvalidLibrary, xs_InvalidLibrary, xC_InvalidLibrary, xP_InvalidLibrary, xT_InvalidLibrary, xM_InvalidLibrary⟩ (kit_own xi_UnknownWord xt_UnknownWord xo_InvalidLibrary_UnknownWord hv_InvalidLibrary_UnknownWord) (by decide +kernel) (IsvF.cons (b := false) (PySem.W.mg_of X G xa_InvalidProgram) ⟨xi_InvalidProgram, xg_InvalidProgram, xG_InvalidProgram, xs_InvalidProgram, xC_InvalidProgram, xP_InvalidProgram, xT_InvalidProgram, xM_InvalidProgram⟩ (kit_own xi_UnknownWord xt_UnknownWord xo_InvalidProgram_UnknownWord hv_InvalidProgram_UnknownWord) (by decide +kernel) (IsvF.cons (b := false) (PySem.W.mg_of X G xa_InvalidQuestion) ⟨xi_InvalidQuestion, xg_InvalidQuestion, xG_InvalidQuestion, xs_InvalidQuestion, xC_InvalidQuestion, xP_InvalidQuestion, xT_InvalidQuestion, xM_InvalidQuestion⟩ (kit_own xi_UnknownWord xt_UnknownWord xo_InvalidQuestion_UnknownWord hv_InvalidQuestion_UnknownWord) (by decide +kernel) (IsvF.cons (b := false) (PySem.W.mg_of X G xa_InvalidRoom) ⟨xi_InvalidRoom, xg_InvalidRoom, xG_InvalidRoom, xs_InvalidRoom, xC_InvalidRoom, xP_InvalidRoom, xT_InvalidRoom, xM_InvalidRoom⟩ (kit_own xi_UnknownWord xt_UnknownWord xo_InvalidRoom_UnknownWord hv_InvalidRoom_UnknownWord) (by decide +kernel) (IsvF.cons (b := false) (PySem.W.mg_of X G xa_InvalidDraft) ⟨xi_InvalidDraft, xg_InvalidDraft, xG_InvalidDraft, xs_InvalidDraft, xC_InvalidDraft, xP_InvalidDraft, xT_InvalidDraft, xM_InvalidDraft⟩ (kit_own xi_UnknownWord xt_UnknownWord xo_InvalidDraft_UnknownWord hv_InvalidDraft_UnknownWord) (by decide +kernel) (IsvF.cons (b := false) (PySem.W.mg_of X G xa_InvalidOperation) ⟨xi_InvalidOperation, xg_InvalidOperation, xG_InvalidOperation, xs_InvalidOperation, xC_InvalidOperation, xP_InvalidOperation, xT_InvalidOperation, xM_InvalidOperation⟩ (kit_own xi_UnknownWord xt_UnknownWord xo_InvalidOperation_UnknownWord hv_InvalidOperation_UnknownWord) (by decide +kernel) (IsvF.cons (b := false) (PySem.W.mg_of X G xa_ParseError) ⟨xi_ParseError, xg_ParseError, xG_ParseError, xs_ParseError, xC_ParseError, xP_ParseError, xT_ParseError, xM_ParseError⟩ (kit_own xi_UnknownWord xt_UnknownWord xo_ParseError_UnknownWord hv_ParseError_UnknownWord) (by decide +kernel) (IsvF.cons (b := true) (PySem.W.mg_of X G xa_UnknownWord) ⟨xi_UnknownWord, xg_UnknownWord, xG_UnknownWord, xs_UnknownWord, xC_UnknownWord, xP_UnknownWord, xT_UnknownWord, xM_UnknownWord⟩ kit_self (by decide +kernel) (IsvF.cons (b := false) (PySem.W.mg_of X G xa_NoProgram) ⟨xi_NoProgram, xg_NoProgram, xG_NoProgram, xs_NoProgram, xC_NoProgram, xP_NoProgram, xT_NoProgram, xM_NoProgram⟩ (kit_own xi_UnknownWord xt_UnknownWord xo_NoProgram_UnknownWord hv_NoProgram_UnknownWord) (by decide +kernel) (IsvF.cons (b := false) (PySem.W.mg_of X G xa_NothingToUndo) ⟨xi_NothingToUndo, xg_NothingToUndo, xG_NothingToUndo, xs_NothingToUndo, xC_NothingToUndo, xP_NothingToUndo, xT_NothingToUndo, xM_NothingToUndo⟩ (kit_own xi_UnknownWord xt_UnknownWord xo_NothingToUndo_UnknownWord hv_NothingToUndo_UnknownWord) (by decide +kernel) (IsvF.cons (b := false) (PySem.W.mg_of X G xa_TooMany) ⟨xi_TooMany, xg_TooMany, xG_TooMany, xs_TooMany, xC_TooMany, xP_TooMany, xT_TooMany, xM_TooMany⟩ (kit_own xi_UnknownWord xt_UnknownWord xo_TooMany_UnknownWord hv_TooMany_UnknownWord) (by decide +kernel) (IsvF.cons (b := false) (PySem.W.mg_of X G xa_Refused) ⟨xi_Refused, xg_Refused, xG_Refused, xs_Refused, xC_Refused, xP_Refused, xT_Refused, xM_Refused⟩ (kit_own xi_UnknownWord xt_UnknownWord xo_Refused_UnknownWord hv_Refused_UnknownWord) (by decide +kernel) (IsvF.cons (b := false) (PySem.W.mg_of X G xa_InvalidNumber) ⟨xi_InvalidNumber, xg_InvalidNumber, xG_InvalidNumber, xs_InvalidNumber, xC_InvalidNumber, xP_InvalidNumber, xT_InvalidNumber, xM_InvalidNumber⟩ (kit_own xi_UnknownWord xt_UnknownWord xo_InvalidNumber_UnknownWord hv_InvalidNumber_UnknownWord) (by decide +kernel) (IsvF.nil (.own _)))))))))))))))))),
    (IsvF.cons (b := false) (PySem.W.mg_of X G xa_BuildError) ⟨xi_BuildError, xg_BuildError, xG_BuildError, xs_BuildError, xC_BuildError, xP_BuildError, xT_BuildError, xM_BuildError⟩ (kit_own xi_NoProgram xt_NoProgram xo_BuildError_NoProgram hv_BuildError_NoProgram) (by decide +kernel) (IsvF.cons (b := false) (PySem.W.mg_of X G xa_InvalidWord) ⟨xi_InvalidWord, xg_InvalidWord, xG_InvalidWord, xs_InvalidWord, xC_InvalidWord, xP_InvalidWord, xT_InvalidWord, xM_InvalidWord⟩ (kit_own xi_NoProgram xt_NoProgram xo_InvalidWord_NoProgram hv_InvalidWord_NoProgram) (by decide +kernel) (IsvF.cons (b := false) (PySem.W.mg_of X G xa_InvalidType) ⟨xi_InvalidType, xg_InvalidType, xG_InvalidType, xs_InvalidType, xC_InvalidType, xP_InvalidType, xT_InvalidType, xM_InvalidType⟩ (kit_own xi_NoProgram xt_NoProgram xo_InvalidType_NoProgram hv_InvalidType_NoProgram) (by decide +kernel) (IsvF.cons (b := false) (PySem.W.mg_of X G xa_InvalidLibrary) ⟨xi_InvalidLibrary, xg_InvalidLibrary, xG_InvalidLibrary, xs_InvalidLibrary, xC_InvalidLibrary, xP_InvalidLibrary, xT_InvalidLibrary, xM_InvalidLibrary⟩ (kit_own xi_NoProgram xt_NoProgram xo_InvalidLibrary_NoProgram hv_InvalidLibrary_NoProgram) (by decide +kernel) (IsvF.cons (b := false) (PySem.W.mg_of X G xa_InvalidProgram) ⟨xi_InvalidProgram, xg_InvalidProgram, xG_InvalidProgram, xs_InvalidProgram, xC_InvalidProgram, xP_InvalidProgram, xT_InvalidProgram, xM_InvalidProgram⟩ (kit_own xi_NoProgram xt_NoProgram xo_InvalidProgram_NoProgram hv_InvalidProgram_NoProgram) (by decide +kernel) (IsvF.cons (b := false) (PySem.W.mg_of X G xa_InvalidQuestion) ⟨xi_InvalidQuestion, xg_InvalidQuestion, xG_InvalidQuestion, xs_InvalidQuestion, xC_InvalidQuestion, xP_InvalidQuestion, xT_InvalidQuestion, xM_InvalidQuestion⟩ (kit_own xi_NoProgram xt_NoProgram xo_InvalidQuestion_NoProgram hv_InvalidQuestion_NoProgram) (by decide +kernel) (IsvF.cons (b := false) (PySem.W.mg_of X G xa_InvalidRoom) ⟨xi_InvalidRoom, xg_InvalidRoom, xG_InvalidRoom, xs_InvalidRoom, xC_InvalidRoom, xP_InvalidRoom, xT_InvalidRoom, xM_InvalidRoom⟩ (kit_own xi_NoProgram xt_NoProgram xo_InvalidRoom_NoProgram hv_InvalidRoom_NoProgram) (by decide +kernel) (IsvF.cons (b := false) (PySem.W.mg_of X G xa_InvalidDraft) ⟨xi_InvalidDraft, xg_InvalidDraft, xG_InvalidDraft, xs_InvalidDraft, xC_InvalidDraft, xP_InvalidDraft, xT_InvalidDraft, xM_InvalidDraft⟩ (kit_own xi_NoProgram xt_NoProgram xo_InvalidDraft_NoProgram hv_InvalidDraft_NoProgram) (by decide +kernel) (IsvF.cons (b := false) (PySem.W.mg_of X G xa_InvalidOperation) ⟨xi_InvalidOperation, xg_InvalidOperation, xG_InvalidOperation, xs_InvalidOperation, xC_InvalidOperation, xP_InvalidOperation, xT_InvalidOperation, xM_InvalidOperation⟩ (kit_own xi_NoProgram xt_NoProgram xo_InvalidOperation_NoProgram hv_InvalidOperation_NoProgram) (by decide +kernel) (IsvF.cons (b := false) (PySem.W.mg_of X G xa_ParseError) ⟨xi_ParseError, xg_ParseError, xG_ParseError, xs_ParseError, xC_ParseError, xP_ParseError, xT_ParseError, xM_ParseError⟩ (kit_own xi_NoProgram xt_NoProgram xo_ParseError_NoProgram hv_ParseError_NoProgram) (by decide +kernel) (IsvF.cons (b := false) (PySem.W.mg_of X G xa_UnknownWord) ⟨xi_UnknownWord, xg_UnknownWord, xG_UnknownWord, xs_UnknownWord, xC_UnknownWord, xP_UnknownWord, xT_UnknownWord, xM_UnknownWord⟩ (kit_own xi_NoProgram xt_NoProgram xo_UnknownWord_NoProgram hv_UnknownWord_NoProgram) (by decide +kernel) (IsvF.cons (b := true) (PySem.W.mg_of X G xa_NoProgram) ⟨xi_NoProgram, xg_NoProgram, xG_NoProgram, xs_NoProgram, xC_NoProgram, xP_NoProgram, xT_NoProgram, xM_NoProgram⟩ kit_self (by decide +kernel) (IsvF.cons (b := false) (PySem.W.mg_of X G xa_NothingToUndo) ⟨xi_NothingToUndo, xg_NothingToUndo, xG_NothingToUndo, xs_NothingToUndo, xC_NothingToUndo, xP_NothingToUndo, xT_NothingToUndo, xM_NothingToUndo⟩ (kit_own xi_NoProgram xt_NoProgram xo_NothingToUndo_NoProgram hv_NothingToUndo_NoProgram) (by decide +kernel) (IsvF.cons (b := false) (PySem.W.mg_of X G xa_TooMany) ⟨xi_TooMany, xg_TooMany, xG_TooMany, xs_TooMany, xC_TooMany, xP_TooMany, xT_TooMany, xM_TooMany⟩ (kit_own xi_NoProgram xt_NoProgram xo_TooMany_NoProgram hv_TooMany_NoProgram) (by decide +kernel) (IsvF.cons (b := false) (PySem.W.mg_of X G xa_Refused) ⟨xi_Refused, xg_Refused, xG_Refused, xs_Refused, xC_Refused, xP_Refused, xT_Refused, xM_Refused⟩ (kit_own xi_NoProgram xt_NoProgram xo_Refused_NoProgram hv_Refused_NoProgram) (by decide +kernel) (IsvF.cons (b := false) (PySem.W.mg_of X G xa_InvalidNumber) ⟨xi_InvalidNumber, xg_InvalidNumber, xG_InvalidNumber, xs_InvalidNumber, xC_InvalidNumber, xP_InvalidNumber, xT_InvalidNumber, xM_InvalidNumber⟩ (kit_own xi_NoProgram xt_NoProgram xo_InvalidNumber_NoProgram hv_InvalidNumber_NoProgram) (by decide +kernel) (IsvF.nil (.own _)))))))))))))))))),
    (IsvF.cons (b := false) (PySem.W.mg_of X G xa_BuildError) ⟨xi_BuildError, xg_BuildError, xG_BuildError, xs_BuildError, xC_BuildError, xP_BuildError, xT_BuildError, xM_BuildError⟩ (kit_own xi_NothingToUndo xt_NothingToUndo xo_BuildError_NothingToUndo hv_BuildError_NothingToUndo) (by decide +kernel) (IsvF.cons (b := false) (PySem.W.mg_of X G xa_InvalidWord) ⟨xi_InvalidWord, xg_InvalidWord, xG_InvalidWord, xs_InvalidWord, xC_InvalidWord, xP_InvalidWord, xT_InvalidWord, xM_InvalidWord⟩ (kit_own xi_NothingToUndo xt_NothingToUndo xo_InvalidWord_NothingToUndo hv_InvalidWord_NothingToUndo) (by decide +kernel) (IsvF.cons (b := false) (PySem.W.mg_of X G xa_InvalidType) ⟨xi_InvalidType, xg_InvalidType, xG_InvalidType, xs_InvalidType, xC_InvalidType, xP_InvalidType, xT_InvalidType, xM_InvalidType⟩ (kit_own xi_NothingToUndo xt_NothingToUndo xo_InvalidType_NothingToUndo hv_InvalidType_NothingToUndo) (by decide +kernel) (IsvF.cons (b := false) (PySem.W.mg_of X G xa_InvalidLibrary) ⟨xi_InvalidLibrary, xg_InvalidLibrary, xG_InvalidLibrary, xs_InvalidLibrary, xC_InvalidLibrary, xP_InvalidLibrary, xT_InvalidLibrary, xM_InvalidLibrary⟩ (kit_own xi_NothingToUndo xt_NothingToUndo xo_InvalidLibrary_NothingToUndo hv_InvalidLibrary_NothingToUndo) (by decide +kernel) (IsvF.cons (b := false) (PySem.W.mg_of X G xa_InvalidProgram) ⟨xi_InvalidProgram, xg_InvalidProgram, xG_InvalidProgram, xs_InvalidProgram, xC_InvalidProgram, xP_InvalidProgram, xT_InvalidProgram, xM_InvalidProgram⟩ (kit_own xi_NothingToUndo xt_NothingToUndo xo_InvalidProgram_NothingToUndo hv_InvalidProgram_NothingToUndo) (by decide +kernel) (IsvF.cons (b := false) (PySem.W.mg_of X G xa_InvalidQuestion) ⟨xi_InvalidQuestion, xg_InvalidQuestion, xG_InvalidQuestion, xs_InvalidQuestion, xC_InvalidQuestion, xP_InvalidQuestion, xT_InvalidQuestion, xM_InvalidQuestion⟩ (kit_own xi_NothingToUndo xt_NothingToUndo xo_InvalidQuestion_NothingToUndo hv_InvalidQuestion_NothingToUndo) (by decide +kernel) (IsvF.cons (b := false) (PySem.W.mg_of X G xa_InvalidRoom) ⟨xi_InvalidRoom, xg_InvalidRoom, xG_InvalidRoom, xs_InvalidRoom, xC_InvalidRoom, xP_InvalidRoom, xT_InvalidRoom, xM_InvalidRoom⟩ (kit_own xi_NothingToUndo xt_NothingToUndo xo_InvalidRoom_NothingToUndo hv_InvalidRoom_NothingToUndo) (by decide +kernel) (IsvF.cons (b := false) (PySem.W.mg_of X G xa_InvalidDraft) ⟨xi_InvalidDraft, xg_InvalidDraft, xG_InvalidDraft, xs_InvalidDraft, xC_InvalidDraft, xP_InvalidDraft, xT_InvalidDraft, xM_InvalidDraft⟩ (kit_own xi_NothingToUndo xt_NothingToUndo xo_InvalidDraft_NothingToUndo hv_InvalidDraft_NothingToUndo) (by decide +kernel) (IsvF.cons (b := false) (PySem.W.mg_of X G xa_InvalidOperation) ⟨xi_InvalidOperation, xg_InvalidOperation, xG_InvalidOperation, xs_InvalidOperation, xC_InvalidOperation, xP_InvalidOperation, xT_InvalidOperation, xM_InvalidOperation⟩ (kit_own xi_NothingToUndo xt_NothingToUndo xo_InvalidOperation_NothingToUndo hv_InvalidOperation_NothingToUndo) (by decide +kernel) (IsvF.cons (b := false) (PySem.W.mg_of X G xa_ParseError) ⟨xi_ParseError, xg_ParseError, xG_ParseError, xs_ParseError, xC_ParseError, xP_ParseError, xT_ParseError, xM_ParseError⟩ (kit_own xi_NothingToUndo xt_NothingToUndo xo_ParseError_NothingToUndo hv_ParseError_NothingToUndo) (by decide +kernel) (IsvF.cons (b := false) (PySem.W.mg_of X G xa_UnknownWord) ⟨xi_UnknownWord, xg_UnknownWord, xG_UnknownWord, xs_UnknownWord, xC_UnknownWord, xP_UnknownWord, xT_UnknownWord, xM_UnknownWord⟩ (kit_own xi_NothingToUndo xt_NothingToUndo xo_UnknownWord_NothingToUndo hv_UnknownWord_NothingToUndo) (by decide +kernel) (IsvF.cons (b := false) (PySem.W.mg_of X G xa_NoProgram) ⟨xi_NoProgram, xg_NoProgram, xG_NoProgram, xs_NoProgram, xC_NoProgram, xP_NoProgram, xT_NoProgram, xM_NoProgram⟩ (kit_own xi_NothingToUndo xt_NothingToUndo xo_NoProgram_NothingToUndo hv_NoProgram_NothingToUndo) (by decide +kernel) (IsvF.cons (b := true) (PySem.W.mg_of X G xa_NothingToUndo) ⟨xi_NothingToUndo, xg_NothingToUndo, xG_NothingToUndo, xs_NothingToUndo, xC_NothingToUndo, xP_NothingToUndo, xT_NothingToUndo, xM_NothingToUndo⟩ kit_self (by decide +kernel) (IsvF.cons (b := false) (PySem.W.mg_of X G xa_TooMany) ⟨xi_TooMany, xg_TooMany, xG_TooMany, xs_TooMany, xC_TooMany, xP_TooMany, xT_TooMany, xM_TooMany⟩ (kit_own xi_NothingToUndo xt_NothingToUndo xo_TooMany_NothingToUndo hv_TooMany_NothingToUndo) (by decide +kernel) (IsvF.cons (b := false) (PySem.W.mg_of X G xa_Refused) ⟨xi_Refused, xg_Refused, xG_Refused, xs_Refused, xC_Refused, xP_Refused, xT_Refused, xM_Refused⟩ (kit_own xi_NothingToUndo xt_NothingToUndo xo_Refused_NothingToUndo hv_Refused_NothingToUndo) (by decide +kernel) (IsvF.cons (b := false) (PySem.W.mg_of X G xa_InvalidNumber) ⟨xi_InvalidNumber, xg_InvalidNumber, xG_InvalidNumber, xs_InvalidNumber, xC_InvalidNumber, xP_InvalidNumber, xT_InvalidNumber, xM_InvalidNumber⟩ (kit_own xi_NothingToUndo xt_NothingToUndo xo_InvalidNumber_NothingToUndo hv_InvalidNumber_NothingToUndo) (by decide +kernel) (IsvF.nil (.own _)))))))))))))))))),
    (IsvF.cons (b := false) (PySem.W.mg_of X G xa_BuildError) ⟨xi_BuildError, xg_BuildError, xG_BuildError, xs_BuildError, xC_BuildError, xP_BuildError, xT_BuildError, xM_BuildError⟩ (kit_own xi_TooMany xt_TooMany xo_BuildError_TooMany hv_BuildError_TooMany) (by decide +kernel) (IsvF.cons (b := false) (PySem.W.mg_of X G xa_InvalidWord) ⟨xi_InvalidWord, xg_InvalidWord, xG_InvalidWord, xs_InvalidWord, xC_InvalidWord, xP_InvalidWord, xT_InvalidWord, xM_InvalidWord⟩ (kit_own xi_TooMany xt_TooMany xo_InvalidWord_TooMany hv_InvalidWord_TooMany) (by decide +kernel) (IsvF.cons (b := false) (PySem.W.mg_of X G xa_InvalidType) ⟨xi_InvalidType, xg_InvalidType, xG_InvalidType, xs_InvalidType, xC_InvalidType, xP_InvalidType, xT_InvalidType, xM_InvalidType⟩ (kit_own xi_TooMany xt_TooMany xo_InvalidType_TooMany hv_InvalidType_TooMany) (by decide +kernel) (IsvF.cons (b := false) (PySem.W.mg_of X G xa_InvalidLibrary) ⟨xi_InvalidLibrary, xg_InvalidLibrary, xG_InvalidLibrary, xs_InvalidLibrary, xC_InvalidLibrary, xP_InvalidLibrary, xT_InvalidLibrary, xM_InvalidLibrary⟩ (kit_own xi_TooMany xt_TooMany xo_InvalidLibrary_TooMany hv_InvalidLibrary_TooMany) (by decide +kernel) (IsvF.cons (b := false) (PySem.W.mg_of X G xa_InvalidProgram) ⟨xi_InvalidProgram, xg_InvalidProgram, xG_InvalidProgram, xs_InvalidProgram, xC_InvalidProgram, xP_InvalidProgram, xT_InvalidProgram, xM_InvalidProgram⟩ (kit_own xi_TooMany xt_TooMany xo_InvalidProgram_TooMany hv_InvalidProgram_TooMany) (by decide +kernel) (IsvF.cons (b := false) (PySem.W.mg_of X G xa_InvalidQuestion) ⟨xi_InvalidQuestion, xg_InvalidQuestion, xG_InvalidQuestion, xs_InvalidQuestion, xC_InvalidQuestion, xP_InvalidQuestion, xT_InvalidQuestion, xM_InvalidQuestion⟩ (kit_own xi_TooMany xt_TooMany xo_InvalidQuestion_TooMany hv_InvalidQuestion_TooMany) (by decide +kernel) (IsvF.cons (b := false) (PySem.W.mg_of X G xa_InvalidRoom) ⟨xi_InvalidRoom, xg_InvalidRoom, xG_InvalidRoom, xs_InvalidRoom, xC_InvalidRoom, xP_InvalidRoom, xT_InvalidRoom, xM_InvalidRoom⟩ (kit_own xi_TooMany xt_TooMany xo_InvalidRoom_TooMany hv_InvalidRoom_TooMany) (by decide +kernel) (IsvF.cons (b := false) (PySem.W.mg_of X G xa_InvalidDraft) ⟨xi_InvalidDraft, xg_InvalidDraft, xG_InvalidDraft, xs_InvalidDraft, xC_InvalidDraft, xP_InvalidDraft, xT_InvalidDraft, xM_InvalidDraft⟩ (kit_own xi_TooMany xt_TooMany xo_InvalidDraft_TooMany hv_InvalidDraft_TooMany) (by decide +kernel) (IsvF.cons (b := false) (PySem.W.mg_of X G xa_InvalidOperation) ⟨xi_InvalidOperation, xg_InvalidOperation, xG_InvalidOperation, xs_InvalidOperation, xC_InvalidOperation, xP_InvalidOperation, xT_InvalidOperation, xM_InvalidOperation⟩ (kit_own xi_TooMany xt_TooMany xo_InvalidOperation_TooMany hv_InvalidOperation_TooMany) (by decide +kernel) (IsvF.cons (b := false) (PySem.W.mg_of X G xa_ParseError) ⟨xi_ParseError, xg_ParseError, xG_ParseError, xs_ParseError, xC_ParseError, xP_ParseError, xT_ParseError, xM_ParseError⟩ (kit_own xi_TooMany xt_TooMany xo_ParseError_TooMany hv_ParseError_TooMany) (by decide +kernel) (IsvF.cons (b := false) (PySem.W.mg_of X G xa_UnknownWord) ⟨xi_UnknownWord, xg_UnknownWord, xG_UnknownWord, xs_UnknownWord, xC_UnknownWord, xP_UnknownWord, xT_UnknownWord, xM_UnknownWord⟩ (kit_own xi_TooMany xt_TooMany xo_UnknownWord_TooMany hv_UnknownWord_TooMany) (by decide +kernel) (IsvF.cons (b := false) (PySem.W.mg_of X G xa_NoProgram) ⟨xi_NoProgram, xg_NoProgram, xG_NoProgram, xs_NoProgram, xC_NoProgram, xP_NoProgram, xT_NoProgram, xM_NoProgram⟩ (kit_own xi_TooMany xt_TooMany xo_NoProgram_TooMany hv_NoProgram_TooMany) (by decide +kernel) (IsvF.cons (b := false) (PySem.W.mg_of X G xa_NothingToUndo) ⟨xi_NothingToUndo, xg_NothingToUndo, xG_NothingToUndo, xs_NothingToUndo, xC_NothingToUndo, xP_NothingToUndo, xT_NothingToUndo, xM_NothingToUndo⟩ (kit_own xi_TooMany xt_TooMany xo_NothingToUndo_TooMany hv_NothingToUndo_TooMany) (by decide +kernel) (IsvF.cons (b := true) (PySem.W.mg_of X G xa_TooMany) ⟨xi_TooMany, xg_TooMany, xG_TooMany, xs_TooMany, xC_TooMany, xP_TooMany, xT_TooMany, xM_TooMany⟩ kit_self (by decide +kernel) (IsvF.cons (b := false) (PySem.W.mg_of X G xa_Refused) ⟨xi_Refused, xg_Refused, xG_Refused, xs_Refused, xC_Refused, xP_Refused, xT_Refused, xM_Refused⟩ (kit_own xi_TooMany xt_TooMany xo_Refused_TooMany hv_Refused_TooMany) (by decide +kernel) (IsvF.cons (b := false) (PySem.W.mg_of X G xa_InvalidNumber) ⟨xi_InvalidNumber, xg_InvalidNumber, xG_InvalidNumber, xs_InvalidNumber, xC_InvalidNumber, xP_InvalidNumber, xT_InvalidNumber, xM_InvalidNumber⟩ (kit_own xi_TooMany xt_TooMany xo_InvalidNumber_TooMany hv_InvalidNumber_TooMany) (by decide +kernel) (IsvF.nil (.own _)))))))))))))))))),
    (IsvF.cons (b := false) (PySem.W.mg_of X G xa_BuildError) ⟨xi_BuildError, xg_BuildError, xG_BuildError, xs_BuildError, xC_BuildError, xP_BuildError, xT_BuildError, xM_BuildError⟩ (kit_own xi_Refused xt_Refused xo_BuildError_Refused hv_BuildError_Refused) (by decide +kernel) (IsvF.cons (b := false) (PySem.W.mg_of X G xa_InvalidWord) ⟨xi_InvalidWord, xg_InvalidWord, xG_InvalidWord, xs_InvalidWord, xC_InvalidWord, xP_InvalidWord, xT_InvalidWord, xM_InvalidWord⟩ (kit_own xi_Refused xt_Refused xo_InvalidWord_Refused hv_InvalidWord_Refused) (by decide +kernel) (IsvF.cons (b := false) (PySem.W.mg_of X G xa_InvalidType) ⟨xi_InvalidType, xg_InvalidType, xG_InvalidType, xs_InvalidType, xC_InvalidType, xP_InvalidType, xT_InvalidType, xM_InvalidType⟩ (kit_own xi_Refused xt_Refused xo_InvalidType_Refused hv_InvalidType_Refused) (by decide +kernel) (IsvF.cons (b := false) (PySem.W.mg_of X G xa_InvalidLibrary) ⟨xi_InvalidLibrary, xg_InvalidLibrary, xG_InvalidLibrary, xs_InvalidLibrary, xC_InvalidLibrary, xP_InvalidLibrary, xT_InvalidLibrary, xM_InvalidLibrary⟩ (kit_own xi_Refused xt_Refused xo_InvalidLibrary_Refused hv_InvalidLibrary_Refused) (by decide +kernel) (IsvF.cons (b := false) (PySem.W.mg_of X G xa_InvalidProgram) ⟨xi_InvalidProgram, xg_InvalidProgram, xG_InvalidProgram, xs_InvalidProgram, xC_InvalidProgram, xP_InvalidProgram, xT_InvalidProgram, xM_InvalidProgram⟩ (kit_own xi_Refused xt_Refused xo_InvalidProgram_Refused hv_InvalidProgram_Refused) (by decide +kernel) (IsvF.cons (b := false) (PySem.W.mg_of X G xa_InvalidQuestion) ⟨xi_InvalidQuestion, xg_InvalidQuestion, xG_InvalidQuestion, xs_InvalidQuestion, xC_InvalidQuestion, xP_InvalidQuestion, xT_InvalidQuestion, xM_InvalidQuestion⟩ (kit_own xi_Refused xt_Refused xo_InvalidQuestion_Refused hv_InvalidQuestion_Refused) (by decide +kernel) (IsvF.cons (b := false) (PySem.W.mg_of X G xa_InvalidRoom) ⟨xi_InvalidRoom, xg_InvalidRoom, xG_InvalidRoom, xs_InvalidRoom, xC_InvalidRoom, xP_InvalidRoom, xT_InvalidRoom, xM_InvalidRoom⟩ (kit_own xi_Refused xt_Refused xo_InvalidRoom_Refused hv_InvalidRoom_Refused) (by decide +kernel) (IsvF.cons (b := false) (PySem.W.mg_of X G xa_InvalidDraft) ⟨xi_InvalidDraft, xg_InvalidDraft, xG_InvalidDraft, xs_InvalidDraft, xC_InvalidDraft, xP_InvalidDraft, xT_InvalidDraft, xM_InvalidDraft⟩ (kit_own xi_Refused xt_Refused xo_InvalidDraft_Refused hv_InvalidDraft_Refused) (by decide +kernel) (IsvF.cons (b := false) (PySem.W.mg_of X G xa_InvalidOperation) ⟨xi_InvalidOperation, xg_InvalidOperation, xG_InvalidOperation, xs_InvalidOperation, xC_InvalidOperation, xP_InvalidOperation, xT_InvalidOperation, xM_InvalidOperation⟩ (kit_own xi_Refused xt_Refused xo_InvalidOperation_Refused hv_InvalidOperation_Refused) (by decide +kernel) (IsvF.cons (b := false) (PySem.W.mg_of X G xa_ParseError) ⟨xi_ParseError, xg_ParseError, xG_ParseError, xs_ParseError, xC_ParseError, xP_ParseError, xT_ParseError, xM_ParseError⟩ (kit_own xi_Refused xt_Refused xo_ParseError_Refused hv_ParseError_Refused) (by decide +kernel) (IsvF.cons (b := false) (PySem.W.mg_of X G xa_UnknownWord) ⟨xi_UnknownWord, xg_UnknownWord, xG_UnknownWord, xs_UnknownWord, xC_UnknownWord, xP_UnknownWord, xT_UnknownWord, xM_UnknownWord⟩ (kit_own xi_Refused xt_Refused xo_UnknownWord_Refused hv_UnknownWord_Refused) (by decide +kernel) (IsvF.cons (b := false) (PySem.W.mg_of X G xa_NoProgram) ⟨xi_NoProgram, xg_NoProgram, xG_NoProgram, xs_NoProgram, xC_NoProgram, xP_NoProgram, xT_NoProgram, xM_NoProgram⟩ (kit_own xi_Refused xt_Refused xo_NoProgram_Refused hv_NoProgram_Refused) (by decide +kernel) (IsvF.cons (b := false) (PySem.W.mg_of X G xa_NothingToUndo) ⟨xi_NothingToUndo, xg_NothingToUndo, xG_NothingToUndo, xs_NothingToUndo, xC_NothingToUndo, xP_NothingToUndo, xT_NothingToUndo, xM_NothingToUndo⟩ (kit_own xi_Refused xt_Refused xo_NothingToUndo_Refused hv_NothingToUndo_Refused) (by decide +kernel) (IsvF.cons (b := false) (PySem.W.mg_of X G xa_TooMany) ⟨xi_TooMany, xg_TooMany, xG_TooMany, xs_TooMany, xC_TooMany, xP_TooMany, xT_TooMany, xM_TooMany⟩ (kit_own xi_Refused xt_Refused xo_TooMany_Refused hv_TooMany_Refused) (by decide +kernel) (IsvF.cons (b := true) (PySem.W.mg_of X G xa_Refused) ⟨xi_Refused, xg_Refused, xG_Refused, xs_Refused, xC_Refused, xP_Refused, xT_Refused, xM_Refused⟩ kit_self (by decide +kernel) (IsvF.cons (b := false) (PySem.W.mg_of X G xa_InvalidNumber) ⟨xi_InvalidNumber, xg_InvalidNumber, xG_InvalidNumber, xs_InvalidNumber, xC_InvalidNumber, xP_InvalidNumber, xT_InvalidNumber, xM_InvalidNumber⟩ (kit_own xi_Refused xt_Refused xo_InvalidNumber_Refused hv_InvalidNumber_Refused) (by decide +kernel) (IsvF.nil (.own _)))))))))))))))))),
    (IsvF.cons (b := false) (PySem.W.mg_of X G xa_BuildError) ⟨xi_BuildError, xg_BuildError, xG_BuildError, xs_BuildError, xC_BuildError, xP_BuildError, xT_BuildError, xM_BuildError⟩ (kit_own xi_InvalidNumber xt_InvalidNumber xo_BuildError_InvalidNumber hv_BuildError_InvalidNumber) (by decide +kernel) (IsvF.cons (b := false) (PySem.W.mg_of X G xa_InvalidWord) ⟨xi_InvalidWord, xg_InvalidWord, xG_InvalidWord, xs_InvalidWord, xC_InvalidWord, xP_InvalidWord, xT_InvalidWord, xM_InvalidWord⟩ (kit_own xi_InvalidNumber xt_InvalidNumber xo_InvalidWord_InvalidNumber hv_InvalidWord_InvalidNumber) (by decide +kernel) (IsvF.cons (b := false) (PySem.W.mg_of X G xa_InvalidType) ⟨xi_InvalidType, xg_InvalidType, xG_InvalidType, xs_InvalidType, xC_InvalidType, xP_InvalidType, xT_InvalidType, xM_InvalidType⟩ (kit_own xi_InvalidNumber xt_InvalidNumber xo_InvalidType_InvalidNumber hv_InvalidType_InvalidNumber) (by decide +kernel) (IsvF.cons (b := false) (PySem.W.mg_of X G xa_InvalidLibrary) ⟨xi_InvalidLibrary, xg_InvalidLibrary, xG_InvalidLibrary, xs_InvalidLibrary, xC_InvalidLibrary, xP_InvalidLibrary, xT_InvalidLibrary, xM_InvalidLibrary⟩ (kit_own xi_InvalidNumber xt_InvalidNumber xo_InvalidLibrary_InvalidNumber hv_InvalidLibrary_InvalidNumber) (by decide +kernel) (IsvF.cons (b := false) (PySem.W.mg_of X G xa_InvalidProgram) ⟨xi_InvalidProgram, xg_InvalidProgram, xG_InvalidProgram, xs_InvalidProgram, xC_InvalidProgram, xP_InvalidProgram, xT_InvalidProgram, xM_InvalidProgram⟩ (kit_own xi_InvalidNumber xt_InvalidNumber xo_InvalidProgram_InvalidNumber hv_InvalidProgram_InvalidNumber) (by decide +kernel) (IsvF.cons (b := false) (PySem.W.mg_of X G xa_InvalidQuestion) ⟨xi_InvalidQuestion, xg_InvalidQuestion, xG_InvalidQuestion, xs_InvalidQuestion, xC_InvalidQuestion, xP_InvalidQuestion, xT_InvalidQuestion, xM_InvalidQuestion⟩ (kit_own xi_InvalidNumber xt_InvalidNumber xo_InvalidQuestion_InvalidNumber hv_InvalidQuestion_InvalidNumber) (by decide +kernel) (IsvF.cons (b := false) (PySem.W.mg_of X G xa_InvalidRoom) ⟨xi_InvalidRoom, xg_InvalidRoom, xG_InvalidRoom, xs_InvalidRoom, xC_InvalidRoom, xP_InvalidRoom, xT_InvalidRoom, xM_InvalidRoom⟩ (kit_own xi_InvalidNumber xt_InvalidNumber xo_InvalidRoom_InvalidNumber hv_InvalidRoom_InvalidNumber) (by decide +kernel) (IsvF.cons (b := false) (PySem.W.mg_of X G xa_InvalidDraft) ⟨xi_InvalidDraft, xg_InvalidDraft, xG_InvalidDraft, xs_InvalidDraft, xC_InvalidDraft, xP_InvalidDraft, xT_InvalidDraft, xM_InvalidDraft⟩ (kit_own xi_InvalidNumber xt_InvalidNumber xo_InvalidDraft_InvalidNumber hv_InvalidDraft_InvalidNumber) (by decide +kernel) (IsvF.cons (b := false) (PySem.W.mg_of X G xa_InvalidOperation) ⟨xi_InvalidOperation, xg_InvalidOperation, xG_InvalidOperation, xs_InvalidOperation, xC_InvalidOperation, xP_InvalidOperation, xT_InvalidOperation, xM_InvalidOperation⟩ (kit_own xi_InvalidNumber xt_InvalidNumber xo_InvalidOperation_InvalidNumber hv_InvalidOperation_InvalidNumber) (by decide +kernel) (IsvF.cons (b := false) (PySem.W.mg_of X G xa_ParseError) ⟨xi_ParseError, xg_ParseError, xG_ParseError, xs_ParseError, xC_ParseError, xP_ParseError, xT_ParseError, xM_ParseError⟩ (kit_own xi_InvalidNumber xt_InvalidNumber xo_ParseError_InvalidNumber hv_ParseError_InvalidNumber) (by decide +kernel) (IsvF.cons (b := false) (PySem.W.mg_of X G xa_UnknownWord) ⟨xi_UnknownWord, xg_UnknownWord, xG_UnknownWord, xs_UnknownWord, xC_UnknownWord, xP_UnknownWord, xT_UnknownWord, xM_UnknownWord⟩ (kit_own xi_InvalidNumber xt_InvalidNumber xo_UnknownWord_InvalidNumber hv_UnknownWord_InvalidNumber) (by decide +kernel) (IsvF.cons (b := false) (PySem.W.mg_of X G xa_NoProgram) ⟨xi_NoProgram, xg_NoProgram, xG_NoProgram, xs_NoProgram, xC_NoProgram, xP_NoProgram, xT_NoProgram, xM_NoProgram⟩ (kit_own xi_InvalidNumber xt_InvalidNumber xo_NoProgram_InvalidNumber hv_NoProgram_InvalidNumber) (by decide +kernel) (IsvF.cons (b := false) (PySem.W.mg_of X G xa_NothingToUndo) ⟨xi_NothingToUndo, xg_NothingToUndo, xG_NothingToUndo, xs_NothingToUndo, xC_NothingToUndo, xP_NothingToUndo, xT_NothingToUndo, xM_NothingToUndo⟩ (kit_own xi_InvalidNumber xt_InvalidNumber xo_NothingToUndo_InvalidNumber hv_NothingToUndo_InvalidNumber) (by decide +kernel) (IsvF.cons (b := false) (PySem.W.mg_of X G xa_TooMany) ⟨xi_TooMany, xg_TooMany, xG_TooMany, xs_TooMany, xC_TooMany, xP_TooMany, xT_TooMany, xM_TooMany⟩ (kit_own xi_InvalidNumber xt_InvalidNumber xo_TooMany_InvalidNumber hv_TooMany_InvalidNumber) (by decide +kernel) (IsvF.cons (b := false) (PySem.W.mg_of X G xa_Refused) ⟨xi_Refused, xg_Refused, xG_Refused, xs_Refused, xC_Refused, xP_Refused, xT_Refused, xM_Refused⟩ (kit_own xi_InvalidNumber xt_InvalidNumber xo_Refused_InvalidNumber hv_Refused_InvalidNumber) (by decide +kernel) (IsvF.cons (b := true) (PySem.W.mg_of X G xa_InvalidNumber) ⟨xi_InvalidNumber, xg_InvalidNumber, xG_InvalidNumber, xs_InvalidNumber, xC_InvalidNumber, xP_InvalidNumber, xT_InvalidNumber, xM_InvalidNumber⟩ kit_self (by decide +kernel) (IsvF.nil (.own _)))))))))))))))))),
    (IsvF.cons (b := false) (PySem.W.mg_of X G xa_BuildError) ⟨xi_BuildError, xg_BuildError, xG_BuildError, xs_BuildError, xC_BuildError, xP_BuildError, xT_BuildError, xM_BuildError⟩ (kit_blt (by decide +kernel) xo_BuildError_KeyError) (by decide +kernel) (IsvF.cons (b := false) (PySem.W.mg_of X G xa_InvalidWord) ⟨xi_InvalidWord, xg_InvalidWord, xG_InvalidWord, xs_InvalidWord, xC_InvalidWord, xP_InvalidWord, xT_InvalidWord, xM_InvalidWord⟩ (kit_blt (by decide +kernel) xo_InvalidWord_KeyError) (by decide +kernel) (IsvF.cons (b := false) (PySem.W.mg_of X G xa_InvalidType) ⟨xi_InvalidType, xg_InvalidType, xG_InvalidType, xs_InvalidType, xC_InvalidType, xP_InvalidType, xT_InvalidType, xM_InvalidType⟩ (kit_blt (by decide +kernel) xo_InvalidType_KeyError) (by decide +kernel) (IsvF.cons (b := false) (PySem.W.mg_of X G xa_InvalidLibrary) ⟨xi_InvalidLibrary, xg_InvalidLibrary, xG_InvalidLibrary, xs_InvalidLibrary, xC_InvalidLibrary, xP_InvalidLibrary, xT_InvalidLibrary, xM_InvalidLibrary⟩ (kit_blt (by decide +kernel) xo_InvalidLibrary_KeyError) (by decide +kernel) (IsvF.cons (b := false) (PySem.W.mg_of X G xa_InvalidProgram) ⟨xi_InvalidProgram, xg_InvalidProgram, xG_InvalidProgram, xs_InvalidProgram, xC_InvalidProgram, xP_InvalidProgram, xT_InvalidProgram, xM_InvalidProgram⟩ (kit_blt (by decide +kernel) xo_InvalidProgram_KeyError) (by decide +kernel) (IsvF.cons (b := false) (PySem.W.mg_of X G xa_InvalidQuestion) ⟨xi_InvalidQuestion, xg_InvalidQuestion, xG_InvalidQuestion, xs_InvalidQuestion, xC_InvalidQuestion, xP_InvalidQuestion, xT_InvalidQuestion, xM_InvalidQuestion⟩ (kit_blt (by decide +kernel) xo_InvalidQuestion_KeyError) (by decide +kernel) (IsvF.cons (b := false) (PySem.W.mg_of X G xa_InvalidRoom) ⟨xi_InvalidRoom, xg_InvalidRoom, xG_InvalidRoom, xs_InvalidRoom, xC_InvalidRoom, xP_InvalidRoom, xT_InvalidRoom, xM_InvalidRoom⟩ (kit_blt (by decide +kernel) xo_InvalidRoom_KeyError) (by decide +kernel) (IsvF.cons (b := false) (PySem.W.mg_of X G xa_InvalidDraft) ⟨xi_InvalidDraft, xg_InvalidDraft, xG_InvalidDraft, xs_InvalidDraft, xC_InvalidDraft, xP_InvalidDraft, xT_InvalidDraft, xM_InvalidDraft⟩ (kit_blt (by decide +kernel) xo_InvalidDraft_KeyError) (by decide +kernel) (IsvF.cons (b := false) (PySem.W.mg_of X G xa_InvalidOperation) ⟨xi_InvalidOperation, xg_InvalidOperation, xG_InvalidOperation, xs_InvalidOperation, xC_InvalidOperation, xP_InvalidOperation, xT_InvalidOperation, xM_InvalidOperation⟩ (kit_blt (by decide +kernel) xo_InvalidOperation_KeyError) (by decide +kernel) (IsvF.cons (b := false) (PySem.W.mg_of X G xa_ParseError) ⟨xi_ParseError, xg_ParseError, xG_ParseError, xs_ParseError, xC_ParseError, xP_ParseError, xT_ParseError, xM_ParseError⟩ (kit_blt (by decide +kernel) xo_ParseError_KeyError) (by decide +kernel) (IsvF.cons (b := true) (PySem.W.mg_of X G xa_UnknownWord) ⟨xi_UnknownWord, xg_UnknownWord, xG_UnknownWord, xs_UnknownWord, xC_UnknownWord, xP_UnknownWord, xT_UnknownWord, xM_UnknownWord⟩ (kit_blt (by decide +kernel) xo_UnknownWord_KeyError) (by decide +kernel) (IsvF.cons (b := false) (PySem.W.mg_of X G xa_NoProgram) ⟨xi_NoProgram, xg_NoProgram, xG_NoProgram, xs_NoProgram, xC_NoProgram, xP_NoProgram, xT_NoProgram, xM_NoProgram⟩ (kit_blt (by decide +kernel) xo_NoProgram_KeyError) (by decide +kernel) (IsvF.cons (b := false) (PySem.W.mg_of X G xa_NothingToUndo) ⟨xi_NothingToUndo, xg_NothingToUndo, xG_NothingToUndo, xs_NothingToUndo, xC_NothingToUndo, xP_NothingToUndo, xT_NothingToUndo, xM_NothingToUndo⟩ (kit_blt (by decide +kernel) xo_NothingToUndo_KeyError) (by decide +kernel) (IsvF.cons (b := false) (PySem.W.mg_of X G xa_TooMany) ⟨xi_TooMany, xg_TooMany, xG_TooMany, xs_TooMany, xC_TooMany, xP_TooMany, xT_TooMany, xM_TooMany⟩ (kit_blt (by decide +kernel) xo_TooMany_KeyError) (by decide +kernel) (IsvF.cons (b := false) (PySem.W.mg_of X G xa_Refused) ⟨xi_Refused, xg_Refused, xG_Refused, xs_Refused, xC_Refused, xP_Refused, xT_Refused, xM_Refused⟩ (kit_blt (by decide +kernel) xo_Refused_KeyError) (by decide +kernel) (IsvF.cons (b := false) (PySem.W.mg_of X G xa_InvalidNumber) ⟨xi_InvalidNumber, xg_InvalidNumber, xG_InvalidNumber, xs_InvalidNumber, xC_InvalidNumber, xP_InvalidNumber, xT_InvalidNumber, xM_InvalidNumber⟩ (kit_blt (by decide +kernel) xo_InvalidNumber_KeyError) (by decide +kernel) (IsvF.nil (.ty _)))))))))))))))))),
    (IsvF.cons (b := false) (PySem.W.mg_of X G xa_BuildError) ⟨xi_BuildError, xg_BuildError, xG_BuildError, xs_BuildError, xC_BuildError, xP_BuildError, xT_BuildError, xM_BuildError⟩ (kit_blt (by decide +kernel) xo_BuildError_IndexError) (by decide +kernel) (IsvF.cons (b := false) (PySem.W.mg_of X G xa_InvalidWord) ⟨xi_InvalidWord, xg_InvalidWord, xG_InvalidWord, xs_InvalidWord, xC_InvalidWord, xP_InvalidWord, xT_InvalidWord, xM_InvalidWord⟩ (kit_blt (by decide +kernel) xo_InvalidWord_IndexError) (by decide +kernel) (IsvF.cons (b := false) (PySem.W.mg_of X G xa_InvalidType) ⟨xi_InvalidType, xg_InvalidType, xG_InvalidType, xs_InvalidType, xC_InvalidType, xP_InvalidType, xT_InvalidType, xM_InvalidType⟩ (kit_blt (by decide +kernel) xo_InvalidType_IndexError) (by decide +kernel) (IsvF.cons (b := false) (PySem.W.mg_of X G xa_InvalidLibrary) ⟨xi_InvalidLibrary, xg_InvalidLibrary, xG_InvalidLibrary, xs_InvalidLibrary, xC_InvalidLibrary, xP_InvalidLibrary, xT_InvalidLibrary, xM_InvalidLibrary⟩ (kit_blt (by decide +kernel) xo_InvalidLibrary_IndexError) (by decide +kernel) (IsvF.cons (b := false) (PySem.W.mg_of X G xa_InvalidProgram) ⟨xi_InvalidProgram, xg_InvalidProgram, xG_InvalidProgram, xs_InvalidProgram, xC_InvalidProgram, xP_InvalidProgram, xT_InvalidProgram, xM_InvalidProgram⟩ (kit_blt (by decide +kernel) xo_InvalidProgram_IndexError) (by decide +kernel) (IsvF.cons (b := false) (PySem.W.mg_of X G xa_InvalidQuestion) ⟨xi_InvalidQuestion, xg_InvalidQuestion, xG_InvalidQuestion, xs_InvalidQuestion, xC_InvalidQuestion, xP_InvalidQuestion, xT_InvalidQuestion, xM_InvalidQuestion⟩ (kit_blt (by decide +kernel) xo_InvalidQuestion_IndexError) (by decide +kernel) (IsvF.cons (b := false) (PySem.W.mg_of X G xa_InvalidRoom) ⟨xi_InvalidRoom, xg_InvalidRoom, xG_InvalidRoom, xs_InvalidRoom, xC_InvalidRoom, xP_InvalidRoom, xT_InvalidRoom, xM_InvalidRoom⟩ (kit_blt (by decide +kernel) xo_InvalidRoom_IndexError) (by decide +kernel) (IsvF.cons (b := false) (PySem.W.mg_of X G xa_InvalidDraft) ⟨xi_InvalidDraft, xg_InvalidDraft, xG_InvalidDraft, xs_InvalidDraft, xC_InvalidDraft, xP_InvalidDraft, xT_InvalidDraft, xM_InvalidDraft⟩ (kit_blt (by decide +kernel) xo_InvalidDraft_IndexError) (by decide +kernel) (IsvF.cons (b := false) (PySem.W.mg_of X G xa_InvalidOperation) ⟨xi_InvalidOperation, xg_InvalidOperation, xG_InvalidOperation, xs_InvalidOperation, xC_InvalidOperation, xP_InvalidOperation, xT_InvalidOperation, xM_InvalidOperation⟩ (kit_blt (by decide +kernel) xo_InvalidOperation_IndexError) (by decide +kernel) (IsvF.cons (b := false) (PySem.W.mg_of X G xa_ParseError) ⟨xi_ParseError, xg_ParseError, xG_ParseError, xs_ParseError, xC_ParseError, xP_ParseError, xT_ParseError, xM_ParseError⟩ (kit_blt (by decide +kernel) xo_ParseError_IndexError) (by decide +kernel) (IsvF.cons (b := false) (PySem.W.mg_of X G xa_UnknownWord) ⟨xi_UnknownWord, xg_UnknownWord, xG_UnknownWord, xs_UnknownWord, xC_UnknownWord, xP_UnknownWord, xT_UnknownWord, xM_UnknownWord⟩ (kit_blt (by decide +kernel) xo_UnknownWord_IndexError) (by decide +kernel) (IsvF.cons (b := false) (PySem.W.mg_of X G xa_NoProgram) ⟨xi_NoProgram, xg_NoProgram, xG_NoProgram, xs_NoProgram, xC_NoProgram, xP_NoProgram, xT_NoProgram, xM_NoProgram⟩ (kit_blt (by decide +kernel) xo_NoProgram_IndexError) (by decide +kernel) (IsvF.cons (b := true) (PySem.W.mg_of X G xa_NothingToUndo) ⟨xi_NothingToUndo, xg_NothingToUndo, xG_NothingToUndo, xs_NothingToUndo, xC_NothingToUndo, xP_NothingToUndo, xT_NothingToUndo, xM_NothingToUndo⟩ (kit_blt (by decide +kernel) xo_NothingToUndo_IndexError) (by decide +kernel) (IsvF.cons (b := false) (PySem.W.mg_of X G xa_TooMany) ⟨xi_TooMany, xg_TooMany, xG_TooMany, xs_TooMany, xC_TooMany, xP_TooMany, xT_TooMany, xM_TooMany⟩ (kit_blt (by decide +kernel) xo_TooMany_IndexError) (by decide +kernel) (IsvF.cons (b := false) (PySem.W.mg_of X G xa_Refused) ⟨xi_Refused, xg_Refused, xG_Refused, xs_Refused, xC_Refused, xP_Refused, xT_Refused, xM_Refused⟩ (kit_blt (by decide +kernel) xo_Refused_IndexError) (by decide +kernel) (IsvF.cons (b := false) (PySem.W.mg_of X G xa_InvalidNumber) ⟨xi_InvalidNumber, xg_InvalidNumber, xG_InvalidNumber, xs_InvalidNumber, xC_InvalidNumber, xP_InvalidNumber, xT_InvalidNumber, xM_InvalidNumber⟩ (kit_blt (by decide +kernel) xo_InvalidNumber_IndexError) (by decide +kernel) (IsvF.nil (.ty _)))))))))))))))))),
    (IsvF.cons (b := false) (PySem.W.mg_of X G xa_BuildError) ⟨xi_BuildError, xg_BuildError, xG_BuildError, xs_BuildError, xC_BuildError, xP_BuildError, xT_BuildError, xM_BuildError⟩ (kit_blt (by decide +kernel) xo_BuildError_LookupError) (by decide +kernel) (IsvF.cons (b := false) (PySem.W.mg_of X G xa_InvalidWord) ⟨xi_InvalidWord, xg_InvalidWord, xG_InvalidWord, xs_InvalidWord, xC_InvalidWord, xP_InvalidWord, xT_InvalidWord, xM_InvalidWord⟩ (kit_blt (by decide +kernel) xo_InvalidWord_LookupError) (by decide +kernel) (IsvF.cons (b := false) (PySem.W.mg_of X G xa_InvalidType) ⟨xi_InvalidType, xg_InvalidType, xG_InvalidType, xs_InvalidType, xC_InvalidType, xP_InvalidType, xT_InvalidType, xM_InvalidType⟩ (kit_blt (by decide +kernel) xo_InvalidType_LookupError) (by decide +kernel) (IsvF.cons (b := false) (PySem.W.mg_of X G xa_InvalidLibrary) ⟨xi_InvalidLibrary, xg_InvalidLibrary, xG_InvalidLibrary, xs_InvalidLibrary, xC_InvalidLibrary, xP_InvalidLibrary, xT_InvalidLibrary, xM_InvalidLibrary⟩ (kit_blt (by decide +kernel) xo_InvalidLibrary_LookupError) (by decide +kernel) (IsvF.cons (b := false) (PySem.W.mg_of X G xa_InvalidProgram) ⟨xi_InvalidProgram, xg_InvalidProgram, xG_InvalidProgram, xs_InvalidProgram, xC_InvalidProgram, xP_InvalidProgram, xT_InvalidProgram, xM_InvalidProgram⟩ (kit_blt (by decide +kernel) xo_InvalidProgram_LookupError) (by decide +kernel) (IsvF.cons (b := false) (PySem.W.mg_of X G xa_InvalidQuestion) ⟨xi_InvalidQuestion, xg_InvalidQuestion, xG_InvalidQuestion, xs_InvalidQuestion, xC_InvalidQuestion, xP_InvalidQuestion, xT_InvalidQuestion, xM_InvalidQuestion⟩ (kit_blt (by decide +kernel) xo_InvalidQuestion_LookupError) (by decide +kernel) (IsvF.cons (b := false) (PySem.W.mg_of X G xa_InvalidRoom) ⟨xi_InvalidRoom, xg_InvalidRoom, xG_InvalidRoom, xs_InvalidRoom, xC_InvalidRoom, xP_InvalidRoom, xT_InvalidRoom, xM_InvalidRoom⟩ (kit_blt (by decide +kernel) xo_InvalidRoom_LookupError) (by decide +kernel) (IsvF.cons (b := false) (PySem.W.mg_of X G xa_InvalidDraft) ⟨xi_InvalidDraft, xg_InvalidDraft, xG_InvalidDraft, xs_InvalidDraft, xC_InvalidDraft, xP_InvalidDraft, xT_InvalidDraft, xM_InvalidDraft⟩ (kit_blt (by decide +kernel) xo_InvalidDraft_LookupError) (by decide +kernel) (IsvF.cons (b := false) (PySem.W.mg_of X G xa_InvalidOperation) ⟨xi_InvalidOperation, xg_InvalidOperation, xG_InvalidOperation, xs_InvalidOperation, xC_InvalidOperation, xP_InvalidOperation, xT_InvalidOperation, xM_InvalidOperation⟩ (kit_blt (by decide +kernel) xo_InvalidOperation_LookupError) (by decide +kernel) (IsvF.cons (b := false) (PySem.W.mg_of X G xa_ParseError) ⟨xi_ParseError, xg_ParseError, xG_ParseError, xs_ParseError, xC_ParseError, xP_ParseError, xT_ParseError, xM_ParseError⟩ (kit_blt (by decide +kernel) xo_ParseError_LookupError) (by decide +kernel) (IsvF.cons (b := true) (PySem.W.mg_of X G xa_UnknownWord) ⟨xi_UnknownWord, xg_UnknownWord, xG_UnknownWord, xs_UnknownWord, xC_UnknownWord, xP_UnknownWord, xT_UnknownWord, xM_UnknownWord⟩ (kit_blt (by decide +kernel) xo_UnknownWord_LookupError) (by decide +kernel) (IsvF.cons (b := true) (PySem.W.mg_of X G xa_NoProgram) ⟨xi_NoProgram, xg_NoProgram, xG_NoProgram, xs_NoProgram, xC_NoProgram, xP_NoProgram, xT_NoProgram, xM_NoProgram⟩ (kit_blt (by decide +kernel) xo_NoProgram_LookupError) (by decide +kernel) (IsvF.cons (b := true) (PySem.W.mg_of X G xa_NothingToUndo) ⟨xi_NothingToUndo, xg_NothingToUndo, xG_NothingToUndo, xs_NothingToUndo, xC_NothingToUndo, xP_NothingToUndo, xT_NothingToUndo, xM_NothingToUndo⟩ (kit_blt (by decide +kernel) xo_NothingToUndo_LookupError) (by decide +kernel) (IsvF.cons (b := false) (PySem.W.mg_of X G xa_TooMany) ⟨xi_TooMany, xg_TooMany, xG_TooMany, xs_TooMany, xC_TooMany, xP_TooMany, xT_TooMany, xM_TooMany⟩ (kit_blt (by decide +kernel) xo_TooMany_LookupError) (by decide +kernel) (IsvF.cons (b := false) (PySem.W.mg_of X G xa_Refused) ⟨xi_Refused, xg_Refused, xG_Refused, xs_Refused, xC_Refused, xP_Refused, xT_Refused, xM_Refused⟩ (kit_blt (by decide +kernel) xo_Refused_LookupError) (by decide +kernel) (IsvF.cons (b := false) (PySem.W.mg_of X G xa_InvalidNumber) ⟨xi_InvalidNumber, xg_InvalidNumber, xG_InvalidNumber, xs_InvalidNumber, xC_InvalidNumber, xP_InvalidNumber, xT_InvalidNumber, xM_InvalidNumber⟩ (kit_blt (by decide +kernel) xo_InvalidNumber_LookupError) (by decide +kernel) (IsvF.nil (.ty _)))))))))))))))))),
    (IsvF.cons (b := false) (PySem.W.mg_of X G xa_BuildError) ⟨xi_BuildError, xg_BuildError, xG_BuildError, xs_BuildError, xC_BuildError, xP_BuildError, xT_BuildError, xM_BuildError⟩ (kit_blt (by decide +kernel) xo_BuildError_OverflowError) (by decide +kernel) (IsvF.cons (b := false) (PySem.W.mg_of X G xa_InvalidWord) ⟨xi_InvalidWord, xg_InvalidWord, xG_InvalidWord, xs_InvalidWord, xC_InvalidWord, xP_InvalidWord, xT_InvalidWord, xM_InvalidWord⟩ (kit_blt (by decide +kernel) xo_InvalidWord_OverflowError) (by decide +kernel) (IsvF.cons (b := false) (PySem.W.mg_of X G xa_InvalidType) ⟨xi_InvalidType, xg_InvalidType, xG_InvalidType, xs_InvalidType, xC_InvalidType, xP_InvalidType, xT_InvalidType, xM_InvalidType⟩ (kit_blt (by decide +kernel) xo_InvalidType_OverflowError) (by decide +kernel) (IsvF.cons (b := false) (PySem.W.mg_of X G xa_InvalidLibrary) ⟨xi_InvalidLibrary, xg_InvalidLibrary, xG_InvalidLibrary, xs_InvalidLibrary, xC_InvalidLibrary, xP_InvalidLibrary, xT_InvalidLibrary, xM_InvalidLibrary⟩ (kit_blt (by decide +kernel) xo_InvalidLibrary_OverflowError) (by decide +kernel) (IsvF.cons (b := false) (PySem.W.mg_of X G xa_InvalidProgram) ⟨xi_InvalidProgram, xg_InvalidProgram, xG_InvalidProgram, xs_InvalidProgram, xC_InvalidProgram, xP_InvalidProgram, xT_InvalidProgram, xM_InvalidProgram⟩ (kit_blt (by decide +kernel) xo_InvalidProgram_OverflowError) (by decide +kernel) (IsvF.cons (b := false) (PySem.W.mg_of X G xa_InvalidQuestion) ⟨xi_InvalidQuestion, xg_InvalidQuestion, xG_InvalidQuestion, xs_InvalidQuestion, xC_InvalidQuestion, xP_InvalidQuestion, xT_InvalidQuestion, xM_InvalidQuestion⟩ (kit_blt (by decide +kernel) xo_InvalidQuestion_OverflowError) (by decide +kernel) (IsvF.cons (b := false) (PySem.W.mg_of X G xa_InvalidRoom) ⟨xi_InvalidRoom, xg_InvalidRoom, xG_InvalidRoom, xs_InvalidRoom, xC_InvalidRoom, xP_InvalidRoom, xT_InvalidRoom, xM_InvalidRoom⟩ (kit_blt (by decide +kernel) xo_InvalidRoom_OverflowError) (by decide +kernel) (IsvF.cons (b := false) (PySem.W.mg_of X G xa_InvalidDraft) ⟨xi_InvalidDraft, xg_InvalidDraft, xG_InvalidDraft, xs_InvalidDraft, xC_InvalidDraft, xP_InvalidDraft, xT_InvalidDraft, xM_InvalidDraft⟩ (kit_blt (by decide +kernel) xo_InvalidDraft_OverflowError) (by decide +kernel) (IsvF.cons (b := false) (PySem.W.mg_of X G xa_InvalidOperation) ⟨xi_InvalidOperation, xg_InvalidOperation, xG_InvalidOperation, xs_InvalidOperation, xC_InvalidOperation, xP_InvalidOperation, xT_InvalidOperation, xM_InvalidOperation⟩ (kit_blt (by decide +kernel) xo_InvalidOperation_OverflowError) (by decide +kernel) (IsvF.cons (b := false) (PySem.W.mg_of X G xa_ParseError) ⟨xi_ParseError, xg_ParseError, xG_ParseError, xs_ParseError, xC_ParseError, xP_ParseError, xT_ParseError, xM_ParseError⟩ (kit_blt (by decide +kernel) xo_ParseError_OverflowError) (by decide +kernel) (IsvF.cons (b := false) (PySem.W.mg_of X G xa_UnknownWord) ⟨xi_UnknownWord, xg_UnknownWord, xG_UnknownWord, xs_UnknownWord, xC_UnknownWord, xP_UnknownWord, xT_UnknownWord, xM_UnknownWord⟩ (kit_blt (by decide +kernel) xo_UnknownWord_OverflowError) (by decide +kernel) (IsvF.cons (b := false) (PySem.W.mg_of X G xa_NoProgram) ⟨xi_NoProgram, xg_NoProgram, xG_NoProgram, xs_NoProgram, xC_NoProgram, xP_NoProgram, xT_NoProgram, xM_NoProgram⟩ (kit_blt (by decide +kernel) xo_NoProgram_OverflowError) (by decide +kernel) (IsvF.cons (b := false) (PySem.W.mg_of X G xa_NothingToUndo) ⟨xi_NothingToUndo, xg_NothingToUndo, xG_NothingToUndo, xs_NothingToUndo, xC_NothingToUndo, xP_NothingToUndo, xT_NothingToUndo, xM_NothingToUndo⟩ (kit_blt (by decide +kernel) xo_NothingToUndo_OverflowError) (by decide +kernel) (IsvF.cons (b := true) (PySem.W.mg_of X G xa_TooMany) ⟨xi_TooMany, xg_TooMany, xG_TooMany, xs_TooMany, xC_TooMany, xP_TooMany, xT_TooMany, xM_TooMany⟩ (kit_blt (by decide +kernel) xo_TooMany_OverflowError) (by decide +kernel) (IsvF.cons (b := false) (PySem.W.mg_of X G xa_Refused) ⟨xi_Refused, xg_Refused, xG_Refused, xs_Refused, xC_Refused, xP_Refused, xT_Refused, xM_Refused⟩ (kit_blt (by decide +kernel) xo_Refused_OverflowError) (by decide +kernel) (IsvF.cons (b := false) (PySem.W.mg_of X G xa_InvalidNumber) ⟨xi_InvalidNumber, xg_InvalidNumber, xG_InvalidNumber, xs_InvalidNumber, xC_InvalidNumber, xP_InvalidNumber, xT_InvalidNumber, xM_InvalidNumber⟩ (kit_blt (by decide +kernel) xo_InvalidNumber_OverflowError) (by decide +kernel) (IsvF.nil (.ty _)))))))))))))))))),
    (IsvF.cons (b := false) (PySem.W.mg_of X G xa_BuildError) ⟨xi_BuildError, xg_BuildError, xG_BuildError, xs_BuildError, xC_BuildError, xP_BuildError, xT_BuildError, xM_BuildError⟩ (kit_blt (by decide +kernel) xo_BuildError_ArithmeticError) (by decide +kernel) (IsvF.cons (b := false) (PySem.W.mg_of X G xa_InvalidWord) ⟨xi_InvalidWord, xg_InvalidWord, xG_InvalidWord, xs_InvalidWord, xC_InvalidWord, xP_InvalidWord, xT_InvalidWord, xM_InvalidWord⟩ (kit_blt (by decide +kernel) xo_InvalidWord_ArithmeticError) (by decide +kernel) (IsvF.cons (b := false) (PySem.W.mg_of X G xa_InvalidType) ⟨xi_InvalidType, xg_InvalidType, xG_InvalidType, xs_InvalidType, xC_InvalidType, xP_InvalidType, xT_InvalidType, xM_InvalidType⟩ (kit_blt (by decide +kernel) xo_InvalidType_ArithmeticError) (by decide +kernel) (IsvF.cons (b := false) (PySem.W.mg_of X G xa_InvalidLibrary) ⟨xi_InvalidLibrary, xg_InvalidLibrary, xG_InvalidLibrary, xs_InvalidLibrary, xC_InvalidLibrary, xP_InvalidLibrary, xT_InvalidLibrary, xM_InvalidLibrary⟩ (kit_blt (by decide +kernel) xo_InvalidLibrary_ArithmeticError) (by decide +kernel) (IsvF.cons (b := false) (PySem.W.mg_of X G xa_InvalidProgram) ⟨xi_InvalidProgram, xg_InvalidProgram, xG_InvalidProgram, xs_InvalidProgram, xC_InvalidProgram, xP_InvalidProgram, xT_InvalidProgram, xM_InvalidProgram⟩ (kit_blt (by decide +kernel) xo_InvalidProgram_ArithmeticError) (by decide +kernel) (IsvF.cons (b := false) (PySem.W.mg_of X G xa_InvalidQuestion) ⟨xi_InvalidQuestion, xg_InvalidQuestion, xG_InvalidQuestion, xs_InvalidQuestion, xC_InvalidQuestion, xP_InvalidQuestion, xT_InvalidQuestion, xM_InvalidQuestion⟩ (kit_blt (by decide +kernel) xo_InvalidQuestion_ArithmeticError) (by decide +kernel) (IsvF.cons (b := false) (PySem.W.mg_of X G xa_InvalidRoom) ⟨xi_InvalidRoom, xg_InvalidRoom, xG_InvalidRoom, xs_InvalidRoom, xC_InvalidRoom, xP_InvalidRoom, xT_InvalidRoom, xM_InvalidRoom⟩ (kit_blt (by decide +kernel) xo_InvalidRoom_ArithmeticError) (by decide +kernel) (IsvF.cons (b := false) (PySem.W.mg_of X G xa_InvalidDraft) ⟨xi_InvalidDraft, xg_InvalidDraft, xG_InvalidDraft, xs_InvalidDraft, xC_InvalidDraft, xP_InvalidDraft, xT_InvalidDraft, xM_InvalidDraft⟩ (kit_blt (by decide +kernel) xo_InvalidDraft_ArithmeticError) (by decide +kernel) (IsvF.cons (b := false) (PySem.W.mg_of X G xa_InvalidOperation) ⟨xi_InvalidOperation, xg_InvalidOperation, xG_InvalidOperation, xs_InvalidOperation, xC_InvalidOperation, xP_InvalidOperation, xT_InvalidOperation, xM_InvalidOperation⟩ (kit_blt (by decide +kernel) xo_InvalidOperation_ArithmeticError) (by decide +kernel) (IsvF.cons (b := false) (PySem.W.mg_of X G xa_ParseError) ⟨xi_ParseError, xg_ParseError, xG_ParseError, xs_ParseError, xC_ParseError, xP_ParseError, xT_ParseError, xM_ParseError⟩ (kit_blt (by decide +kernel) xo_ParseError_ArithmeticError) (by decide +kernel) (IsvF.cons (b := false) (PySem.W.mg_of X G xa_UnknownWord) ⟨xi_UnknownWord, xg_UnknownWord, xG_UnknownWord, xs_UnknownWord, xC_UnknownWord, xP_UnknownWord, xT_UnknownWord, xM_UnknownWord⟩ (kit_blt (by decide +kernel) xo_UnknownWord_ArithmeticError) (by decide +kernel) (IsvF.cons (b := false) (PySem.W.mg_of X G xa_NoProgram) ⟨xi_NoProgram, xg_NoProgram, xG_NoProgram, xs_NoProgram, xC_NoProgram, xP_NoProgram, xT_NoProgram, xM_NoProgram⟩ (kit_blt (by decide +kernel) xo_NoProgram_ArithmeticError) (by decide +kernel) (IsvF.cons (b := false) (PySem.W.mg_of X G xa_NothingToUndo) ⟨xi_NothingToUndo, xg_NothingToUndo, xG_NothingToUndo, xs_NothingToUndo, xC_NothingToUndo, xP_NothingToUndo, xT_NothingToUndo, xM_NothingToUndo⟩ (kit_blt (by decide +kernel) xo_NothingToUndo_ArithmeticError) (by decide +kernel) (IsvF.cons (b := true) (PySem.W.mg_of X G xa_TooMany) ⟨xi_TooMany, xg_TooMany, xG_TooMany, xs_TooMany, xC_TooMany, xP_TooMany, xT_TooMany, xM_TooMany⟩ (kit_blt (by decide +kernel) xo_TooMany_ArithmeticError) (by decide +kernel) (IsvF.cons (b := true) (PySem.W.mg_of X G xa_Refused) ⟨xi_Refused, xg_Refused, xG_Refused, xs_Refused, xC_Refused, xP_Refused, xT_Refused, xM_Refused⟩ (kit_blt (by decide +kernel) xo_Refused_ArithmeticError) (by decide +kernel) (IsvF.cons (b := false) (PySem.W.mg_of X G xa_InvalidNumber) ⟨xi_InvalidNumber, xg_InvalidNumber, xG_InvalidNumber, xs_InvalidNumber, xC_InvalidNumber, xP_InvalidNumber, xT_InvalidNumber, xM_InvalidNumber⟩ (kit_blt (by decide +kernel) xo_InvalidNumber_ArithmeticError) (by decide +kernel) (IsvF.nil (.ty _)))))))))))))))))),
    (IsvF.cons (b := false) (PySem.W.mg_of X G xa_BuildError) ⟨xi_BuildError, xg_BuildError, xG_BuildError, xs_BuildError, xC_BuildError, xP_BuildError, xT_BuildError, xM_BuildError⟩ (kit_blt (by decide +kernel) xo_BuildError_RuntimeError) (by decide +kernel) (IsvF.cons (b := false) (PySem.W.mg_of X G xa_InvalidWord) ⟨xi_InvalidWord, xg_InvalidWord, xG_InvalidWord, xs_InvalidWord, xC_InvalidWord, xP_InvalidWord, xT_InvalidWord, xM_InvalidWord⟩ (kit_blt (by decide +kernel) xo_InvalidWord_RuntimeError) (by decide +kernel) (IsvF.cons (b := false) (PySem.W.mg_of X G xa_InvalidType) ⟨xi_InvalidType, xg_InvalidType, xG_InvalidType, xs_InvalidType, xC_InvalidType, xP_InvalidType, xT_InvalidType, xM_InvalidType⟩ (kit_blt (by decide +kernel) xo_InvalidType_RuntimeError) (by decide +kernel) (IsvF.cons (b := false) (PySem.W.mg_of X G xa_InvalidLibrary) ⟨xi_InvalidLibrary, xg_InvalidLibrary, xG_InvalidLibrary, xs_InvalidLibrary, xC_InvalidLibrary, xP_InvalidLibrary, xT_InvalidLibrary, xM_InvalidLibrary⟩ (kit_blt (by decide +kernel) xo_InvalidLibrary_RuntimeError) (by decide +kernel) (IsvF.cons (b := false) (PySem.W.mg_of X G xa_InvalidProgram) ⟨xi_InvalidProgram, xg_InvalidProgram, xG_InvalidProgram, xs_InvalidProgram, xC_InvalidProgram, xP_InvalidProgram, xT_InvalidProgram, xM_InvalidProgram⟩ (kit_blt (by decide +kernel) xo_InvalidProgram_RuntimeError) (by decide +kernel) (IsvF.cons (b := false) (PySem.W.mg_of X G xa_InvalidQuestion) ⟨xi_InvalidQuestion, xg_InvalidQuestion, xG_InvalidQuestion, xs_InvalidQuestion, xC_InvalidQuestion, xP_InvalidQuestion, xT_InvalidQuestion, xM_InvalidQuestion⟩ (kit_blt (by decide +kernel) xo_InvalidQuestion_RuntimeError) (by decide +kernel) (IsvF.cons (b := false) (PySem.W.mg_of X G xa_InvalidRoom) ⟨xi_InvalidRoom, xg_InvalidRoom, xG_InvalidRoom, xs_InvalidRoom, xC_InvalidRoom, xP_InvalidRoom, xT_InvalidRoom, xM_InvalidRoom⟩ (kit_blt (by decide +kernel) xo_InvalidRoom_RuntimeError) (by decide +kernel) (IsvF.cons (b := false) (PySem.W.mg_of X G xa_InvalidDraft) ⟨xi_InvalidDraft, xg_InvalidDraft, xG_InvalidDraft, xs_InvalidDraft, xC_InvalidDraft, xP_InvalidDraft, xT_InvalidDraft, xM_InvalidDraft⟩ (kit_blt (by decide +kernel) xo_InvalidDraft_RuntimeError) (by decide +kernel) (IsvF.cons (b := false) (PySem.W.mg_of X G xa_InvalidOperation) ⟨xi_InvalidOperation, xg_InvalidOperation, xG_InvalidOperation, xs_InvalidOperation, xC_InvalidOperation, xP_InvalidOperation, xT_InvalidOperation, xM_InvalidOperation⟩ (kit_blt (by decide +kernel) xo_InvalidOperation_RuntimeError) (by decide +kernel) (IsvF.cons (b := false) (PySem.W.mg_of X G xa_ParseError) ⟨xi_ParseError, xg_ParseError, xG_ParseError, xs_ParseError, xC_ParseError, xP_ParseError, xT_ParseError, xM_ParseError⟩ (kit_blt (by decide +kernel) xo_ParseError_RuntimeError) (by decide +kernel) (IsvF.cons (b := false) (PySem.W.mg_of X G xa_UnknownWord) ⟨xi_UnknownWord, xg_UnknownWord, xG_UnknownWord, xs_UnknownWord, xC_UnknownWord, xP_UnknownWord, xT_UnknownWord, xM_UnknownWord⟩ (kit_blt (by decide +kernel) xo_UnknownWord_RuntimeError) (by decide +kernel) (IsvF.cons (b := false) (PySem.W.mg_of X G xa_NoProgram) ⟨xi_NoProgram, xg_NoProgram, xG_NoProgram, xs_NoProgram, xC_NoProgram, xP_NoProgram, xT_NoProgram, xM_NoProgram⟩ (kit_blt (by decide +kernel) xo_NoProgram_RuntimeError) (by decide +kernel) (IsvF.cons (b := false) (PySem.W.mg_of X G xa_NothingToUndo) ⟨xi_NothingToUndo, xg_NothingToUndo, xG_NothingToUndo, xs_NothingToUndo, xC_NothingToUndo, xP_NothingToUndo, xT_NothingToUndo, xM_NothingToUndo⟩ (kit_blt (by decide +kernel) xo_NothingToUndo_RuntimeError) (by decide +kernel) (IsvF.cons (b := false) (PySem.W.mg_of X G xa_TooMany) ⟨xi_TooMany, xg_TooMany, xG_TooMany, xs_TooMany, xC_TooMany, xP_TooMany, xT_TooMany, xM_TooMany⟩ (kit_blt (by decide +kernel) xo_TooMany_RuntimeError) (by decide +kernel) (IsvF.cons (b := false) (PySem.W.mg_of X G xa_Refused) ⟨xi_Refused, xg_Refused, xG_Refused, xs_Refused, xC_Refused, xP_Refused, xT_Refused, xM_Refused⟩ (kit_blt (by decide +kernel) xo_Refused_RuntimeError) (by decide +kernel) (IsvF.cons (b := true) (PySem.W.mg_of X G xa_InvalidNumber) ⟨xi_InvalidNumber, xg_InvalidNumber, xG_InvalidNumber, xs_InvalidNumber, xC_InvalidNumber, xP_InvalidNumber, xT_InvalidNumber, xM_InvalidNumber⟩ (kit_blt (by decide +kernel) xo_InvalidNumber_RuntimeError) (by decide +kernel) (IsvF.nil (.ty _)))))))))))))))))),
    (StvF.cons (PySem.W.mg_of X G xa_BuildError) xZ_BuildError xs_BuildError (StvF.cons (PySem.W.mg_of X G xa_InvalidWord) xZ_InvalidWord xs_InvalidWord (StvF.cons (PySem.W.mg_of X G xa_InvalidType) xZ_InvalidType xs_InvalidType (StvF.cons (PySem.W.mg_of X G xa_InvalidLibrary) xZ_InvalidLibrary xs_InvalidLibrary (StvF.cons (PySem.W.mg_of X G xa_InvalidProgram) xZ_InvalidProgram xs_InvalidProgram (StvF.cons (PySem.W.mg_of X G xa_InvalidQuestion) xZ_InvalidQuestion xs_InvalidQuestion (StvF.cons (PySem.W.mg_of X G xa_InvalidRoom) xZ_InvalidRoom xs_InvalidRoom (StvF.cons (PySem.W.mg_of X G xa_InvalidDraft) xZ_InvalidDraft xs_InvalidDraft (StvF.cons (PySem.W.mg_of X G xa_InvalidOperation) xZ_InvalidOperation xs_InvalidOperation StvF.nil)))))))))⟩⟩
open KP
theorem ok_all {P : Program} {w : World} {mg : Gm} {base : Heap} (A : ∃ Z, All mg Z) : DefOk P w mg base 14 "law" 1 KP.f_law := by
  obtain ⟨Z, A⟩ := A
  have g__law_dice := ok__law_dice (P := P) (w := w) (base := base) A 
  have g__law_kinds := ok__law_kinds (P := P) (w := w) (base := base) A 
  have g__law_others := ok__law_others (P := P) (w := w) (base := base) A 
  have g__law_roll := ok__law_roll (P := P) (w := w) (base := base) A 
  have g__law_pick := ok__law_pick (P := P) (w := w) (base := base) A g__law_roll
  have g__law_right := ok__law_right (P := P) (w := w) (base := base) A g__law_kinds g__law_others g__law_pick
  have g_law := ok_law (P := P) (w := w) (base := base) A g__law_dice g__law_right
  exact g_law
end K00
open PySem PySem.W PyProof.Rows in
set_option maxRecDepth 100000 in
set_option maxHeartbeats 0 in
theorem PySem.Challenge.cw_fromparts_k00_errors_and_what_they_keep_holds : PySem.Challenge.rw_fromparts_k00_errors_and_what_they_keep.Holds := by
  w_on; o_law; k_head; (case hw => w_witness2)
  k_fill
  letI : FP.Tabl := ⟨[]⟩
  refine FP.walkG (l := PySem.Challenge.rw_fromparts_k00_errors_and_what_they_keep) (f := KP.f_law) (k := 14) rfl rfl rfl ⟨⟨rfl, by decide, by decide⟩, rfl⟩ (fun w h Y => PySem.W.kIn_of Y) ?F (fun ns h => ⟨⟨ns, rfl, h⟩, rfl⟩)
  case F =>
    intro w mg h KX G base
    refine K00.ok_all ?A
    refine' K00.all_mk KX G ?z_ArithmeticError ?z_IndexError ?z_KeyError ?z_LookupError ?z_OverflowError ?z_RuntimeError ?z_ValueError ?z_abs ?z_int ?z_isinstance ?z_len ?z_max ?z_min ?z_range ?z_repr ?z_str ?a__law_dice ?l__law_dice ?c__law_dice ?k__law_dice ?a__law_roll ?l__law_roll ?c__law_roll ?k__law_roll ?a__law_pick ?l__law_pick ?c__law_pick ?k__law_pick ?a__law_kinds ?l__law_kinds ?c__law_kinds ?k__law_kinds ?a__law_others ?l__law_others ?c__law_others ?k__law_others ?a__law_right ?l__law_right ?c__law_right ?k__law_right ?a_law ?l_law ?c_law ?k_law ?xa_BuildError ?xe_BuildError ?xk_BuildError ?xs_BuildError ?xt_BuildError ?xa_InvalidWord ?xe_InvalidWord ?xk_InvalidWord ?xs_InvalidWord ?xt_InvalidWord ?xa_InvalidType ?xe_InvalidType ?xk_InvalidType ?xs_InvalidType ?xt_InvalidType ?xa_InvalidLibrary ?xe_InvalidLibrary ?xk_InvalidLibrary ?xs_InvalidLibrary ?xt_InvalidLibrary ?xa_InvalidProgram ?xe_InvalidProgram ?xk_InvalidProgram ?xs_InvalidProgram ?xt_InvalidProgram ?xa_InvalidQuestion ?xe_InvalidQuestion ?xk_InvalidQuestion ?xs_InvalidQuestion ?xt_InvalidQuestion ?xa_InvalidRoom ?xe_InvalidRoom ?xk_InvalidRoom ?xs_InvalidRoom ?xt_InvalidRoom ?xa_InvalidDraft ?xe_InvalidDraft ?xk_InvalidDraft ?xs_InvalidDraft ?xt_InvalidDraft ?xa_InvalidOperation ?xe_InvalidOperation ?xk_InvalidOperation ?xs_InvalidOperation ?xt_InvalidOperation ?xa_ParseError ?xq_ParseError ?xv_ParseError ?xS_ParseError ?xn_ParseError ?xh_ParseError ?xc_ParseError ?xf_ParseError ?l_ParseError___init__ ?c_ParseError___init__ ?xk_ParseError ?xs_ParseError ?xt_ParseError ?xg_ParseError ?xG_ParseError ?xa_UnknownWord ?xq_UnknownWord ?xv_UnknownWord ?xS_UnknownWord ?xn_UnknownWord ?xh_UnknownWord ?xc_UnknownWord ?xf_UnknownWord ?l_UnknownWord___init__ ?c_UnknownWord___init__ ?xk_UnknownWord ?xs_UnknownWord ?xt_UnknownWord ?xg_UnknownWord ?xG_UnknownWord ?xa_NoProgram ?xq_NoProgram ?xv_NoProgram ?xS_NoProgram ?xn_NoProgram ?xh_NoProgram ?xc_NoProgram ?xf_NoProgram ?l_NoProgram___init__ ?c_NoProgram___init__ ?xk_NoProgram ?xs_NoProgram ?xt_NoProgram ?xg_NoProgram ?xG_NoProgram ?xa_NothingToUndo ?xq_NothingToUndo ?xv_NothingToUndo ?xS_NothingToUndo ?xn_NothingToUndo ?xh_NothingToUndo ?xc_NothingToUndo ?xf_NothingToUndo ?l_NothingToUndo___init__ ?c_NothingToUndo___init__ ?xk_NothingToUndo ?xs_NothingToUndo ?xt_NothingToUndo ?xg_NothingToUndo ?xG_NothingToUndo ?xa_TooMany ?xq_TooMany ?xv_TooMany ?xS_TooMany ?xn_TooMany ?xh_TooMany ?xc_TooMany ?xf_TooMany ?l_TooMany___init__ ?c_TooMany___init__ ?xk_TooMany ?xs_TooMany ?xt_TooMany ?xg_TooMany ?xG_TooMany ?xa_Refused ?xq_Refused ?xv_Refused ?xS_Refused ?xn_Refused ?xh_Refused ?xc_Refused ?xf_Refused ?l_Refused___init__ ?c_Refused___init__ ?xk_Refused ?xs_Refused ?xt_Refused ?xg_Refused ?xG_Refused ?xa_InvalidNumber ?xq_InvalidNumber ?xv_InvalidNumber ?xS_InvalidNumber ?xn_InvalidNumber ?xh_InvalidNumber ?xc_InvalidNumber ?xf_InvalidNumber ?l_InvalidNumber___init__ ?c_InvalidNumber___init__ ?xk_InvalidNumber ?xs_InvalidNumber ?xt_InvalidNumber ?xg_InvalidNumber ?xG_InvalidNumber ?xi_BuildError ?xg_BuildError ?xG_BuildError ?xC_BuildError ?xP_BuildError ?xT_BuildError ?xM_BuildError ?xi_InvalidWord ?xg_InvalidWord ?xG_InvalidWord ?xC_InvalidWord ?xP_InvalidWord ?xT_InvalidWord ?xM_InvalidWord ?xi_InvalidType ?xg_InvalidType ?xG_InvalidType ?xC_InvalidType ?xP_InvalidType ?xT_InvalidType ?xM_InvalidType ?xi_InvalidLibrary ?xg_InvalidLibrary ?xG_InvalidLibrary ?xC_InvalidLibrary ?xP_InvalidLibrary ?xT_InvalidLibrary ?xM_InvalidLibrary ?xi_InvalidProgram ?xg_InvalidProgram ?xG_InvalidProgram ?xC_InvalidProgram ?xP_InvalidProgram ?xT_InvalidProgram ?xM_InvalidProgram ?xi_InvalidQuestion ?xg_InvalidQuestion ?xG_InvalidQuestion ?xC_InvalidQuestion ?xP_InvalidQuestion ?xT_InvalidQuestion ?xM_InvalidQuestion ?xi_InvalidRoom ?xg_InvalidRoom ?xG_InvalidRoom ?xC_InvalidRoom ?xP_InvalidRoom ?xT_InvalidRoom ?xM_InvalidRoom ?xi_InvalidDraft ?xg_InvalidDraft ?xG_InvalidDraft ?xC_InvalidDraft ?xP_InvalidDraft ?xT_InvalidDraft ?xM_InvalidDraft ?xi_InvalidOperation ?xg_InvalidOperation ?xG_InvalidOperation ?xC_InvalidOperation ?xP_InvalidOperation ?xT_InvalidOperation ?xM_InvalidOperation ?xi_ParseError ?xC_ParseError ?xP_ParseError ?xT_ParseError ?xM_ParseError ?xi_UnknownWord ?xC_UnknownWord ?xP_UnknownWord ?xT_UnknownWord ?xM_UnknownWord ?xi_NoProgram ?xC_NoProgram ?xP_NoProgram ?xT_NoProgram ?xM_NoProgram ?xi_NothingToUndo ?xC_NothingToUndo ?xP_NothingToUndo ?xT_NothingToUndo ?xM_NothingToUndo ?xi_TooMany ?xC_TooMany ?xP_TooMany ?xT_TooMany ?xM_TooMany ?xi_Refused ?xC_Refused ?xP_Refused ?xT_Refused ?xM_Refused ?xi_InvalidNumber ?xC_InvalidNumber ?xP_InvalidNumber ?xT_InvalidNumber ?xM_InvalidNumber ?xo_InvalidNumber_InvalidWord ?hv_InvalidNumber_InvalidWord ?xo_Refused_InvalidWord ?hv_Refused_InvalidWord ?xo_TooMany_InvalidWord ?hv_TooMany_InvalidWord ?xo_NothingToUndo_InvalidWord ?hv_NothingToUndo_InvalidWord ?xo_NoProgram_InvalidWord ?hv_NoProgram_InvalidWord ?xo_UnknownWord_InvalidWord ?hv_UnknownWord_InvalidWord ?xo_ParseError_InvalidWord ?hv_ParseError_InvalidWord ?xo_InvalidOperation_InvalidWord ?hv_InvalidOperation_InvalidWord ?xo_InvalidDraft_InvalidWord ?hv_InvalidDraft_InvalidWord ?xo_InvalidRoom_InvalidWord ?hv_InvalidRoom_InvalidWord ?xo_InvalidQuestion_InvalidWord ?hv_InvalidQuestion_InvalidWord ?xo_InvalidProgram_InvalidWord ?hv_InvalidProgram_InvalidWord ?xo_InvalidLibrary_InvalidWord ?hv_InvalidLibrary_InvalidWord ?xo_InvalidType_InvalidWord ?hv_InvalidType_InvalidWord ?xo_BuildError_InvalidWord ?hv_BuildError_InvalidWord ?xo_InvalidNumber_InvalidType ?hv_InvalidNumber_InvalidType ?xo_Refused_InvalidType ?hv_Refused_InvalidType ?xo_TooMany_InvalidType ?hv_TooMany_InvalidType ?xo_NothingToUndo_InvalidType ?hv_NothingToUndo_InvalidType ?xo_NoProgram_InvalidType ?hv_NoProgram_InvalidType ?xo_UnknownWord_InvalidType ?hv_UnknownWord_InvalidType ?xo_ParseError_InvalidType ?hv_ParseError_InvalidType ?xo_InvalidOperation_InvalidType ?hv_InvalidOperation_InvalidType ?xo_InvalidDraft_InvalidType ?hv_InvalidDraft_InvalidType ?xo_InvalidRoom_InvalidType ?hv_InvalidRoom_InvalidType ?xo_InvalidQuestion_InvalidType ?hv_InvalidQuestion_InvalidType ?xo_InvalidProgram_InvalidType ?hv_InvalidProgram_InvalidType ?xo_InvalidLibrary_InvalidType ?hv_InvalidLibrary_InvalidType ?xo_InvalidWord_InvalidType ?hv_InvalidWord_InvalidType ?xo_BuildError_InvalidType ?hv_BuildError_InvalidType ?xo_InvalidNumber_InvalidLibrary ?hv_InvalidNumber_InvalidLibrary ?xo_Refused_InvalidLibrary ?hv_Refused_InvalidLibrary ?xo_TooMany_InvalidLibrary ?hv_TooMany_InvalidLibrary ?xo_NothingToUndo_InvalidLibrary ?hv_NothingToUndo_InvalidLibrary ?xo_NoProgram_InvalidLibrary ?hv_NoProgram_InvalidLibrary ?xo_UnknownWord_InvalidLibrary ?hv_UnknownWord_InvalidLibrary ?xo_ParseError_InvalidLibrary ?hv_ParseError_InvalidLibrary ?xo_InvalidOperation_InvalidLibrary ?hv_InvalidOperation_InvalidLibrary ?xo_InvalidDraft_InvalidLibrary ?hv_InvalidDraft_InvalidLibrary ?xo_InvalidRoom_InvalidLibrary ?hv_InvalidRoom_InvalidLibrary ?xo_InvalidQuestion_InvalidLibrary ?hv_InvalidQuestion_InvalidLibrary ?xo_InvalidProgram_InvalidLibrary ?hv_InvalidProgram_InvalidLibrary ?xo_InvalidType_InvalidLibrary ?hv_InvalidType_InvalidLibrary ?xo_InvalidWord_InvalidLibrary ?hv_InvalidWord_InvalidLibrary ?xo_BuildError_InvalidLibrary ?hv_BuildError_InvalidLibrary ?xo_InvalidNumber_InvalidProgram ?hv_InvalidNumber_InvalidProgram ?xo_Refused_InvalidProgram ?hv_Refused_InvalidProgram ?xo_TooMany_InvalidProgram ?hv_TooMany_InvalidProgram ?xo_NothingToUndo_InvalidProgram ?hv_NothingToUndo_InvalidProgram ?xo_NoProgram_InvalidProgram ?hv_NoProgram_InvalidProgram ?xo_UnknownWord_InvalidProgram ?hv_UnknownWord_InvalidProgram ?xo_ParseError_InvalidProgram ?hv_ParseError_InvalidProgram ?xo_InvalidOperation_InvalidProgram ?hv_InvalidOperation_InvalidProgram ?xo_InvalidDraft_InvalidProgram ?hv_InvalidDraft_InvalidProgram ?xo_InvalidRoom_InvalidProgram ?hv_InvalidRoom_InvalidProgram ?xo_InvalidQuestion_InvalidProgram ?hv_InvalidQuestion_InvalidProgram ?xo_InvalidLibrary_InvalidProgram ?hv_InvalidLibrary_InvalidProgram ?xo_InvalidType_InvalidProgram ?hv_InvalidType_InvalidProgram ?xo_InvalidWord_InvalidProgram ?hv_InvalidWord_InvalidProgram ?xo_BuildError_InvalidProgram ?hv_BuildError_InvalidProgram ?xo_InvalidNumber_InvalidQuestion ?hv_InvalidNumber_InvalidQuestion ?xo_Refused_InvalidQuestion ?hv_Refused_InvalidQuestion ?xo_TooMany_InvalidQuestion ?hv_TooMany_InvalidQuestion ?xo_NothingToUndo_InvalidQuestion ?hv_NothingToUndo_InvalidQuestion ?xo_NoProgram_InvalidQuestion ?hv_NoProgram_InvalidQuestion ?xo_UnknownWord_InvalidQuestion ?hv_UnknownWord_InvalidQuestion ?xo_ParseError_InvalidQuestion ?hv_ParseError_InvalidQuestion ?xo_InvalidOperation_InvalidQuestion ?hv_InvalidOperation_InvalidQuestion ?xo_InvalidDraft_InvalidQuestion ?hv_InvalidDraft_InvalidQuestion ?xo_InvalidRoom_InvalidQuestion ?hv_InvalidRoom_InvalidQuestion ?xo_InvalidProgram_InvalidQuestion ?hv_InvalidProgram_InvalidQuestion ?xo_InvalidLibrary_InvalidQuestion ?hv_InvalidLibrary_InvalidQuestion ?xo_InvalidType_InvalidQuestion ?hv_InvalidType_InvalidQuestion ?xo_InvalidWord_InvalidQuestion ?hv_InvalidWord_InvalidQuestion ?xo_BuildError_InvalidQuestion ?hv_BuildError_InvalidQuestion ?xo_InvalidNumber_InvalidRoom ?hv_InvalidNumber_InvalidRoom ?xo_Refused_InvalidRoom ?hv_Refused_InvalidRoom ?xo_TooMany_InvalidRoom ?hv_TooMany_InvalidRoom ?xo_NothingToUndo_InvalidRoom ?hv_NothingToUndo_InvalidRoom ?xo_NoProgram_InvalidRoom ?hv_NoProgram_InvalidRoom ?xo_UnknownWord_InvalidRoom ?hv_UnknownWord_InvalidRoom ?xo_ParseError_InvalidRoom ?hv_ParseError_InvalidRoom ?xo_InvalidOperation_InvalidRoom ?hv_InvalidOperation_InvalidRoom ?xo_InvalidDraft_InvalidRoom ?hv_InvalidDraft_InvalidRoom ?xo_InvalidQuestion_InvalidRoom ?hv_InvalidQuestion_InvalidRoom ?xo_InvalidProgram_InvalidRoom ?hv_InvalidProgram_InvalidRoom ?xo_InvalidLibrary_InvalidRoom ?hv_InvalidLibrary_InvalidRoom ?xo_InvalidType_InvalidRoom ?hv_InvalidType_InvalidRoom ?xo_InvalidWord_InvalidRoom ?hv_InvalidWord_InvalidRoom ?xo_BuildError_InvalidRoom ?hv_BuildError_InvalidRoom ?xo_InvalidNumber_InvalidDraft ?hv_InvalidNumber_InvalidDraft ?xo_Refused_InvalidDraft ?hv_Refused_InvalidDraft ?xo_TooMany_InvalidDraft ?hv_TooMany_InvalidDraft ?xo_NothingToUndo_InvalidDraft ?hv_NothingToUndo_InvalidDraft ?xo_NoProgram_InvalidDraft ?hv_NoProgram_InvalidDraft ?xo_UnknownWord_InvalidDraft ?hv_UnknownWord_InvalidDraft ?xo_ParseError_InvalidDraft ?hv_ParseError_InvalidDraft ?xo_InvalidOperation_InvalidDraft ?hv_InvalidOperation_InvalidDraft ?xo_InvalidRoom_InvalidDraft ?hv_InvalidRoom_InvalidDraft ?xo_InvalidQuestion_InvalidDraft ?hv_InvalidQuestion_InvalidDraft ?xo_InvalidProgram_InvalidDraft ?hv_InvalidProgram_InvalidDraft ?xo_InvalidLibrary_InvalidDraft ?hv_InvalidLibrary_InvalidDraft ?xo_InvalidType_InvalidDraft ?hv_InvalidType_InvalidDraft ?xo_InvalidWord_InvalidDraft ?hv_InvalidWord_InvalidDraft ?xo_BuildError_InvalidDraft ?hv_BuildError_InvalidDraft ?xo_InvalidNumber_InvalidOperation ?hv_InvalidNumber_InvalidOperation ?xo_Refused_InvalidOperation ?hv_Refused_InvalidOperation ?xo_TooMany_InvalidOperation ?hv_TooMany_InvalidOperation ?xo_NothingToUndo_InvalidOperation ?hv_NothingToUndo_InvalidOperation ?xo_NoProgram_InvalidOperation ?hv_NoProgram_InvalidOperation ?xo_UnknownWord_InvalidOperation ?hv_UnknownWord_InvalidOperation ?xo_ParseError_InvalidOperation ?hv_ParseError_InvalidOperation ?xo_InvalidDraft_InvalidOperation ?hv_InvalidDraft_InvalidOperation ?xo_InvalidRoom_InvalidOperation ?hv_InvalidRoom_InvalidOperation ?xo_InvalidQuestion_InvalidOperation ?hv_InvalidQuestion_InvalidOperation ?xo_InvalidProgram_InvalidOperation ?hv_InvalidProgram_InvalidOperation ?xo_InvalidLibrary_InvalidOperation ?hv_InvalidLibrary_InvalidOperation ?xo_InvalidType_InvalidOperation ?hv_InvalidType_InvalidOperation ?xo_InvalidWord_InvalidOperation ?hv_InvalidWord_InvalidOperation ?xo_BuildError_InvalidOperation ?hv_BuildError_InvalidOperation ?xo_InvalidNumber_ParseError ?hv_InvalidNumber_ParseError ?xo_Refused_ParseError ?hv_Refused_ParseError ?xo_TooMany_ParseError ?hv_TooMany_ParseError ?xo_NothingToUndo_ParseError ?hv_NothingToUndo_ParseError ?xo_NoProgram_ParseError ?hv_NoProgram_ParseError ?xo_UnknownWord_ParseError ?hv_UnknownWord_ParseError ?xo_InvalidOperation_ParseError ?hv_InvalidOperation_ParseError ?xo_InvalidDraft_ParseError ?hv_InvalidDraft_ParseError ?xo_InvalidRoom_ParseError ?hv_InvalidRoom_ParseError ?xo_InvalidQuestion_ParseError ?hv_InvalidQuestion_ParseError ?xo_InvalidProgram_ParseError ?hv_InvalidProgram_ParseError ?xo_InvalidLibrary_ParseError ?hv_InvalidLibrary_ParseError ?xo_InvalidType_ParseError ?hv_InvalidType_ParseError ?xo_InvalidWord_ParseError ?hv_InvalidWord_ParseError ?xo_BuildError_ParseError ?hv_BuildError_ParseError ?xo_InvalidNumber_BuildError ?hv_InvalidNumber_BuildError ?xo_Refused_BuildError ?hv_Refused_BuildError ?xo_TooMany_BuildError ?hv_TooMany_BuildError ?xo_NothingToUndo_BuildError ?hv_NothingToUndo_BuildError ?xo_NoProgram_BuildError ?hv_NoProgram_BuildError ?xo_UnknownWord_BuildError ?hv_UnknownWord_BuildError ?xo_ParseError_BuildError ?hv_ParseError_BuildError ?xo_InvalidOperation_BuildError ?hv_InvalidOperation_BuildError ?xo_InvalidDraft_BuildError ?hv_InvalidDraft_BuildError ?xo_InvalidRoom_BuildError ?hv_InvalidRoom_BuildError ?xo_InvalidQuestion_BuildError ?hv_InvalidQuestion_BuildError ?xo_InvalidProgram_BuildError ?hv_InvalidProgram_BuildError ?xo_InvalidLibrary_BuildError ?hv_InvalidLibrary_BuildError ?xo_InvalidType_BuildError ?hv_InvalidType_BuildError ?xo_InvalidWord_BuildError ?hv_InvalidWord_BuildError ?xo_InvalidNumber_ValueError ?xo_Refused_ValueError ?xo_TooMany_ValueError ?xo_NothingToUndo_ValueError ?xo_NoProgram_ValueError ?xo_UnknownWord_ValueError ?xo_ParseError_ValueError ?xo_InvalidOperation_ValueError ?xo_InvalidDraft_ValueError ?xo_InvalidRoom_ValueError ?xo_InvalidQuestion_ValueError ?xo_InvalidProgram_ValueError ?xo_InvalidLibrary_ValueError ?xo_InvalidType_ValueError ?xo_InvalidWord_ValueError ?xo_BuildError_ValueError ?xo_InvalidNumber_UnknownWord ?hv_InvalidNumber_UnknownWord ?xo_Refused_UnknownWord ?hv_Refused_UnknownWord ?xo_TooMany_UnknownWord ?hv_TooMany_UnknownWord ?xo_NothingToUndo_UnknownWord ?hv_NothingToUndo_UnknownWord ?xo_NoProgram_UnknownWord ?hv_NoProgram_UnknownWord ?xo_ParseError_UnknownWord ?hv_ParseError_UnknownWord ?xo_InvalidOperation_UnknownWord ?hv_InvalidOperation_UnknownWord ?xo_InvalidDraft_UnknownWord ?hv_InvalidDraft_UnknownWord ?xo_InvalidRoom_UnknownWord ?hv_InvalidRoom_UnknownWord ?xo_InvalidQuestion_UnknownWord ?hv_InvalidQuestion_UnknownWord ?xo_InvalidProgram_UnknownWord ?hv_InvalidProgram_UnknownWord ?xo_InvalidLibrary_UnknownWord ?hv_InvalidLibrary_UnknownWord ?xo_InvalidType_UnknownWord ?hv_InvalidType_UnknownWord ?xo_InvalidWord_UnknownWord ?hv_InvalidWord_UnknownWord ?xo_BuildError_UnknownWord ?hv_BuildError_UnknownWord ?xo_InvalidNumber_NoProgram ?hv_InvalidNumber_NoProgram ?xo_Refused_NoProgram ?hv_Refused_NoProgram ?xo_TooMany_NoProgram ?hv_TooMany_NoProgram ?xo_NothingToUndo_NoProgram ?hv_NothingToUndo_NoProgram ?xo_UnknownWord_NoProgram ?hv_UnknownWord_NoProgram ?xo_ParseError_NoProgram ?hv_ParseError_NoProgram ?xo_InvalidOperation_NoProgram ?hv_InvalidOperation_NoProgram ?xo_InvalidDraft_NoProgram ?hv_InvalidDraft_NoProgram ?xo_InvalidRoom_NoProgram ?hv_InvalidRoom_NoProgram ?xo_InvalidQuestion_NoProgram ?hv_InvalidQuestion_NoProgram ?xo_InvalidProgram_NoProgram ?hv_InvalidProgram_NoProgram ?xo_InvalidLibrary_NoProgram ?hv_InvalidLibrary_NoProgram ?xo_InvalidType_NoProgram ?hv_InvalidType_NoProgram ?xo_InvalidWord_NoProgram ?hv_InvalidWord_NoProgram ?xo_BuildError_NoProgram ?hv_BuildError_NoProgram ?xo_InvalidNumber_NothingToUndo ?hv_InvalidNumber_NothingToUndo ?xo_Refused_NothingToUndo ?hv_Refused_NothingToUndo ?xo_TooMany_NothingToUndo ?hv_TooMany_NothingToUndo ?xo_NoProgram_NothingToUndo ?hv_NoProgram_NothingToUndo ?xo_UnknownWord_NothingToUndo ?hv_UnknownWord_NothingToUndo ?xo_ParseError_NothingToUndo ?hv_ParseError_NothingToUndo ?xo_InvalidOperation_NothingToUndo ?hv_InvalidOperation_NothingToUndo ?xo_InvalidDraft_NothingToUndo ?hv_InvalidDraft_NothingToUndo ?xo_InvalidRoom_NothingToUndo ?hv_InvalidRoom_NothingToUndo ?xo_InvalidQuestion_NothingToUndo ?hv_InvalidQuestion_NothingToUndo ?xo_InvalidProgram_NothingToUndo ?hv_InvalidProgram_NothingToUndo ?xo_InvalidLibrary_NothingToUndo ?hv_InvalidLibrary_NothingToUndo ?xo_InvalidType_NothingToUndo ?hv_InvalidType_NothingToUndo ?xo_InvalidWord_NothingToUndo ?hv_InvalidWord_NothingToUndo ?xo_BuildError_NothingToUndo ?hv_BuildError_NothingToUndo ?xo_InvalidNumber_TooMany ?hv_InvalidNumber_TooMany ?xo_Refused_TooMany ?hv_Refused_TooMany ?xo_NothingToUndo_TooMany ?hv_NothingToUndo_TooMany ?xo_NoProgram_TooMany ?hv_NoProgram_TooMany ?xo_UnknownWord_TooMany ?hv_UnknownWord_TooMany ?xo_ParseError_TooMany ?hv_ParseError_TooMany ?xo_InvalidOperation_TooMany ?hv_InvalidOperation_TooMany ?xo_InvalidDraft_TooMany ?hv_InvalidDraft_TooMany ?xo_InvalidRoom_TooMany ?hv_InvalidRoom_TooMany ?xo_InvalidQuestion_TooMany ?hv_InvalidQuestion_TooMany ?xo_InvalidProgram_TooMany ?hv_InvalidProgram_TooMany ?xo_InvalidLibrary_TooMany ?hv_InvalidLibrary_TooMany ?xo_InvalidType_TooMany ?hv_InvalidType_TooMany ?xo_InvalidWord_TooMany ?hv_InvalidWord_TooMany ?xo_BuildError_TooMany ?hv_BuildError_TooMany ?xo_InvalidNumber_Refused ?hv_InvalidNumber_Refused ?xo_TooMany_Refused ?hv_TooMany_Refused ?xo_NothingToUndo_Refused ?hv_NothingToUndo_Refused ?xo_NoProgram_Refused ?hv_NoProgram_Refused ?xo_UnknownWord_Refused ?hv_UnknownWord_Refused ?xo_ParseError_Refused ?hv_ParseError_Refused ?xo_InvalidOperation_Refused ?hv_InvalidOperation_Refused ?xo_InvalidDraft_Refused ?hv_InvalidDraft_Refused ?xo_InvalidRoom_Refused ?hv_InvalidRoom_Refused ?xo_InvalidQuestion_Refused ?hv_InvalidQuestion_Refused ?xo_InvalidProgram_Refused ?hv_InvalidProgram_Refused ?xo_InvalidLibrary_Refused ?hv_InvalidLibrary_Refused ?xo_InvalidType_Refused ?hv_InvalidType_Refused ?xo_InvalidWord_Refused ?hv_InvalidWord_Refused ?xo_BuildError_Refused ?hv_BuildError_Refused ?xo_Refused_InvalidNumber ?hv_Refused_InvalidNumber ?xo_TooMany_InvalidNumber ?hv_TooMany_InvalidNumber ?xo_NothingToUndo_InvalidNumber ?hv_NothingToUndo_InvalidNumber ?xo_NoProgram_InvalidNumber ?hv_NoProgram_InvalidNumber ?xo_UnknownWord_InvalidNumber ?hv_UnknownWord_InvalidNumber ?xo_ParseError_InvalidNumber ?hv_ParseError_InvalidNumber ?xo_InvalidOperation_InvalidNumber ?hv_InvalidOperation_InvalidNumber ?xo_InvalidDraft_InvalidNumber ?hv_InvalidDraft_InvalidNumber ?xo_InvalidRoom_InvalidNumber ?hv_InvalidRoom_InvalidNumber ?xo_InvalidQuestion_InvalidNumber ?hv_InvalidQuestion_InvalidNumber ?xo_InvalidProgram_InvalidNumber ?hv_InvalidProgram_InvalidNumber ?xo_InvalidLibrary_InvalidNumber ?hv_InvalidLibrary_InvalidNumber ?xo_InvalidType_InvalidNumber ?hv_InvalidType_InvalidNumber ?xo_InvalidWord_InvalidNumber ?hv_InvalidWord_InvalidNumber ?xo_BuildError_InvalidNumber ?hv_BuildError_InvalidNumber ?xo_InvalidNumber_KeyError ?xo_Refused_KeyError ?xo_TooMany_KeyError ?xo_NothingToUndo_KeyError ?xo_NoProgram_KeyError ?xo_UnknownWord_KeyError ?xo_ParseError_KeyError ?xo_InvalidOperation_KeyError ?xo_InvalidDraft_KeyError ?xo_InvalidRoom_KeyError ?xo_InvalidQuestion_KeyError ?xo_InvalidProgram_KeyError ?xo_InvalidLibrary_KeyError ?xo_InvalidType_KeyError ?xo_InvalidWord_KeyError ?xo_BuildError_KeyError ?xo_InvalidNumber_IndexError ?xo_Refused_IndexError ?xo_TooMany_IndexError ?xo_NothingToUndo_IndexError ?xo_NoProgram_IndexError ?xo_UnknownWord_IndexError ?xo_ParseError_IndexError ?xo_InvalidOperation_IndexError ?xo_InvalidDraft_IndexError ?xo_InvalidRoom_IndexError ?xo_InvalidQuestion_IndexError ?xo_InvalidProgram_IndexError ?xo_InvalidLibrary_IndexError ?xo_InvalidType_IndexError ?xo_InvalidWord_IndexError ?xo_BuildError_IndexError ?xo_InvalidNumber_LookupError ?xo_Refused_LookupError ?xo_TooMany_LookupError ?xo_NothingToUndo_LookupError ?xo_NoProgram_LookupError ?xo_UnknownWord_LookupError ?xo_ParseError_LookupError ?xo_InvalidOperation_LookupError ?xo_InvalidDraft_LookupError ?xo_InvalidRoom_LookupError ?xo_InvalidQuestion_LookupError ?xo_InvalidProgram_LookupError ?xo_InvalidLibrary_LookupError ?xo_InvalidType_LookupError ?xo_InvalidWord_LookupError ?xo_BuildError_LookupError ?xo_InvalidNumber_OverflowError ?xo_Refused_OverflowError ?xo_TooMany_OverflowError ?xo_NothingToUndo_OverflowError ?xo_NoProgram_OverflowError ?xo_UnknownWord_OverflowError ?xo_ParseError_OverflowError ?xo_InvalidOperation_OverflowError ?xo_InvalidDraft_OverflowError ?xo_InvalidRoom_OverflowError ?xo_InvalidQuestion_OverflowError ?xo_InvalidProgram_OverflowError ?xo_InvalidLibrary_OverflowError ?xo_InvalidType_OverflowError ?xo_InvalidWord_OverflowError ?xo_BuildError_OverflowError ?xo_InvalidNumber_ArithmeticError ?xo_Refused_ArithmeticError ?xo_TooMany_ArithmeticError ?xo_NothingToUndo_ArithmeticError ?xo_NoProgram_ArithmeticError ?xo_UnknownWord_ArithmeticError ?xo_ParseError_ArithmeticError ?xo_InvalidOperation_ArithmeticError ?xo_InvalidDraft_ArithmeticError ?xo_InvalidRoom_ArithmeticError ?xo_InvalidQuestion_ArithmeticError ?xo_InvalidProgram_ArithmeticError ?xo_InvalidLibrary_ArithmeticError ?xo_InvalidType_ArithmeticError ?xo_InvalidWord_ArithmeticError ?xo_BuildError_ArithmeticError ?xo_InvalidNumber_RuntimeError ?xo_Refused_RuntimeError ?xo_TooMany_RuntimeError ?xo_NothingToUndo_RuntimeError ?xo_NoProgram_RuntimeError ?xo_UnknownWord_RuntimeError ?xo_ParseError_RuntimeError ?xo_InvalidOperation_RuntimeError ?xo_InvalidDraft_RuntimeError ?xo_InvalidRoom_RuntimeError ?xo_InvalidQuestion_RuntimeError ?xo_InvalidProgram_RuntimeError ?xo_InvalidLibrary_RuntimeError ?xo_InvalidType_RuntimeError ?xo_InvalidWord_RuntimeError ?xo_BuildError_RuntimeError ?xZ_InvalidOperation ?xZ_InvalidDraft ?xZ_InvalidRoom ?xZ_InvalidQuestion ?xZ_InvalidProgram ?xZ_InvalidLibrary ?xZ_InvalidType ?xZ_InvalidWord ?xZ_BuildError
    (case z_ArithmeticError => k_is)
    (case z_IndexError => k_is)
    (case z_KeyError => k_is)
    (case z_LookupError => k_is)
    (case z_OverflowError => k_is)
    (case z_RuntimeError => k_is)
    (case z_ValueError => k_is)
    (case z_abs => k_is)
    (case z_int => k_is)
    (case z_isinstance => k_is)
    (case z_len => k_is)
    (case z_max => k_is)
    (case z_min => k_is)
    (case z_range => k_is)
    (case z_repr => k_is)
    (case z_str => k_is)
    (case a__law_dice => k_is)
    (case l__law_dice => k_is)
    (case c__law_dice => k_is)
    (case k__law_dice => k_is)
    (case a__law_roll => k_is)
    (case l__law_roll => k_is)
    (case c__law_roll => k_is)
    (case k__law_roll => k_is)
    (case a__law_pick => k_is)
    (case l__law_pick => k_is)
    (case c__law_pick => k_is)
    (case k__law_pick => k_is)
    (case a__law_kinds => k_is)
    (case l__law_kinds => k_is)
    (case c__law_kinds => k_is)
    (case k__law_kinds => k_is)
    (case a__law_others => k_is)
    (case l__law_others => k_is)
    (case c__law_others => k_is)
    (case k__law_others => k_is)
    (case a__law_right => k_is)
    (case l__law_right => k_is)
    (case c__law_right => k_is)
    (case k__law_right => k_is)
    (case a_law => k_is)
    (case l_law => k_is)
    (case c_law => k_is)
    (case k_law => k_is)
    (case xa_BuildError => k_is)
    (case xe_BuildError => k_exc)
    (case xk_BuildError => k_is)
    (case xs_BuildError => k_is)
    (case xt_BuildError => k_is)
    (case xa_InvalidWord => k_is)
    (case xe_InvalidWord => k_exc)
    (case xk_InvalidWord => k_is)
    (case xs_InvalidWord => k_is)
    (case xt_InvalidWord => k_is)
    (case xa_InvalidType => k_is)
    (case xe_InvalidType => k_exc)
    (case xk_InvalidType => k_is)
    (case xs_InvalidType => k_is)
    (case xt_InvalidType => k_is)
    (case xa_InvalidLibrary => k_is)
    (case xe_InvalidLibrary => k_exc)
    (case xk_InvalidLibrary => k_is)
    (case xs_InvalidLibrary => k_is)
    (case xt_InvalidLibrary => k_is)
    (case xa_InvalidProgram => k_is)
    (case xe_InvalidProgram => k_exc)
    (case xk_InvalidProgram => k_is)
    (case xs_InvalidProgram => k_is)
    (case xt_InvalidProgram => k_is)
    (case xa_InvalidQuestion => k_is)
    (case xe_InvalidQuestion => k_exc)
    (case xk_InvalidQuestion => k_is)
    (case xs_InvalidQuestion => k_is)
    (case xt_InvalidQuestion => k_is)
    (case xa_InvalidRoom => k_is)
    (case xe_InvalidRoom => k_exc)
    (case xk_InvalidRoom => k_is)
    (case xs_InvalidRoom => k_is)
    (case xt_InvalidRoom => k_is)
    (case xa_InvalidDraft => k_is)
    (case xe_InvalidDraft => k_exc)
    (case xk_InvalidDraft => k_is)
    (case xs_InvalidDraft => k_is)
    (case xt_InvalidDraft => k_is)
    (case xa_InvalidOperation => k_is)
    (case xe_InvalidOperation => k_exc)
    (case xk_InvalidOperation => k_is)
    (case xs_InvalidOperation => k_is)
    (case xt_InvalidOperation => k_is)
    (case xa_ParseError => k_is)
    (case xq_ParseError => kx_is)
    (case xv_ParseError => kx_is)
    (case xS_ParseError => k_is)
    (case xn_ParseError => k_is)
    (case xh_ParseError => k_is)
    (case xc_ParseError => k_is)
    (case xf_ParseError => k_is)
    (case l_ParseError___init__ => k_is)
    (case c_ParseError___init__ => k_is)
    (case xk_ParseError => k_is)
    (case xs_ParseError => k_is)
    (case xt_ParseError => k_is)
    (case xg_ParseError => k_is)
    (case xG_ParseError => k_is)
    (case xa_UnknownWord => k_is)
    (case xq_UnknownWord => kx_is)
    (case xv_UnknownWord => kx_is)
    (case xS_UnknownWord => k_is)
    (case xn_UnknownWord => k_is)
    (case xh_UnknownWord => k_is)
    (case xc_UnknownWord => k_is)
    (case xf_UnknownWord => k_is)
    (case l_UnknownWord___init__ => k_is)
    (case c_UnknownWord___init__ => k_is)
    (case xk_UnknownWord => k_is)
    (case xs_UnknownWord => k_is)
    (case xt_UnknownWord => k_is)
    (case xg_UnknownWord => k_is)
    (case xG_UnknownWord => k_is)
    (case xa_NoProgram => k_is)
    (case xq_NoProgram => kx_is)
    (case xv_NoProgram => kx_is)
    (case xS_NoProgram => k_is)
    (case xn_NoProgram => k_is)
    (case xh_NoProgram => k_is)
    (case xc_NoProgram => k_is)
    (case xf_NoProgram => k_is)
    (case l_NoProgram___init__ => k_is)
    (case c_NoProgram___init__ => k_is)
    (case xk_NoProgram => k_is)
    (case xs_NoProgram => k_is)
    (case xt_NoProgram => k_is)
    (case xg_NoProgram => k_is)
    (case xG_NoProgram => k_is)
    (case xa_NothingToUndo => k_is)
    (case xq_NothingToUndo => kx_is)
    (case xv_NothingToUndo => kx_is)
    (case xS_NothingToUndo => k_is)
    (case xn_NothingToUndo => k_is)
    (case xh_NothingToUndo => k_is)
    (case xc_NothingToUndo => k_is)
    (case xf_NothingToUndo => k_is)
    (case l_NothingToUndo___init__ => k_is)
    (case c_NothingToUndo___init__ => k_is)
    (case xk_NothingToUndo => k_is)
    (case xs_NothingToUndo => k_is)
    (case xt_NothingToUndo => k_is)
    (case xg_NothingToUndo => k_is)
    (case xG_NothingToUndo => k_is)
    (case xa_TooMany => k_is)
    (case xq_TooMany => kx_is)
    (case xv_TooMany => kx_is)
    (case xS_TooMany => k_is)
    (case xn_TooMany => k_is)
    (case xh_TooMany => k_is)
    (case xc_TooMany => k_is)
    (case xf_TooMany => k_is)
    (case l_TooMany___init__ => k_is)
    (case c_TooMany___init__ => k_is)
    (case xk_TooMany => k_is)
    (case xs_TooMany => k_is)
    (case xt_TooMany => k_is)
    (case xg_TooMany => k_is)
    (case xG_TooMany => k_is)
    (case xa_Refused => k_is)
    (case xq_Refused => kx_is)
    (case xv_Refused => kx_is)
    (case xS_Refused => k_is)
    (case xn_Refused => k_is)
    (case xh_Refused => k_is)
    (case xc_Refused => k_is)
    (case xf_Refused => k_is)
    (case l_Refused___init__ => k_is)
    (case c_Refused___init__ => k_is)
    (case xk_Refused => k_is)
    (case xs_Refused => k_is)
    (case xt_Refused => k_is)
    (case xg_Refused => k_is)
    (case xG_Refused => k_is)
    (case xa_InvalidNumber => k_is)
    (case xq_InvalidNumber => kx_is)
    (case xv_InvalidNumber => kx_is)
    (case xS_InvalidNumber => k_is)
    (case xn_InvalidNumber => k_is)
    (case xh_InvalidNumber => k_is)
    (case xc_InvalidNumber => k_is)
    (case xf_InvalidNumber => k_is)
    (case l_InvalidNumber___init__ => k_is)
    (case c_InvalidNumber___init__ => k_is)
    (case xk_InvalidNumber => k_is)
    (case xs_InvalidNumber => k_is)
    (case xt_InvalidNumber => k_is)
    (case xg_InvalidNumber => k_is)
    (case xG_InvalidNumber => k_is)
    (case xi_BuildError => k_is)
    (case xg_BuildError => k_is)
    (case xG_BuildError => k_is)
    (case xC_BuildError => k_is)
    (case xP_BuildError => k_is)
    (case xT_BuildError => k_is)
    (case xM_BuildError => k_is)
    (case xi_InvalidWord => k_is)
    (case xg_InvalidWord => k_is)
    (case xG_InvalidWord => k_is)
    (case xC_InvalidWord => k_is)
    (case xP_InvalidWord => k_is)
    (case xT_InvalidWord => k_is)
    (case xM_InvalidWord => k_is)
    (case xi_InvalidType => k_is)
    (case xg_InvalidType => k_is)
    (case xG_InvalidType => k_is)
    (case xC_InvalidType => k_is)
    (case xP_InvalidType => k_is)
    (case xT_InvalidType => k_is)
    (case xM_InvalidType => k_is)
    (case xi_InvalidLibrary => k_is)
    (case xg_InvalidLibrary => k_is)
    (case xG_InvalidLibrary => k_is)
    (case xC_InvalidLibrary => k_is)
    (case xP_InvalidLibrary => k_is)
    (case xT_InvalidLibrary => k_is)
    (case xM_InvalidLibrary => k_is)
    (case xi_InvalidProgram => k_is)
    (case xg_InvalidProgram => k_is)
    (case xG_InvalidProgram => k_is)
    (case xC_InvalidProgram => k_is)
    (case xP_InvalidProgram => k_is)
    (case xT_InvalidProgram => k_is)
    (case xM_InvalidProgram => k_is)
    (case xi_InvalidQuestion => k_is)
    (case xg_InvalidQuestion => k_is)
    (case xG_InvalidQuestion => k_is)
    (case xC_InvalidQuestion => k_is)
    (case xP_InvalidQuestion => k_is)
    (case xT_InvalidQuestion => k_is)
    (case xM_InvalidQuestion => k_is)
    (case xi_InvalidRoom => k_is)
    (case xg_InvalidRoom => k_is)
    (case xG_InvalidRoom => k_is)
    (case xC_InvalidRoom => k_is)
    (case xP_InvalidRoom => k_is)
    (case xT_InvalidRoom => k_is)
    (case xM_InvalidRoom => k_is)
    (case xi_InvalidDraft => k_is)
    (case xg_InvalidDraft => k_is)
    (case xG_InvalidDraft => k_is)
    (case xC_InvalidDraft => k_is)
    (case xP_InvalidDraft => k_is)
    (case xT_InvalidDraft => k_is)
    (case xM_InvalidDraft => k_is)
    (case xi_InvalidOperation => k_is)
    (case xg_InvalidOperation => k_is)
    (case xG_InvalidOperation => k_is)
    (case xC_InvalidOperation => k_is)
    (case xP_InvalidOperation => k_is)
    (case xT_InvalidOperation => k_is)
    (case xM_InvalidOperation => k_is)
    (case xi_ParseError => k_is)
    (case xC_ParseError => k_is)
    (case xP_ParseError => k_is)
    (case xT_ParseError => k_is)
    (case xM_ParseError => k_is)
    (case xi_UnknownWord => k_is)
    (case xC_UnknownWord => k_is)
    (case xP_UnknownWord => k_is)
    (case xT_UnknownWord => k_is)
    (case xM_UnknownWord => k_is)
    (case xi_NoProgram => k_is)
    (case xC_NoProgram => k_is)
    (case xP_NoProgram => k_is)
    (case xT_NoProgram => k_is)
    (case xM_NoProgram => k_is)
    (case xi_NothingToUndo => k_is)
    (case xC_NothingToUndo => k_is)
    (case xP_NothingToUndo => k_is)
    (case xT_NothingToUndo => k_is)
    (case xM_NothingToUndo => k_is)
    (case xi_TooMany => k_is)
    (case xC_TooMany => k_is)
    (case xP_TooMany => k_is)
    (case xT_TooMany => k_is)
    (case xM_TooMany => k_is)
    (case xi_Refused => k_is)
    (case xC_Refused => k_is)
    (case xP_Refused => k_is)
    (case xT_Refused => k_is)
    (case xM_Refused => k_is)
    (case xi_InvalidNumber => k_is)
    (case xC_InvalidNumber => k_is)
    (case xP_InvalidNumber => k_is)
    (case xT_InvalidNumber => k_is)
    (case xM_InvalidNumber => k_is)
    (case xo_InvalidNumber_InvalidWord => k_is)
    (case hv_InvalidNumber_InvalidWord => rfl)
    (case xo_Refused_InvalidWord => k_is)
    (case hv_Refused_InvalidWord => rfl)
    (case xo_TooMany_InvalidWord => k_is)
    (case hv_TooMany_InvalidWord => rfl)
    (case xo_NothingToUndo_InvalidWord => k_is)
    (case hv_NothingToUndo_InvalidWord => rfl)
    (case xo_NoProgram_InvalidWord => k_is)
    (case hv_NoProgram_InvalidWord => rfl)
    (case xo_UnknownWord_InvalidWord => k_is)
    (case hv_UnknownWord_InvalidWord => rfl)
    (case xo_ParseError_InvalidWord => k_is)
    (case hv_ParseError_InvalidWord => rfl)
    (case xo_InvalidOperation_InvalidWord => k_is)
    (case hv_InvalidOperation_InvalidWord => rfl)
    (case xo_InvalidDraft_InvalidWord => k_is)
    (case hv_InvalidDraft_InvalidWord => rfl)
    (case xo_InvalidRoom_InvalidWord => k_is)
    (case hv_InvalidRoom_InvalidWord => rfl)
    (case xo_InvalidQuestion_InvalidWord => k_is)
    (case hv_InvalidQuestion_InvalidWord => rfl)
    (case xo_InvalidProgram_InvalidWord => k_is)
    (case hv_InvalidProgram_InvalidWord => rfl)
    (case xo_InvalidLibrary_InvalidWord => k_is)
    (case hv_InvalidLibrary_InvalidWord => rfl)
    (case xo_InvalidType_InvalidWord => k_is)
    (case hv_InvalidType_InvalidWord => rfl)
    (case xo_BuildError_InvalidWord => k_is)
    (case hv_BuildError_InvalidWord => rfl)
    (case xo_InvalidNumber_InvalidType => k_is)
    (case hv_InvalidNumber_InvalidType => rfl)
    (case xo_Refused_InvalidType => k_is)
    (case hv_Refused_InvalidType => rfl)
    (case xo_TooMany_InvalidType => k_is)
    (case hv_TooMany_InvalidType => rfl)
    (case xo_NothingToUndo_InvalidType => k_is)
    (case hv_NothingToUndo_InvalidType => rfl)
    (case xo_NoProgram_InvalidType => k_is)
    (case hv_NoProgram_InvalidType => rfl)
    (case xo_UnknownWord_InvalidType => k_is)
    (case hv_UnknownWord_InvalidType => rfl)
    (case xo_ParseError_InvalidType => k_is)
    (case hv_ParseError_InvalidType => rfl)
    (case xo_InvalidOperation_InvalidType => k_is)
    (case hv_InvalidOperation_InvalidType => rfl)
    (case xo_InvalidDraft_InvalidType => k_is)
    (case hv_InvalidDraft_InvalidType => rfl)
    (case xo_InvalidRoom_InvalidType => k_is)
    (case hv_InvalidRoom_InvalidType => rfl)
    (case xo_InvalidQuestion_InvalidType => k_is)
    (case hv_InvalidQuestion_InvalidType => rfl)
    (case xo_InvalidProgram_InvalidType => k_is)
    (case hv_InvalidProgram_InvalidType => rfl)
    (case xo_InvalidLibrary_InvalidType => k_is)
    (case hv_InvalidLibrary_InvalidType => rfl)
    (case xo_InvalidWord_InvalidType => k_is)
    (case hv_InvalidWord_InvalidType => rfl)
    (case xo_BuildError_InvalidType => k_is)
    (case hv_BuildError_InvalidType => rfl)
    (case xo_InvalidNumber_InvalidLibrary => k_is)
    (case hv_InvalidNumber_InvalidLibrary => rfl)
    (case xo_Refused_InvalidLibrary => k_is)
    (case hv_Refused_InvalidLibrary => rfl)
    (case xo_TooMany_InvalidLibrary => k_is)
    (case hv_TooMany_InvalidLibrary => rfl)
    (case xo_NothingToUndo_InvalidLibrary => k_is)
    (case hv_NothingToUndo_InvalidLibrary => rfl)
    (case xo_NoProgram_InvalidLibrary => k_is)
    (case hv_NoProgram_InvalidLibrary => rfl)
    (case xo_UnknownWord_InvalidLibrary => k_is)
    (case hv_UnknownWord_InvalidLibrary => rfl)
    (case xo_ParseError_InvalidLibrary => k_is)
    (case hv_ParseError_InvalidLibrary => rfl)
    (case xo_InvalidOperation_InvalidLibrary => k_is)
    (case hv_InvalidOperation_InvalidLibrary => rfl)
    (case xo_InvalidDraft_InvalidLibrary => k_is)
    (case hv_InvalidDraft_InvalidLibrary => rfl)
    (case xo_InvalidRoom_InvalidLibrary => k_is)
    (case hv_InvalidRoom_InvalidLibrary => rfl)
    (case xo_InvalidQuestion_InvalidLibrary => k_is)
    (case hv_InvalidQuestion_InvalidLibrary => rfl)
    (case xo_InvalidProgram_InvalidLibrary => k_is)
    (case hv_InvalidProgram_InvalidLibrary => rfl)
    (case xo_InvalidType_InvalidLibrary => k_is)
    (case hv_InvalidType_InvalidLibrary => rfl)
    (case xo_InvalidWord_InvalidLibrary => k_is)
    (case hv_InvalidWord_InvalidLibrary => rfl)
    (case xo_BuildError_InvalidLibrary => k_is)
    (case hv_BuildError_InvalidLibrary => rfl)
    (case xo_InvalidNumber_InvalidProgram => k_is)
    (case hv_InvalidNumber_InvalidProgram => rfl)
    (case xo_Refused_InvalidProgram => k_is)
    (case hv_Refused_InvalidProgram => rfl)
    (case xo_TooMany_InvalidProgram => k_is)
    (case hv_TooMany_InvalidProgram => rfl)
    (case xo_NothingToUndo_InvalidProgram => k_is)
    (case hv_NothingToUndo_InvalidProgram => rfl)
    (case xo_NoProgram_InvalidProgram => k_is)
    (case hv_NoProgram_InvalidProgram => rfl)
    (case xo_UnknownWord_InvalidProgram => k_is)
    (case hv_UnknownWord_InvalidProgram => rfl)
    (case xo_ParseError_InvalidProgram => k_is)
    (case hv_ParseError_InvalidProgram => rfl)
    (case xo_InvalidOperation_InvalidProgram => k_is)
    (case hv_InvalidOperation_InvalidProgram => rfl)
    (case xo_InvalidDraft_InvalidProgram => k_is)
    (case hv_InvalidDraft_InvalidProgram => rfl)
    (case xo_InvalidRoom_InvalidProgram => k_is)
    (case hv_InvalidRoom_InvalidProgram => rfl)
    (case xo_InvalidQuestion_InvalidProgram => k_is)
    (case hv_InvalidQuestion_InvalidProgram => rfl)
    (case xo_InvalidLibrary_InvalidProgram => k_is)
    (case hv_InvalidLibrary_InvalidProgram => rfl)
    (case xo_InvalidType_InvalidProgram => k_is)
    (case hv_InvalidType_InvalidProgram => rfl)
    (case xo_InvalidWord_InvalidProgram => k_is)
    (case hv_InvalidWord_InvalidProgram => rfl)
    (case xo_BuildError_InvalidProgram => k_is)
    (case hv_BuildError_InvalidProgram => rfl)
    (case xo_InvalidNumber_InvalidQuestion => k_is)
    (case hv_InvalidNumber_InvalidQuestion => rfl)
    (case xo_Refused_InvalidQuestion => k_is)
    (case hv_Refused_InvalidQuestion => rfl)
    (case xo_TooMany_InvalidQuestion => k_is)
    (case hv_TooMany_InvalidQuestion => rfl)
    (case xo_NothingToUndo_InvalidQuestion => k_is)
    (case hv_NothingToUndo_InvalidQuestion => rfl)
    (case xo_NoProgram_InvalidQuestion => k_is)
    (case hv_NoProgram_InvalidQuestion => rfl)
    (case xo_UnknownWord_InvalidQuestion => k_is)
    (case hv_UnknownWord_InvalidQuestion => rfl)
    (case xo_ParseError_InvalidQuestion => k_is)
    (case hv_ParseError_InvalidQuestion => rfl)
    (case xo_InvalidOperation_InvalidQuestion => k_is)
    (case hv_InvalidOperation_InvalidQuestion => rfl)
    (case xo_InvalidDraft_InvalidQuestion => k_is)
    (case hv_InvalidDraft_InvalidQuestion => rfl)
    (case xo_InvalidRoom_InvalidQuestion => k_is)
    (case hv_InvalidRoom_InvalidQuestion => rfl)
    (case xo_InvalidProgram_InvalidQuestion => k_is)
    (case hv_InvalidProgram_InvalidQuestion => rfl)
    (case xo_InvalidLibrary_InvalidQuestion => k_is)
    (case hv_InvalidLibrary_InvalidQuestion => rfl)
    (case xo_InvalidType_InvalidQuestion => k_is)
    (case hv_InvalidType_InvalidQuestion => rfl)
    (case xo_InvalidWord_InvalidQuestion => k_is)
    (case hv_InvalidWord_InvalidQuestion => rfl)
    (case xo_BuildError_InvalidQuestion => k_is)
    (case hv_BuildError_InvalidQuestion => rfl)
    (case xo_InvalidNumber_InvalidRoom => k_is)
    (case hv_InvalidNumber_InvalidRoom => rfl)
    (case xo_Refused_InvalidRoom => k_is)
    (case hv_Refused_InvalidRoom => rfl)
    (case xo_TooMany_InvalidRoom => k_is)
    (case hv_TooMany_InvalidRoom => rfl)
    (case xo_NothingToUndo_InvalidRoom => k_is)
    (case hv_NothingToUndo_InvalidRoom => rfl)
    (case xo_NoProgram_InvalidRoom => k_is)
    (case hv_NoProgram_InvalidRoom => rfl)
    (case xo_UnknownWord_InvalidRoom => k_is)
    (case hv_UnknownWord_InvalidRoom => rfl)
    (case xo_ParseError_InvalidRoom => k_is)
    (case hv_ParseError_InvalidRoom => rfl)
    (case xo_InvalidOperation_InvalidRoom => k_is)
    (case hv_InvalidOperation_InvalidRoom => rfl)
    (case xo_InvalidDraft_InvalidRoom => k_is)
    (case hv_InvalidDraft_InvalidRoom => rfl)
    (case xo_InvalidQuestion_InvalidRoom => k_is)
    (case hv_InvalidQuestion_InvalidRoom => rfl)
    (case xo_InvalidProgram_InvalidRoom => k_is)
    (case hv_InvalidProgram_InvalidRoom => rfl)
    (case xo_InvalidLibrary_InvalidRoom => k_is)
    (case hv_InvalidLibrary_InvalidRoom => rfl)
    (case xo_InvalidType_InvalidRoom => k_is)
    (case hv_InvalidType_InvalidRoom => rfl)
    (case xo_InvalidWord_InvalidRoom => k_is)
    (case hv_InvalidWord_InvalidRoom => rfl)
    (case xo_BuildError_InvalidRoom => k_is)
    (case hv_BuildError_InvalidRoom => rfl)
    (case xo_InvalidNumber_InvalidDraft => k_is)
    (case hv_InvalidNumber_InvalidDraft => rfl)
    (case xo_Refused_InvalidDraft => k_is)
    (case hv_Refused_InvalidDraft => rfl)
    (case xo_TooMany_InvalidDraft => k_is)
    (case hv_TooMany_InvalidDraft => rfl)
    (case xo_NothingToUndo_InvalidDraft => k_is)
    (case hv_NothingToUndo_InvalidDraft => rfl)
    (case xo_NoProgram_InvalidDraft => k_is)
    (case hv_NoProgram_InvalidDraft => rfl)
    (case xo_UnknownWord_InvalidDraft => k_is)
    (case hv_UnknownWord_InvalidDraft => rfl)
    (case xo_ParseError_InvalidDraft => k_is)
    (case hv_ParseError_InvalidDraft => rfl)
    (case xo_InvalidOperation_InvalidDraft => k_is)
    (case hv_InvalidOperation_InvalidDraft => rfl)
    (case xo_InvalidRoom_InvalidDraft => k_is)
    (case hv_InvalidRoom_InvalidDraft => rfl)
    (case xo_InvalidQuestion_InvalidDraft => k_is)
    (case hv_InvalidQuestion_InvalidDraft => rfl)
    (case xo_InvalidProgram_InvalidDraft => k_is)
    (case hv_InvalidProgram_InvalidDraft => rfl)
    (case xo_InvalidLibrary_InvalidDraft => k_is)
    (case hv_InvalidLibrary_InvalidDraft => rfl)
    (case xo_InvalidType_InvalidDraft => k_is)
    (case hv_InvalidType_InvalidDraft => rfl)
    (case xo_InvalidWord_InvalidDraft => k_is)
    (case hv_InvalidWord_InvalidDraft => rfl)
    (case xo_BuildError_InvalidDraft => k_is)
    (case hv_BuildError_InvalidDraft => rfl)
    (case xo_InvalidNumber_InvalidOperation => k_is)
    (case hv_InvalidNumber_InvalidOperation => rfl)
    (case xo_Refused_InvalidOperation => k_is)
    (case hv_Refused_InvalidOperation => rfl)
    (case xo_TooMany_InvalidOperation => k_is)
    (case hv_TooMany_InvalidOperation => rfl)
    (case xo_NothingToUndo_InvalidOperation => k_is)
    (case hv_NothingToUndo_InvalidOperation => rfl)
    (case xo_NoProgram_InvalidOperation => k_is)
    (case hv_NoProgram_InvalidOperation => rfl)
    (case xo_UnknownWord_InvalidOperation => k_is)
    (case hv_UnknownWord_InvalidOperation => rfl)
    (case xo_ParseError_InvalidOperation => k_is)
    (case hv_ParseError_InvalidOperation => rfl)
    (case xo_InvalidDraft_InvalidOperation => k_is)
    (case hv_InvalidDraft_InvalidOperation => rfl)
    (case xo_InvalidRoom_InvalidOperation => k_is)
    (case hv_InvalidRoom_InvalidOperation => rfl)
    (case xo_InvalidQuestion_InvalidOperation => k_is)
    (case hv_InvalidQuestion_InvalidOperation => rfl)
    (case xo_InvalidProgram_InvalidOperation => k_is)
    (case hv_InvalidProgram_InvalidOperation => rfl)
    (case xo_InvalidLibrary_InvalidOperation => k_is)
    (case hv_InvalidLibrary_InvalidOperation => rfl)
    (case xo_InvalidType_InvalidOperation => k_is)
    (case hv_InvalidType_InvalidOperation => rfl)
    (case xo_InvalidWord_InvalidOperation => k_is)
    (case hv_InvalidWord_InvalidOperation => rfl)
    (case xo_BuildError_InvalidOperation => k_is)
    (case hv_BuildError_InvalidOperation => rfl)
    (case xo_InvalidNumber_ParseError => k_is)
    (case hv_InvalidNumber_ParseError => rfl)
    (case xo_Refused_ParseError => k_is)
    (case hv_Refused_ParseError => rfl)
    (case xo_TooMany_ParseError => k_is)
    (case hv_TooMany_ParseError => rfl)
    (case xo_NothingToUndo_ParseError => k_is)
    (case hv_NothingToUndo_ParseError => rfl)
    (case xo_NoProgram_ParseError => k_is)
    (case hv_NoProgram_ParseError => rfl)
    (case xo_UnknownWord_ParseError => k_is)
    (case hv_UnknownWord_ParseError => rfl)
    (case xo_InvalidOperation_ParseError => k_is)
    (case hv_InvalidOperation_ParseError => rfl)
    (case xo_InvalidDraft_ParseError => k_is)
    (case hv_InvalidDraft_ParseError => rfl)
    (case xo_InvalidRoom_ParseError => k_is)
    (case hv_InvalidRoom_ParseError => rfl)
    (case xo_InvalidQuestion_ParseError => k_is)
    (case hv_InvalidQuestion_ParseError => rfl)
    (case xo_InvalidProgram_ParseError => k_is)
    (case hv_InvalidProgram_ParseError => rfl)
    (case xo_InvalidLibrary_ParseError => k_is)
    (case hv_InvalidLibrary_ParseError => rfl)
    (case xo_InvalidType_ParseError => k_is)
    (case hv_InvalidType_ParseError => rfl)
    (case xo_InvalidWord_ParseError => k_is)
    (case hv_InvalidWord_ParseError => rfl)
    (case xo_BuildError_ParseError => k_is)
    (case hv_BuildError_ParseError => rfl)
    (case xo_InvalidNumber_BuildError => k_is)
    (case hv_InvalidNumber_BuildError => rfl)
    (case xo_Refused_BuildError => k_is)
    (case hv_Refused_BuildError => rfl)
    (case xo_TooMany_BuildError => k_is)
    (case hv_TooMany_BuildError => rfl)
    (case xo_NothingToUndo_BuildError => k_is)
    (case hv_NothingToUndo_BuildError => rfl)
    (case xo_NoProgram_BuildError => k_is)
    (case hv_NoProgram_BuildError => rfl)
    (case xo_UnknownWord_BuildError => k_is)
    (case hv_UnknownWord_BuildError => rfl)
    (case xo_ParseError_BuildError => k_is)
    (case hv_ParseError_BuildError => rfl)
    (case xo_InvalidOperation_BuildError => k_is)
    (case hv_InvalidOperation_BuildError => rfl)
    (case xo_InvalidDraft_BuildError => k_is)
    (case hv_InvalidDraft_BuildError => rfl)
    (case xo_InvalidRoom_BuildError => k_is)
    (case hv_InvalidRoom_BuildError => rfl)
    (case xo_InvalidQuestion_BuildError => k_is)
    (case hv_InvalidQuestion_BuildError => rfl)
    (case xo_InvalidProgram_BuildError => k_is)
    (case hv_InvalidProgram_BuildError => rfl)
    (case xo_InvalidLibrary_BuildError => k_is)
    (case hv_InvalidLibrary_BuildError => rfl)
    (case xo_InvalidType_BuildError => k_is)
    (case hv_InvalidType_BuildError => rfl)
    (case xo_InvalidWord_BuildError => k_is)
    (case hv_InvalidWord_BuildError => rfl)
    (case xo_InvalidNumber_ValueError => k_is)
    (case xo_Refused_ValueError => k_is)
    (case xo_TooMany_ValueError => k_is)
    (case xo_NothingToUndo_ValueError => k_is)
    (case xo_NoProgram_ValueError => k_is)
    (case xo_UnknownWord_ValueError => k_is)
    (case xo_ParseError_ValueError => k_is)
    (case xo_InvalidOperation_ValueError => k_is)
    (case xo_InvalidDraft_ValueError => k_is)
    (case xo_InvalidRoom_ValueError => k_is)
    (case xo_InvalidQuestion_ValueError => k_is)
    (case xo_InvalidProgram_ValueError => k_is)
    (case xo_InvalidLibrary_ValueError => k_is)
    (case xo_InvalidType_ValueError => k_is)
    (case xo_InvalidWord_ValueError => k_is)
    (case xo_BuildError_ValueError => k_is)
    (case xo_InvalidNumber_UnknownWord => k_is)
    (case hv_InvalidNumber_UnknownWord => rfl)
    (case xo_Refused_UnknownWord => k_is)
    (case hv_Refused_UnknownWord => rfl)
    (case xo_TooMany_UnknownWord => k_is)
    (case hv_TooMany_UnknownWord => rfl)
    (case xo_NothingToUndo_UnknownWord => k_is)
    (case hv_NothingToUndo_UnknownWord => rfl)
    (case xo_NoProgram_UnknownWord => k_is)
    (case hv_NoProgram_UnknownWord => rfl)
    (case xo_ParseError_UnknownWord => k_is)
    (case hv_ParseError_UnknownWord => rfl)
    (case xo_InvalidOperation_UnknownWord => k_is)
    (case hv_InvalidOperation_UnknownWord => rfl)
    (case xo_InvalidDraft_UnknownWord => k_is)
    (case hv_InvalidDraft_UnknownWord => rfl)
    (case xo_InvalidRoom_UnknownWord => k_is)
    (case hv_InvalidRoom_UnknownWord => rfl)
    (case xo_InvalidQuestion_UnknownWord => k_is)
    (case hv_InvalidQuestion_UnknownWord => rfl)
    (case xo_InvalidProgram_UnknownWord => k_is)
    (case hv_InvalidProgram_UnknownWord => rfl)
    (case xo_InvalidLibrary_UnknownWord => k_is)
    (case hv_InvalidLibrary_UnknownWord => rfl)
    (case xo_InvalidType_UnknownWord => k_is)
    (case hv_InvalidType_UnknownWord => rfl)
    (case xo_InvalidWord_UnknownWord => k_is)
    (case hv_InvalidWord_UnknownWord => rfl)
    (case xo_BuildError_UnknownWord => k_is)
    (case hv_BuildError_UnknownWord => rfl)
    (case xo_InvalidNumber_NoProgram => k_is)
    (case hv_InvalidNumber_NoProgram => rfl)
    (case xo_Refused_NoProgram => k_is)
    (case hv_Refused_NoProgram => rfl)
    (case xo_TooMany_NoProgram => k_is)
    (case hv_TooMany_NoProgram => rfl)
    (case xo_NothingToUndo_NoProgram => k_is)
    (case hv_NothingToUndo_NoProgram => rfl)
    (case xo_UnknownWord_NoProgram => k_is)
    (case hv_UnknownWord_NoProgram => rfl)
    (case xo_ParseError_NoProgram => k_is)
    (case hv_ParseError_NoProgram => rfl)
    (case xo_InvalidOperation_NoProgram => k_is)
    (case hv_InvalidOperation_NoProgram => rfl)
    (case xo_InvalidDraft_NoProgram => k_is)
    (case hv_InvalidDraft_NoProgram => rfl)
    (case xo_InvalidRoom_NoProgram => k_is)
    (case hv_InvalidRoom_NoProgram => rfl)
    (case xo_InvalidQuestion_NoProgram => k_is)
    (case hv_InvalidQuestion_NoProgram => rfl)
    (case xo_InvalidProgram_NoProgram => k_is)
    (case hv_InvalidProgram_NoProgram => rfl)
    (case xo_InvalidLibrary_NoProgram => k_is)
    (case hv_InvalidLibrary_NoProgram => rfl)
    (case xo_InvalidType_NoProgram => k_is)
    (case hv_InvalidType_NoProgram => rfl)
    (case xo_InvalidWord_NoProgram => k_is)
    (case hv_InvalidWord_NoProgram => rfl)
    (case xo_BuildError_NoProgram => k_is)
    (case hv_BuildError_NoProgram => rfl)
    (case xo_InvalidNumber_NothingToUndo => k_is)
    (case hv_InvalidNumber_NothingToUndo => rfl)
    (case xo_Refused_NothingToUndo => k_is)
    (case hv_Refused_NothingToUndo => rfl)
    (case xo_TooMany_NothingToUndo => k_is)
    (case hv_TooMany_NothingToUndo => rfl)
    (case xo_NoProgram_NothingToUndo => k_is)
    (case hv_NoProgram_NothingToUndo => rfl)
    (case xo_UnknownWord_NothingToUndo => k_is)
    (case hv_UnknownWord_NothingToUndo => rfl)
    (case xo_ParseError_NothingToUndo => k_is)
    (case hv_ParseError_NothingToUndo => rfl)
    (case xo_InvalidOperation_NothingToUndo => k_is)
    (case hv_InvalidOperation_NothingToUndo => rfl)
    (case xo_InvalidDraft_NothingToUndo => k_is)
    (case hv_InvalidDraft_NothingToUndo => rfl)
    (case xo_InvalidRoom_NothingToUndo => k_is)
    (case hv_InvalidRoom_NothingToUndo => rfl)
    (case xo_InvalidQuestion_NothingToUndo => k_is)
    (case hv_InvalidQuestion_NothingToUndo => rfl)
    (case xo_InvalidProgram_NothingToUndo => k_is)
    (case hv_InvalidProgram_NothingToUndo => rfl)
    (case xo_InvalidLibrary_NothingToUndo => k_is)
    (case hv_InvalidLibrary_NothingToUndo => rfl)
    (case xo_InvalidType_NothingToUndo => k_is)
    (case hv_InvalidType_NothingToUndo => rfl)
    (case xo_InvalidWord_NothingToUndo => k_is)
    (case hv_InvalidWord_NothingToUndo => rfl)
    (case xo_BuildError_NothingToUndo => k_is)
    (case hv_BuildError_NothingToUndo => rfl)
    (case xo_InvalidNumber_TooMany => k_is)
    (case hv_InvalidNumber_TooMany => rfl)
    (case xo_Refused_TooMany => k_is)
    (case hv_Refused_TooMany => rfl)
    (case xo_NothingToUndo_TooMany => k_is)
    (case hv_NothingToUndo_TooMany => rfl)
    (case xo_NoProgram_TooMany => k_is)
    (case hv_NoProgram_TooMany => rfl)
    (case xo_UnknownWord_TooMany => k_is)
    (case hv_UnknownWord_TooMany => rfl)
    (case xo_ParseError_TooMany => k_is)
    (case hv_ParseError_TooMany => rfl)
    (case xo_InvalidOperation_TooMany => k_is)
    (case hv_InvalidOperation_TooMany => rfl)
    (case xo_InvalidDraft_TooMany => k_is)
    (case hv_InvalidDraft_TooMany => rfl)
    (case xo_InvalidRoom_TooMany => k_is)
    (case hv_InvalidRoom_TooMany => rfl)
    (case xo_InvalidQuestion_TooMany => k_is)
    (case hv_InvalidQuestion_TooMany => rfl)
    (case xo_InvalidProgram_TooMany => k_is)
    (case hv_InvalidProgram_TooMany => rfl)
    (case xo_InvalidLibrary_TooMany => k_is)
    (case hv_InvalidLibrary_TooMany => rfl)
    (case xo_InvalidType_TooMany => k_is)
    (case hv_InvalidType_TooMany => rfl)
    (case xo_InvalidWord_TooMany => k_is)
    (case hv_InvalidWord_TooMany => rfl)
    (case xo_BuildError_TooMany => k_is)
    (case hv_BuildError_TooMany => rfl)
    (case xo_InvalidNumber_Refused => k_is)
    (case hv_InvalidNumber_Refused => rfl)
    (case xo_TooMany_Refused => k_is)
    (case hv_TooMany_Refused => rfl)
    (case xo_NothingToUndo_Refused => k_is)
    (case hv_NothingToUndo_Refused => rfl)
    (case xo_NoProgram_Refused => k_is)
    (case hv_NoProgram_Refused => rfl)
    (case xo_UnknownWord_Refused => k_is)
    (case hv_UnknownWord_Refused => rfl)
    (case xo_ParseError_Refused => k_is)
    (case hv_ParseError_Refused => rfl)
    (case xo_InvalidOperation_Refused => k_is)
    (case hv_InvalidOperation_Refused => rfl)
    (case xo_InvalidDraft_Refused => k_is)
    (case hv_InvalidDraft_Refused => rfl)
    (case xo_InvalidRoom_Refused => k_is)
    (case hv_InvalidRoom_Refused => rfl)
    (case xo_InvalidQuestion_Refused => k_is)
    (case hv_InvalidQuestion_Refused => rfl)
    (case xo_InvalidProgram_Refused => k_is)
    (case hv_InvalidProgram_Refused => rfl)
    (case xo_InvalidLibrary_Refused => k_is)
    (case hv_InvalidLibrary_Refused => rfl)
    (case xo_InvalidType_Refused => k_is)
    (case hv_InvalidType_Refused => rfl)
    (case xo_InvalidWord_Refused => k_is)
    (case hv_InvalidWord_Refused => rfl)
    (case xo_BuildError_Refused => k_is)
    (case hv_BuildError_Refused => rfl)
    (case xo_Refused_InvalidNumber => k_is)
    (case hv_Refused_InvalidNumber => rfl)
    (case xo_TooMany_InvalidNumber => k_is)
    (case hv_TooMany_InvalidNumber => rfl)
    (case xo_NothingToUndo_InvalidNumber => k_is)
    (case hv_NothingToUndo_InvalidNumber => rfl)
    (case xo_NoProgram_InvalidNumber => k_is)
    (case hv_NoProgram_InvalidNumber => rfl)
    (case xo_UnknownWord_InvalidNumber => k_is)
    (case hv_UnknownWord_InvalidNumber => rfl)
    (case xo_ParseError_InvalidNumber => k_is)
    (case hv_ParseError_InvalidNumber => rfl)
    (case xo_InvalidOperation_InvalidNumber => k_is)
    (case hv_InvalidOperation_InvalidNumber => rfl)
    (case xo_InvalidDraft_InvalidNumber => k_is)
    (case hv_InvalidDraft_InvalidNumber => rfl)
    (case xo_InvalidRoom_InvalidNumber => k_is)
    (case hv_InvalidRoom_InvalidNumber => rfl)
    (case xo_InvalidQuestion_InvalidNumber => k_is)
    (case hv_InvalidQuestion_InvalidNumber => rfl)
    (case xo_InvalidProgram_InvalidNumber => k_is)
    (case hv_InvalidProgram_InvalidNumber => rfl)
    (case xo_InvalidLibrary_InvalidNumber => k_is)
    (case hv_InvalidLibrary_InvalidNumber => rfl)
    (case xo_InvalidType_InvalidNumber => k_is)
    (case hv_InvalidType_InvalidNumber => rfl)
    (case xo_InvalidWord_InvalidNumber => k_is)
    (case hv_InvalidWord_InvalidNumber => rfl)
    (case xo_BuildError_InvalidNumber => k_is)
    (case hv_BuildError_InvalidNumber => rfl)
    (case xo_InvalidNumber_KeyError => k_is)
    (case xo_Refused_KeyError => k_is)
    (case xo_TooMany_KeyError => k_is)
    (case xo_NothingToUndo_KeyError => k_is)
    (case xo_NoProgram_KeyError => k_is)
    (case xo_UnknownWord_KeyError => k_is)
    (case xo_ParseError_KeyError => k_is)
    (case xo_InvalidOperation_KeyError => k_is)
    (case xo_InvalidDraft_KeyError => k_is)
    (case xo_InvalidRoom_KeyError => k_is)
    (case xo_InvalidQuestion_KeyError => k_is)
    (case xo_InvalidProgram_KeyError => k_is)
    (case xo_InvalidLibrary_KeyError => k_is)
    (case xo_InvalidType_KeyError => k_is)
    (case xo_InvalidWord_KeyError => k_is)
    (case xo_BuildError_KeyError => k_is)
    (case xo_InvalidNumber_IndexError => k_is)
    (case xo_Refused_IndexError => k_is)
    (case xo_TooMany_IndexError => k_is)
    (case xo_NothingToUndo_IndexError => k_is)
    (case xo_NoProgram_IndexError => k_is)
    (case xo_UnknownWord_IndexError => k_is)
    (case xo_ParseError_IndexError => k_is)
    (case xo_InvalidOperation_IndexError => k_is)
    (case xo_InvalidDraft_IndexError => k_is)
    (case xo_InvalidRoom_IndexError => k_is)
    (case xo_InvalidQuestion_IndexError => k_is)
    (case xo_InvalidProgram_IndexError => k_is)
    (case xo_InvalidLibrary_IndexError => k_is)
    (case xo_InvalidType_IndexError => k_is)
    (case xo_InvalidWord_IndexError => k_is)
    (case xo_BuildError_IndexError => k_is)
    (case xo_InvalidNumber_LookupError => k_is)
    (case xo_Refused_LookupError => k_is)
    (case xo_TooMany_LookupError => k_is)
    (case xo_NothingToUndo_LookupError => k_is)
    (case xo_NoProgram_LookupError => k_is)
    (case xo_UnknownWord_LookupError => k_is)
    (case xo_ParseError_LookupError => k_is)
    (case xo_InvalidOperation_LookupError => k_is)
    (case xo_InvalidDraft_LookupError => k_is)
    (case xo_InvalidRoom_LookupError => k_is)
    (case xo_InvalidQuestion_LookupError => k_is)
    (case xo_InvalidProgram_LookupError => k_is)
    (case xo_InvalidLibrary_LookupError => k_is)
    (case xo_InvalidType_LookupError => k_is)
    (case xo_InvalidWord_LookupError => k_is)
    (case xo_BuildError_LookupError => k_is)
    (case xo_InvalidNumber_OverflowError => k_is)
    (case xo_Refused_OverflowError => k_is)
    (case xo_TooMany_OverflowError => k_is)
    (case xo_NothingToUndo_OverflowError => k_is)
    (case xo_NoProgram_OverflowError => k_is)
    (case xo_UnknownWord_OverflowError => k_is)
    (case xo_ParseError_OverflowError => k_is)
    (case xo_InvalidOperation_OverflowError => k_is)
    (case xo_InvalidDraft_OverflowError => k_is)
    (case xo_InvalidRoom_OverflowError => k_is)
    (case xo_InvalidQuestion_OverflowError => k_is)
    (case xo_InvalidProgram_OverflowError => k_is)
    (case xo_InvalidLibrary_OverflowError => k_is)
    (case xo_InvalidType_OverflowError => k_is)
    (case xo_InvalidWord_OverflowError => k_is)
    (case xo_BuildError_OverflowError => k_is)
    (case xo_InvalidNumber_ArithmeticError => k_is)
    (case xo_Refused_ArithmeticError => k_is)
    (case xo_TooMany_ArithmeticError => k_is)
    (case xo_NothingToUndo_ArithmeticError => k_is)
    (case xo_NoProgram_ArithmeticError => k_is)
    (case xo_UnknownWord_ArithmeticError => k_is)
    (case xo_ParseError_ArithmeticError => k_is)
    (case xo_InvalidOperation_ArithmeticError => k_is)
    (case xo_InvalidDraft_ArithmeticError => k_is)
    (case xo_InvalidRoom_ArithmeticError => k_is)
    (case xo_InvalidQuestion_ArithmeticError => k_is)
    (case xo_InvalidProgram_ArithmeticError => k_is)
    (case xo_InvalidLibrary_ArithmeticError => k_is)
    (case xo_InvalidType_ArithmeticError => k_is)
    (case xo_InvalidWord_ArithmeticError => k_is)
    (case xo_BuildError_ArithmeticError => k_is)
    (case xo_InvalidNumber_RuntimeError => k_is)
    (case xo_Refused_RuntimeError => k_is)
    (case xo_TooMany_RuntimeError => k_is)
    (case xo_NothingToUndo_RuntimeError => k_is)
    (case xo_NoProgram_RuntimeError => k_is)
    (case xo_UnknownWord_RuntimeError => k_is)
    (case xo_ParseError_RuntimeError => k_is)
    (case xo_InvalidOperation_RuntimeError => k_is)
    (case xo_InvalidDraft_RuntimeError => k_is)
    (case xo_InvalidRoom_RuntimeError => k_is)
    (case xo_InvalidQuestion_RuntimeError => k_is)
    (case xo_InvalidProgram_RuntimeError => k_is)
    (case xo_InvalidLibrary_RuntimeError => k_is)
    (case xo_InvalidType_RuntimeError => k_is)
    (case xo_InvalidWord_RuntimeError => k_is)
    (case xo_BuildError_RuntimeError => k_is)
    (case xZ_InvalidOperation => k_is)
    (case xZ_InvalidDraft => k_is)
    (case xZ_InvalidRoom => k_is)
    (case xZ_InvalidQuestion => k_is)
    (case xZ_InvalidProgram => k_is)
    (case xZ_InvalidLibrary => k_is)
    (case xZ_InvalidType => k_is)
    (case xZ_InvalidWord => k_is)
    (case xZ_BuildError => k_is)
#print axioms PySem.Challenge.cw_fromparts_k00_errors_and_what_they_keep_holds
