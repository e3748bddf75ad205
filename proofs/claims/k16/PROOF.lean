import PyProof.Rows.All
import Wide.All
import OpenK.AllK
import Wide.FinOn
import HandS.ForMost
import HandS.ForExc
import HandS.Walk
import HandS.IsInst
import HandS.RaiseMore
import HandS.TupAny
import HandS.Lambda
import HandS.NoneIn
import HandS.Wide
import PyProof.ListStr
import PyProof.ReprRoads
import HandS.More
import HandS.Property
import KE.KCallOwn
import HandS.Set
import PyProof.Rows.SortShellAny
import HandS.Star
import HandS.FStr
import HandS.DictComp
import HandS.IterVal
import KE.KOwnIter
import HandS.ClsMeth
import KE.KEqNest
import KE.KMinBuiltin
import OpenK.KMeth
import HandS.EndTab
import KE.KExcInit
import HandS.ExcField
import HandS.TryMany
import KE.GoesMore
import HandS.Zip
import KE.KDictZip
import KE.KItemsList
import HandS.StrMore
import PyProof.Rows.StrCountLaw
import PyProof.StrBlock2
import PyProof.MeetsIn
import PyProof.NeKinds
import PyProof.FactsAll.dict_2
import KE.KFmtOwn
import HandS.Defaults
import KE.KEqDict
import KE.KDictList
import KE.GoesEnum
import HandS.Replace
import HandS.ReplaceLit
import HandS.Iter
import HandS.Style
import HandS.Conv
import HandS.TupMul
import PyProof.Rows.CountFlat
import KE.DataCmp
import HandS.TupLe
import PyProof.Rows.SumAny
import KE.KDictSum
import HandS.Text
import KE.KRevSl
import PyProof.P3In
import HandS.Codes
import HandS.ReplaceList
import PyProof.StrLawsRepr
import PyProof.Fits
import KE.KExcLine
import PySem.Challenge.RW_fromparts_k16_whole_programs_and_their_t
set_option Elab.async false
set_option linter.all false
set_option maxRecDepth 100000
set_option maxHeartbeats 4000000
/-! FP1: a heap-free layer over HandS: data D, worlds, judgements whose readings speak of data alone. -/
namespace FP
open PySem L2
/-- a world: what never changes; what may change under all (the dice, the tables of code); the dice -/
structure Wd where
  H : Hp
  T : Addr → Prop
  Dc : Addr → Prop
/-- data without addresses (a lambda at hand is told by its place and the world at its making) -/
inductive D where
  | non | bl (b : Bool) | int (i : Int) | str (x : Str)
  | tup (xs : List D) | lst (xs : List D) | fz (xs : List D)
  | dct (kvs : List (Key × D)) | ins (c : Str) (fs : List (Str × D)) | tok | cl (c : Str)
  | fn (f : Addr) (W : Wd)
/-- the module: its names, the written part -/
structure Gm where
  mg : Str → Option Value
  K : PySem.W.Frag
/-- the tables of code, with the names of what is made there -/
class Tabl where
  B : List (Addr × Str)
variable [Tabl]
structure Le (W W' : Wd) : Prop where
  h : Same W.H W'.H
  t : ∀ a, W.T a → W'.T a
  dc : ∀ a, W.Dc a → W'.Dc a
theorem Le.refl (W : Wd) : Le W W := ⟨Same.refl _, fun _ h => h, fun _ h => h⟩
theorem Le.trans {W W1 W2 : Wd} (a : Le W W1) (b : Le W1 W2) : Le W W2 := ⟨a.h.trans b.h, fun x h => b.t x (a.t x h), fun x h => b.dc x (a.dc x h)⟩
mutual
inductive Rep (mg : Gm) (W : Wd) : V → D → Prop
  | non : Rep mg W .non .non
  | bl (b : Bool) : Rep mg W (.bl b) (.bl b)
  | int (i : Int) : Rep mg W (.int i) (.int i)
  | str (x : Str) : Rep mg W (.str x) (.str x)
  | tup {a : Addr} {vs : List V} {ds : List D} : W.H a = some (.tup vs) → Reps mg W vs ds → Rep mg W (.ref a) (.tup ds)
  | lst {a : Addr} {vs : List V} {ds : List D} : W.H a = some (.lst vs) → Reps mg W vs ds → Rep mg W (.ref a) (.lst ds)
  | fz {a : Addr} {vs : List V} {ds : List D} : SqL mg.K W.H a vs → Reps mg W vs ds → Rep mg W (.ref a) (.fz ds)
  | dct {a : Addr} {o : Obj} {kvs : List (Key × V)} {ds : List (Key × D)} : W.H a = some (.frz o (.dK kvs)) → kvs.map (·.1) = ds.map (·.1) → Reps mg W (kvs.map (·.2)) (ds.map (·.2)) → Rep mg W (.ref a) (.dct ds)
  | ins {a C dx : Addr} {fs : List (Str × V)} {c : Str} {ds : List (Str × D)} : mg.mg c = some (.ref C) → W.H a = some (.ins C dx fs) → fs.map (·.1) = ds.map (·.1) → Reps mg W (fs.map (·.2)) (ds.map (·.2)) → Rep mg W (.ref a) (.ins c ds)
  | tok {a : Addr} : W.Dc a → Rep mg W (.ref a) .tok
  | cl {C : Addr} {c : Str} : mg.mg c = some (.ref C) → Rep mg W (.ref C) (.cl c)
  | fn {f : Addr} {W0 : Wd} : Le W0 W → Rep mg W (.ref f) (.fn f W0)
inductive Reps (mg : Gm) (W : Wd) : List V → List D → Prop
  | nil : Reps mg W [] []
  | cons {v : V} {vs : List V} {d : D} {ds : List D} : Rep mg W v d → Reps mg W vs ds → Reps mg W (v :: vs) (d :: ds)
end
section
variable {mg : Gm} {W W' : Wd}
mutual
theorem Rep.mono (l : Le W W') : ∀ {v : V} {d : D}, Rep mg W v d → Rep mg W' v d
  | _, _, .non => .non
  | _, _, .bl b => .bl b
  | _, _, .int i => .int i
  | _, _, .str x => .str x
  | _, _, .tup h r => .tup (l.h _ _ h) (Reps.mono l r)
  | _, _, .lst h r => .lst (l.h _ _ h) (Reps.mono l r)
  | _, _, .fz h r => .fz (l.h.seq h) (Reps.mono l r)
  | _, _, .dct h e r => .dct (l.h _ _ h) e (Reps.mono l r)
  | _, _, .ins c h e r => .ins c (l.h _ _ h) e (Reps.mono l r)
  | _, _, .tok t => .tok (l.dc _ t)
  | _, _, .cl h => .cl h
  | _, _, .fn h => .fn (h.trans l)
theorem Reps.mono (l : Le W W') : ∀ {vs : List V} {ds : List D}, Reps mg W vs ds → Reps mg W' vs ds
  | _, _, .nil => .nil
  | _, _, .cons r t => .cons (Rep.mono l r) (Reps.mono l t)
end
theorem Reps.length : ∀ {vs : List V} {ds : List D}, Reps mg W vs ds → vs.length = ds.length
  | _, _, .nil => rfl
  | _, _, .cons _ t => congrArg (· + 1) (Reps.length t)
theorem Reps.append : ∀ {vs : List V} {ds : List D} {us : List V} {es : List D}, Reps mg W vs ds → Reps mg W us es → Reps mg W (vs ++ us) (ds ++ es)
  | _, _, _, _, .nil, s => s
  | _, _, _, _, .cons r t, s => .cons r (Reps.append t s)
theorem Reps.snoc {vs : List V} {ds : List D} {v : V} {d : D} (r : Reps mg W vs ds) (h : Rep mg W v d) : Reps mg W (vs ++ [v]) (ds ++ [d]) := r.append (.cons h .nil)
theorem Reps.get : ∀ {vs : List V} {ds : List D} {i : Nat} {d : D}, Reps mg W vs ds → ds[i]? = some d → ∃ v, vs[i]? = some v ∧ Rep mg W v d
  | _, _, _, _, .nil, e => by simp at e
  | _, _, 0, _, .cons r _, e => by
    simp at e
    subst e
    exact ⟨_, rfl, r⟩
  | _, _, i + 1, d, .cons _ t, e => by
    obtain ⟨v, h1, h2⟩ := Reps.get (i := i) (d := d) t (by simpa using e)
    exact ⟨v, by simpa using h1, h2⟩
theorem Reps.getV : ∀ {vs : List V} {ds : List D} {i : Nat} {v : V}, Reps mg W vs ds → vs[i]? = some v → ∃ d, ds[i]? = some d ∧ Rep mg W v d
  | _, _, _, _, .nil, e => by simp at e
  | _, _, 0, _, .cons r _, e => by
    simp at e
    subst e
    exact ⟨_, rfl, r⟩
  | _, _, i + 1, d, .cons _ t, e => by
    obtain ⟨v, h1, h2⟩ := Reps.getV (i := i) (v := d) t (by simpa using e)
    exact ⟨v, by simpa using h1, h2⟩
theorem Reps.drop : ∀ {vs : List V} {ds : List D} (n : Nat), Reps mg W vs ds → Reps mg W (vs.drop n) (ds.drop n)
  | _, _, 0, r => r
  | _, _, _ + 1, .nil => .nil
  | _, _, n + 1, .cons _ t => Reps.drop n t
theorem Reps.take : ∀ {vs : List V} {ds : List D} (n : Nat), Reps mg W vs ds → Reps mg W (vs.take n) (ds.take n)
  | _, _, 0, _ => .nil
  | _, _, _ + 1, .nil => .nil
  | _, _, n + 1, .cons r t => .cons r (Reps.take n t)
theorem Reps.eraseIdx : ∀ {vs : List V} {ds : List D} (n : Nat), Reps mg W vs ds → Reps mg W (vs.eraseIdx n) (ds.eraseIdx n)
  | _, _, _, .nil => .nil
  | _, _, 0, .cons _ t => t
  | _, _, n + 1, .cons r t => .cons r (Reps.eraseIdx n t)
theorem Reps.set : ∀ {vs : List V} {ds : List D} {v : V} {d : D} (n : Nat), Reps mg W vs ds → Rep mg W v d → Reps mg W (vs.set n v) (ds.set n d)
  | _, _, _, _, _, .nil, _ => .nil
  | _, _, _, _, 0, .cons _ t, h => .cons h t
  | _, _, _, _, n + 1, .cons r t, h => .cons r (Reps.set n t h)
theorem Reps.replicate {v : V} {d : D} (h : Rep mg W v d) : ∀ n, Reps mg W (List.replicate n v) (List.replicate n d)
  | 0 => .nil
  | n + 1 => .cons h (Reps.replicate h n)
theorem Reps.reverse : ∀ {vs : List V} {ds : List D}, Reps mg W vs ds → Reps mg W vs.reverse ds.reverse
  | _, _, .nil => .nil
  | _, _, .cons r t => by
    rw [List.reverse_cons, List.reverse_cons]
    exact (Reps.reverse t).snoc r
theorem Reps.ints : ∀ (ns : List Int), Reps mg W (ns.map V.int) (ns.map D.int)
  | [] => .nil
  | n :: r => .cons (.int n) (Reps.ints r)
theorem Reps.strs : ∀ (ns : List Str), Reps mg W (ns.map V.str) (ns.map D.str)
  | [] => .nil
  | n :: r => .cons (.str n) (Reps.strs r)
end
/-- the heap bears the world -/
structure Holds (W : Wd) (H : Hp) : Prop where
  same : Same W.H H
  exm : ∀ a, W.T a → W.H a = none ∧ ∃ o, H a = some o
  tok : ∀ a, W.Dc a → W.T a ∧ ∃ x y z, H a = some (.lst [.int x, .int y, .int z])
  tab : ∀ p ∈ Tabl.B, W.T p.1 ∧ LamX.TabS H p.1 p.2
  all : ∀ b ps, H b = some (.tbl ps) → ∃ q, (b, q) ∈ Tabl.B
/-- a new object of the unchanging part -/
def Wd.put (W : Wd) (p : Addr) (o : HO) : Wd := { W with H := upd W.H p o }
theorem Holds.nT {W : Wd} {H : Hp} (h : Holds W H) {p : Addr} (n : H p = none) : ¬ W.T p := fun t => by
  obtain ⟨_, o, e⟩ := h.exm p t
  rw [e] at n
  cases n
theorem Holds.lay {W : Wd} {H : Hp} (h : Holds W H) {p : Addr} {o : HO} (n : H p = none) (no : ∀ ps, o ≠ .tbl ps) : Holds W (upd H p o) := by
  have up : ∀ b u, H b = some u → upd H p o b = some u := fun b u e => by
    rw [upd_ne (ne_of_none e n)]
    exact e
  refine ⟨fun b u e => up b u (h.same b u e), fun a t => ?_, fun a t => ?_, fun q hq => ?_, fun b ps e => ?_⟩
  · obtain ⟨h1, u, h2⟩ := h.exm a t
    exact ⟨h1, u, up a u h2⟩
  · obtain ⟨h1, x, y, z, h2⟩ := h.tok a t
    exact ⟨h1, x, y, z, up a _ h2⟩
  · obtain ⟨h1, h2⟩ := h.tab q hq
    exact ⟨h1, h2.ext up⟩
  · by_cases hb : b = p
    · rw [hb, upd_same] at e
      exact absurd (Option.some.inj e) (no ps)
    · rw [upd_ne hb] at e
      exact h.all b ps e
theorem Holds.put {W : Wd} {H : Hp} (h : Holds W H) {p : Addr} {o : HO} (e : H p = some o) (nt : ¬ W.T p) : Holds (W.put p o) H := by
  refine ⟨fun b u q => ?_, fun a t => ?_, h.tok, h.tab, h.all⟩
  · by_cases hb : b = p
    · subst hb
      have q' : upd W.H b o b = some u := q
      rw [upd_same] at q'
      rw [e]
      exact q'
    · have q' : upd W.H p o b = some u := q
      rw [upd_ne hb] at q'
      exact h.same b u q'
  · have na : a ≠ p := fun q => nt (q ▸ t)
    obtain ⟨h1, r⟩ := h.exm a t
    refine ⟨?_, r⟩
    show upd W.H p o a = none
    rw [upd_ne na]
    exact h1
theorem Holds.own {W : Wd} {H : Hp} (h : Holds W H) {p : Addr} {o o' : HO} (e : H p = some o) (nw : W.H p = none) (nt : ¬ W.T p) (nx : ∀ φ, o ≠ .ext φ) (no : ∀ ps, o' ≠ .tbl ps) : Holds W (upd H p o') := by
  refine ⟨fun b u q => ?_, fun a t => ?_, fun a t => ?_, fun q hq => ?_, fun b ps q => ?_⟩
  · rw [upd_ne (ne_of_none q nw)]
    exact h.same b u q
  · have na : a ≠ p := fun q => nt (q ▸ t)
    obtain ⟨h1, u, h2⟩ := h.exm a t
    exact ⟨h1, u, by rw [upd_ne na]; exact h2⟩
  · obtain ⟨h1, x, y, z, h2⟩ := h.tok a t
    have na : a ≠ p := fun q => nt (q ▸ h1)
    exact ⟨h1, x, y, z, by rw [upd_ne na]; exact h2⟩
  · obtain ⟨h1, ps, h2, h3, h4⟩ := h.tab q hq
    have na : q.1 ≠ p := fun z => nt (z ▸ h1)
    refine ⟨h1, ps, by rw [upd_ne na]; exact h2, h3, fun pos cv hc => ?_⟩
    obtain ⟨c, e1, e2⟩ := h4 pos cv hc
    refine ⟨c, e1, ?_⟩
    have nc : c ≠ p := fun z => by
      rw [z, e] at e2
      exact nx _ (Option.some.inj e2)
    rw [upd_ne nc]
    exact e2
  · by_cases hb : b = p
    · rw [hb, upd_same] at q
      exact absurd (Option.some.inj q) (no ps)
    · rw [upd_ne hb] at q
      exact h.all b ps q
structure Step (W : Wd) (H : Hp) (W' : Wd) (H' : Hp) : Prop where
  le : Le W W'
  holds : Holds W' H'
  keep : ∀ b o, H b = some o → ¬ W.T b → H' b = some o
  fresh : ∀ b o, H b = some o → W'.H b = W.H b
  freshT : ∀ b, W'.T b → W.T b ∨ H b = none
  live : ∀ b o, H b = some o → ∃ o', H' b = some o'
theorem Step.refl {W : Wd} {H : Hp} (h : Holds W H) : Step W H W H :=
  ⟨Le.refl W, h, fun _ _ e _ => e, fun _ _ _ => rfl, fun _ t => .inl t, fun _ o e => ⟨o, e⟩⟩
theorem Step.trans {W W1 W2 : Wd} {H H1 H2 : Hp} (a : Step W H W1 H1) (b : Step W1 H1 W2 H2) : Step W H W2 H2 where
  le := a.le.trans b.le
  holds := b.holds
  keep := fun c o e n => by
    refine b.keep c o (a.keep c o e n) fun t => ?_
    rcases a.freshT c t with t | t
    · exact n t
    · rw [e] at t
      cases t
  fresh := fun c o e => by
    obtain ⟨o', e'⟩ := a.live c o e
    rw [b.fresh c o' e', a.fresh c o e]
  freshT := fun c t => by
    rcases b.freshT c t with t | t
    · exact a.freshT c t
    · refine .inr ?_
      cases q : H c with
      | none => rfl
      | some o =>
        obtain ⟨o', e'⟩ := a.live c o q
        rw [e'] at t
        cases t
  live := fun c o e => by
    obtain ⟨o', e'⟩ := a.live c o e
    exact b.live c o' e'
/-- from the same heap on, with a later world -/
theorem Step.rebase {W W1 : Wd} {H H1 : Hp} (a : Step W H W1 H1) : Step W1 H W1 H1 :=
  ⟨Le.refl W1, a.holds, fun b o e n => a.keep b o e fun t => n (a.le.t b t), fun _ _ _ => rfl, fun _ t => .inl t, a.live⟩
theorem Step.join {W W1 W2 : Wd} {H H1 H2 : Hp} (a : Step W H W1 H1) (b : Step W1 H W2 H2) : Step W H W2 H2 where
  le := a.le.trans b.le
  holds := b.holds
  keep := fun c o e n => b.keep c o e fun t => by
    rcases a.freshT c t with t | t
    · exact n t
    · rw [e] at t
      cases t
  fresh := fun c o e => (b.fresh c o e).trans (a.fresh c o e)
  freshT := fun c t => by
    rcases b.freshT c t with t | t
    · exact a.freshT c t
    · exact .inr t
  live := b.live
theorem Wd.put_le {W : Wd} {p : Addr} {o : HO} (nw : W.H p = none) : Le W (W.put p o) := ⟨fun b u e => by
  show upd W.H p o b = some u
  rw [upd_ne (ne_of_none e nw)]
  exact e, fun _ t => t, fun _ t => t⟩
theorem Step.alloc {W : Wd} {H : Hp} (h : Holds W H) {p : Addr} {o : HO} (n : H p = none) (no : ∀ ps, o ≠ .tbl ps := by intro _ h; cases h) : Step W H (W.put p o) (upd H p o) := by
  have nw : W.H p = none := h.same.free n
  refine ⟨Wd.put_le nw, (h.lay n no).put upd_same (h.nT n), fun b u e _ => ?_, fun b u e => ?_, fun b t => .inl t, fun b u e => ?_⟩
  · rw [upd_ne (ne_of_none e n)]
    exact e
  · show upd W.H p o b = W.H b
    rw [upd_ne (ne_of_none e n)]
  · exact ⟨u, by rw [upd_ne (ne_of_none e n)]; exact e⟩
/-- a new object beside the world (owned) -/
theorem Step.lay {W : Wd} {H : Hp} (h : Holds W H) {p : Addr} {o : HO} (n : H p = none) (no : ∀ ps, o ≠ .tbl ps := by intro _ h; cases h) : Step W H W (upd H p o) := by
  refine ⟨Le.refl W, h.lay n no, fun b u e _ => ?_, fun _ _ _ => rfl, fun b t => .inl t, fun b u e => ?_⟩
  · rw [upd_ne (ne_of_none e n)]
    exact e
  · exact ⟨u, by rw [upd_ne (ne_of_none e n)]; exact e⟩
/-- an owned thing is taken into the world -/
theorem Step.take {W : Wd} {H : Hp} (h : Holds W H) {p : Addr} {o : HO} (e : H p = some o) (nw : W.H p = none) (nt : ¬ W.T p) : Le W (W.put p o) ∧ Holds (W.put p o) H := ⟨Wd.put_le nw, h.put e nt⟩
/-- a step that ends with the taking in of an object that was not there at its start -/
theorem Step.taken {W W1 : Wd} {H H1 : Hp} (s : Step W H W1 H1) {p : Addr} {o : HO} (n : H p = none) (e : H1 p = some o) (nw : W1.H p = none) (nt : ¬ W1.T p) : Step W H (W1.put p o) H1 := by
  obtain ⟨l, h⟩ := Step.take s.holds e nw nt
  refine ⟨s.le.trans l, h, s.keep, fun b u q => ?_, s.freshT, s.live⟩
  show upd W1.H p o b = W.H b
  rw [upd_ne (ne_of_none q n)]
  exact s.fresh b u q
/-- an owned thing is changed -/
theorem Step.own {W W1 : Wd} {H H1 : Hp} (s : Step W H W1 H1) {p : Addr} {o o' : HO} (n : H p = none) (e : H1 p = some o) (nw : W1.H p = none) (nt : ¬ W1.T p) (nx : ∀ φ, o ≠ .ext φ := by intro _ h; cases h) (no : ∀ ps, o' ≠ .tbl ps := by intro _ h; cases h) : Step W H W1 (upd H1 p o') := by
  refine ⟨s.le, s.holds.own e nw nt nx no, fun b u q nq => ?_, s.fresh, s.freshT, fun b u q => ?_⟩
  · rw [upd_ne (ne_of_none q n)]
    exact s.keep b u q nq
  · by_cases hb : b = p
    · rw [hb]
      exact ⟨_, upd_same⟩
    · rw [upd_ne hb]
      exact s.live b u q
/-- a field of an owned object: a datum, an owned list, an owned list of owned lists -/
inductive OF where
  | d (x : D) | l (xs : List D) | ll (xss : List (List D))
/-- own lists in an own list, or in an own dict -/
inductive O2 where
  | ll (xss : List (List D)) | dl (kvs : List (Key × List D))
/-- a local name's place: nothing, a datum, a list that is this def's own, an object that is this def's own, an owned object whose fields may be owned lists (its addresses told) -/
inductive Sl where
  | no | d (x : D) | own (xs : List D) | ob (c : Str) (a : Addr) (fs : List (Str × D)) | ow (c : Str) (as : List Addr) (fs : List (Str × OF))
  | exc (a : Addr) (cls : Value) (d : Option Addr) (c : Str) (fs : List (Str × D))
  | od (kvs : List (Key × D))
  | o2 (as : List Addr) (x : O2)
abbrev Env := List Sl
/-- the addresses that a place owns -/
def Sl.fp (o : Option V) : Sl → List Addr
  | .own _ => match o with
    | some (.ref a) => [a]
    | _ => []
  | .od _ => match o with
    | some (.ref a) => [a]
    | _ => []
  | .ob _ a _ => [a]
  | .ow _ as _ => as
  | .o2 as _ => as
  | _ => []
/-- the inner lists -/
def Inn (mg : Gm) (W : Wd) (H : Hp) (Ls : List Addr) (xss : List (List D)) : Prop :=
  Ls.length = xss.length ∧ ∀ (i : Nat) (l : Addr) (xs : List D), Ls[i]? = some l → xss[i]? = some xs → ∃ vs, H l = some (.lst vs) ∧ Reps mg W vs xs
def O2R (mg : Gm) (W : Wd) (H : Hp) (a : Addr) (Ls : List Addr) : O2 → Prop
  | .ll xss => H a = some (.lst (Ls.map V.ref)) ∧ Inn mg W H Ls xss
  | .dl kvs => H a = some (.dK ((kvs.map (·.1)).zip (Ls.map V.ref))) ∧ Inn mg W H Ls (kvs.map (·.2))
/-- an owned field, with its addresses -/
def OFR (mg : Gm) (W : Wd) (H : Hp) (v : V) : OF → List Addr → Prop
  | .d x, as => as = [] ∧ Rep mg W v x
  | .l xs, as => ∃ L vs, as = [L] ∧ v = .ref L ∧ H L = some (.lst vs) ∧ Reps mg W vs xs
  | .ll xss, as => ∃ L Ls, as = L :: Ls ∧ v = .ref L ∧ H L = some (.lst (Ls.map V.ref)) ∧ Ls.length = xss.length ∧ ∀ (i : Nat) (l : Addr) (xs : List D), Ls[i]? = some l → xss[i]? = some xs → ∃ vs, H l = some (.lst vs) ∧ Reps mg W vs xs
def OFs (mg : Gm) (W : Wd) (H : Hp) : List (Str × V) → List (Str × OF) → List Addr → Prop
  | [], [], as => as = []
  | (f, v) :: vs, (g, x) :: fs, as => f = g ∧ ∃ as1 as2, as = as1 ++ as2 ∧ OFR mg W H v x as1 ∧ OFs mg W H vs fs as2
  | _, _, _ => False
/-- an exception's class and its dict -/
def ExcR (mg : Gm) (W : Wd) (cls : Value) (dd : Option Addr) (c : Str) (fs : List (Str × D)) : Prop :=
  ∃ C, mg.mg c = some (.ref C) ∧ cls = .ref C ∧ ((fs = [] ∧ dd = none) ∨ ∃ a vs, dd = some a ∧ W.H a = some (.xd vs) ∧ vs.map (·.1) = fs.map (·.1) ∧ Reps mg W (vs.map (·.2)) (fs.map (·.2)))
theorem ExcR.mono {mg : Gm} {W W' : Wd} {cls : Value} {dd : Option Addr} {c : Str} {fs : List (Str × D)} (h : ExcR mg W cls dd c fs) (l : Le W W') : ExcR mg W' cls dd c fs := by
  obtain ⟨C, h1, h2, h | ⟨a, vs, h3, h4, h5, h6⟩⟩ := h
  · exact ⟨C, h1, h2, .inl h⟩
  · exact ⟨C, h1, h2, .inr ⟨a, vs, h3, l.h _ _ h4, h5, h6.mono l⟩⟩
def SlR (mg : Gm) (B : Hp) (W : Wd) (H : Hp) (o : Option V) : Sl → Prop
  | .no => True
  | .exc a cls d c fs => o = some (.ref a) ∧ ExcR mg W cls d c fs
  | .d x => ∃ v, o = some v ∧ Rep mg W v x
  | .own xs => ∃ a vs, o = some (.ref a) ∧ H a = some (.lst vs) ∧ W.H a = none ∧ ¬ W.T a ∧ B a = none ∧ Reps mg W vs xs
  | .od kvs => ∃ a vs, o = some (.ref a) ∧ H a = some (.dK vs) ∧ W.H a = none ∧ ¬ W.T a ∧ B a = none ∧ vs.map (·.1) = kvs.map (·.1) ∧ Reps mg W (vs.map (·.2)) (kvs.map (·.2))
  | .ob c a fs => ∃ vs, o = some (.ref a) ∧ (∃ C dx, mg.mg c = some (.ref C) ∧ H a = some (.ins C dx vs)) ∧ W.H a = none ∧ ¬ W.T a ∧ B a = none ∧ vs.map (·.1) = fs.map (·.1) ∧ Reps mg W (vs.map (·.2)) (fs.map (·.2))
  | .ow c as fs => ∃ a as' vs, as = a :: as' ∧ o = some (.ref a) ∧ (∃ C dx, mg.mg c = some (.ref C) ∧ H a = some (.ins C dx vs)) ∧ OFs mg W H vs fs as' ∧ as.Nodup ∧ ∀ b ∈ as, (∃ u, H b = some u) ∧ W.H b = none ∧ ¬ W.T b ∧ B b = none
  | .o2 as x => ∃ a Ls, as = a :: Ls ∧ o = some (.ref a) ∧ O2R mg W H a Ls x ∧ as.Nodup ∧ ∀ b ∈ as, (∃ u, H b = some u) ∧ W.H b = none ∧ ¬ W.T b ∧ B b = none
structure EnvR (mg : Gm) (B : Hp) (W : Wd) (H : Hp) (σ : St) (ρ : Env) : Prop where
  len : σ.length = ρ.length
  sl : ∀ (i : Nat) (s : Sl), ρ[i]? = some s → ∃ o, σ[i]? = some o ∧ SlR mg B W H o s
  dis : ∀ (i j : Nat) (s t : Sl) (o o' : Option V) (a : Addr), i ≠ j → ρ[i]? = some s → ρ[j]? = some t → σ[i]? = some o → σ[j]? = some o' → a ∈ s.fp o → a ∈ t.fp o' → False
section
variable {mg : Gm} {B : Hp} {W W' : Wd} {H H' : Hp} {σ : St} {ρ : Env}
/-- what is mine has addresses of its own -/
theorem SlR.at {o : Option V} {s : Sl} (h : SlR mg B W H o s) {a : Addr} (m : a ∈ s.fp o) : ∃ u, H a = some u ∧ W.H a = none ∧ ¬ W.T a ∧ B a = none := by
  cases s with
  | no => cases m
  | exc => cases m
  | d x => cases m
  | own xs =>
    obtain ⟨b, vs, h1, h2, h3, h4, h5, _⟩ := h
    subst h1
    obtain rfl := List.mem_singleton.mp m
    exact ⟨_, h2, h3, h4, h5⟩
  | od xs =>
    obtain ⟨b, vs, h1, h2, h3, h4, h5, _⟩ := h
    subst h1
    obtain rfl := List.mem_singleton.mp m
    exact ⟨_, h2, h3, h4, h5⟩
  | ob c b fs =>
    obtain ⟨vs, h1, ⟨C, dx, _, h2⟩, h3, h4, h5, _⟩ := h
    obtain rfl := List.mem_singleton.mp m
    exact ⟨_, h2, h3, h4, h5⟩
  | ow c as fs =>
    obtain ⟨b, as', vs, _, _, _, _, _, k⟩ := h
    obtain ⟨⟨u, hu⟩, k⟩ := k a m
    exact ⟨u, hu, k⟩
  | o2 as x =>
    obtain ⟨b, Ls, _, _, _, _, k⟩ := h
    obtain ⟨⟨u, hu⟩, k⟩ := k a m
    exact ⟨u, hu, k⟩
theorem Inn.keep {Ls : List Addr} {xss : List (List D)} (h : Inn mg W H Ls xss) (l : Le W W') (k : ∀ b ∈ Ls, ∀ u, H b = some u → H' b = some u) : Inn mg W' H' Ls xss := ⟨h.1, fun i b xs q1 q2 => by
  obtain ⟨vs, g1, g2⟩ := h.2 i b xs q1 q2
  exact ⟨vs, k b (List.mem_of_getElem? q1) _ g1, g2.mono l⟩⟩
theorem O2R.keep {a : Addr} {Ls : List Addr} {x : O2} (h : O2R mg W H a Ls x) (l : Le W W') (k : ∀ b ∈ a :: Ls, ∀ u, H b = some u → H' b = some u) : O2R mg W' H' a Ls x := by
  cases x with
  | ll xss => exact ⟨k a List.mem_cons_self _ h.1, h.2.keep l fun b hb => k b (List.mem_cons_of_mem _ hb)⟩
  | dl kvs => exact ⟨k a List.mem_cons_self _ h.1, h.2.keep l fun b hb => k b (List.mem_cons_of_mem _ hb)⟩
theorem OFR.keep {v : V} {x : OF} {as : List Addr} (h : OFR mg W H v x as) (l : Le W W') (k : ∀ b ∈ as, ∀ u, H b = some u → H' b = some u) : OFR mg W' H' v x as := by
  cases x with
  | d x => exact ⟨h.1, h.2.mono l⟩
  | l xs =>
    obtain ⟨L, vs, rfl, h2, h3, h4⟩ := h
    exact ⟨L, vs, rfl, h2, k L (by simp) _ h3, h4.mono l⟩
  | ll xss =>
    obtain ⟨L, Ls, rfl, h2, h3, h4, h5⟩ := h
    refine ⟨L, Ls, rfl, h2, k L (by simp) _ h3, h4, fun i b xs q1 q2 => ?_⟩
    obtain ⟨vs, g1, g2⟩ := h5 i b xs q1 q2
    exact ⟨vs, k b (List.mem_cons_of_mem _ (List.mem_of_getElem? q1)) _ g1, g2.mono l⟩
theorem OFs.keep : ∀ {vs : List (Str × V)} {fs : List (Str × OF)} {as : List Addr}, OFs mg W H vs fs as → Le W W' → (∀ b ∈ as, ∀ u, H b = some u → H' b = some u) → OFs mg W' H' vs fs as
  | [], [], _, h, _, _ => h
  | _ :: _, _ :: _, _, ⟨e, as1, as2, rfl, h1, h2⟩, l, k => ⟨e, as1, as2, rfl, h1.keep l fun b hb => k b (List.mem_append_left _ hb), OFs.keep h2 l fun b hb => k b (List.mem_append_right _ hb)⟩
  | [], _ :: _, _, h, _, _ => h.elim
  | _ :: _, [], _, h, _, _ => h.elim
/-- a place is kept: the world grows, what is mine stands as it stood -/
theorem SlR.keep {o : Option V} {s : Sl} (h : SlR mg B W H o s) (l : Le W W') (k : ∀ a ∈ s.fp o, ∀ u, H a = some u → W.H a = none → ¬ W.T a → H' a = some u ∧ W'.H a = none ∧ ¬ W'.T a) : SlR mg B W' H' o s := by
  cases s with
  | no => exact True.intro
  | exc => exact ⟨h.1, h.2.mono l⟩
  | d x =>
    obtain ⟨v, q, r⟩ := h
    exact ⟨v, q, r.mono l⟩
  | own xs =>
    obtain ⟨a, vs, h1, h2, h3, h4, h5, r⟩ := h
    subst h1
    obtain ⟨k1, k2, k3⟩ := k a (List.mem_singleton.mpr rfl) _ h2 h3 h4
    exact ⟨a, vs, rfl, k1, k2, k3, h5, r.mono l⟩
  | od xs =>
    obtain ⟨a, vs, h1, h2, h3, h4, h5, hk, r⟩ := h
    subst h1
    obtain ⟨k1, k2, k3⟩ := k a (List.mem_singleton.mpr rfl) _ h2 h3 h4
    exact ⟨a, vs, rfl, k1, k2, k3, h5, hk, r.mono l⟩
  | ob c a fs =>
    obtain ⟨vs, h1, ⟨C, dx, hc, h2⟩, h3, h4, h5, hk, r⟩ := h
    obtain ⟨k1, k2, k3⟩ := k a (List.mem_singleton.mpr rfl) _ h2 h3 h4
    exact ⟨vs, h1, ⟨C, dx, hc, k1⟩, k2, k3, h5, hk, r.mono l⟩
  | ow c as fs =>
    obtain ⟨a, as', vs, rfl, h1, ⟨C, dx, hc, h2⟩, h3, h4, h5⟩ := h
    have kk : ∀ b ∈ a :: as', ∀ u, H b = some u → H' b = some u ∧ W'.H b = none ∧ ¬ W'.T b := fun b hb u hu => k b hb u hu (h5 b hb).2.1 (h5 b hb).2.2.1
    refine ⟨a, as', vs, rfl, h1, ⟨C, dx, hc, (kk a List.mem_cons_self _ h2).1⟩, h3.keep l fun b hb u hu => (kk b (List.mem_cons_of_mem _ hb) u hu).1, h4, fun b hb => ?_⟩
    obtain ⟨⟨u, hu⟩, _, _, g4⟩ := h5 b hb
    obtain ⟨k1, k2, k3⟩ := kk b hb u hu
    exact ⟨⟨u, k1⟩, k2, k3, g4⟩
  | o2 as x =>
    obtain ⟨a, Ls, rfl, h1, h3, h4, h5⟩ := h
    have kk : ∀ b ∈ a :: Ls, ∀ u, H b = some u → H' b = some u ∧ W'.H b = none ∧ ¬ W'.T b := fun b hb u hu => k b hb u hu (h5 b hb).2.1 (h5 b hb).2.2.1
    refine ⟨a, Ls, rfl, h1, h3.keep l fun b hb u hu => (kk b hb u hu).1, h4, fun b hb => ?_⟩
    obtain ⟨⟨u, hu⟩, _, _, g4⟩ := h5 b hb
    obtain ⟨k1, k2, k3⟩ := kk b hb u hu
    exact ⟨⟨u, k1⟩, k2, k3, g4⟩
theorem Step.mine {a : Addr} {u : HO} (s : Step W H W' H') (h2 : H a = some u) (h3 : W.H a = none) (h4 : ¬ W.T a) : H' a = some u ∧ W'.H a = none ∧ ¬ W'.T a := by
  refine ⟨s.keep a _ h2 h4, ?_, fun t => ?_⟩
  · rw [s.fresh a _ h2]
    exact h3
  · rcases s.freshT a t with t | t
    · exact h4 t
    · rw [h2] at t
      cases t
theorem EnvR.step (e : EnvR mg B W H σ ρ) (s : Step W H W' H') : EnvR mg B W' H' σ ρ := by
  refine ⟨e.len, fun i sl h => ?_, e.dis⟩
  obtain ⟨o, h1, h2⟩ := e.sl i sl h
  exact ⟨o, h1, h2.keep s.le fun a _ u h2 h3 h4 => s.mine h2 h3 h4⟩
theorem EnvR.get (e : EnvR mg B W H σ ρ) {i : Nat} {x : D} (h : ρ[i]? = some (.d x)) : ∃ v, σ[i]? = some (some v) ∧ Rep mg W v x := by
  obtain ⟨o, h1, v, q, r⟩ := e.sl i _ h
  exact ⟨v, by rw [h1, q], r⟩
theorem get_set {α : Type} {l : List α} {i j : Nat} {x y : α} (h : (l.set i x)[j]? = some y) : (i = j ∧ x = y) ∨ (i ≠ j ∧ l[j]? = some y) := by
  by_cases e : i = j
  · subst e
    refine .inl ⟨rfl, ?_⟩
    rw [List.getElem?_set_self'] at h
    cases q : l[i]? with
    | none =>
      rw [q] at h
      cases h
    | some z =>
      rw [q] at h
      exact Option.some.inj h
  · rw [List.getElem?_set_ne e] at h
    exact .inr ⟨e, h⟩
/-- a place is stored -/
theorem EnvR.put (e : EnvR mg B W H σ ρ) {i : Nat} {o : Option V} {s : Sl} (n : s.fp o = []) (r : SlR mg B W H o s) : EnvR mg B W H (σ.set i o) (ρ.set i s) := by
  refine ⟨by simpa using e.len, fun j t h => ?_, fun j k s1 s2 o1 o2 a hjk h1 h2 h3 h4 m1 m2 => ?_⟩
  · rcases get_set h with ⟨rfl, rfl⟩ | ⟨nj, h⟩
    · have hl : i < ρ.length := by simpa using (List.getElem?_eq_some_iff.mp h).1
      exact ⟨o, by rw [List.getElem?_set_self (by rw [e.len]; exact hl)], r⟩
    · obtain ⟨o', h1, h2⟩ := e.sl j t h
      exact ⟨o', by rw [List.getElem?_set_ne nj]; exact h1, h2⟩
  · rcases get_set h1 with ⟨e1, z⟩ | ⟨n1, h1⟩
    · rcases get_set h3 with ⟨_, z'⟩ | ⟨q, _⟩
      · rw [← z, ← z', n] at m1
        cases m1
      · exact q e1
    · rcases get_set h2 with ⟨e2, z⟩ | ⟨n2, h2⟩
      · rcases get_set h4 with ⟨_, z'⟩ | ⟨q, _⟩
        · rw [← z, ← z', n] at m2
          cases m2
        · exact q e2
      · rw [List.getElem?_set_ne n1] at h3
        rw [List.getElem?_set_ne n2] at h4
        exact e.dis j k s1 s2 o1 o2 a hjk h1 h2 h3 h4 m1 m2
/-- nothing is said of any place -/
def noEnv (ρ : Env) : Env := ρ.map fun _ => Sl.no
theorem EnvR.set (e : EnvR mg B W H σ ρ) {i : Nat} {v : V} {x : D} (r : Rep mg W v x) : EnvR mg B W H (σ.set i (some v)) (ρ.set i (.d x)) := e.put rfl ⟨v, rfl, r⟩
theorem EnvR.no (e : EnvR mg B W H σ ρ) {i : Nat} {o : Option V} : EnvR mg B W H (σ.set i o) (ρ.set i .no) := e.put rfl True.intro
/-- new things of one's own at a place -/
theorem EnvR.news (e : EnvR mg B W H σ ρ) {i : Nat} {o : Option V} {s : Sl} (st : Step W H W H') (n : ∀ a ∈ s.fp o, H a = none) (r : SlR mg B W H' o s) : EnvR mg B W H' (σ.set i o) (ρ.set i s) := by
  have e1 := e.step st
  have old : ∀ (j : Nat) (t : Sl) (o' : Option V) (b : Addr), ρ[j]? = some t → σ[j]? = some o' → b ∈ t.fp o' → b ∈ s.fp o → False := fun j t o' b h1 h2 m m' => by
    obtain ⟨o2, h3, h4⟩ := e.sl j _ h1
    rw [h2] at h3
    cases h3
    obtain ⟨u', h6, _⟩ := h4.at m
    rw [n b m'] at h6
    cases h6
  refine ⟨by simpa using e.len, fun j sl hj => ?_, fun j k s1 s2 o1 o2 a hjk h1 h2 h3 h4 m1 m2 => ?_⟩
  · rcases get_set hj with ⟨rfl, rfl⟩ | ⟨nj, hj⟩
    · have hl : i < ρ.length := by simpa using (List.getElem?_eq_some_iff.mp hj).1
      exact ⟨o, by rw [List.getElem?_set_self (by rw [e.len]; exact hl)], r⟩
    · obtain ⟨o', h1, h2⟩ := e1.sl j sl hj
      exact ⟨o', by rw [List.getElem?_set_ne nj]; exact h1, h2⟩
  · rcases get_set h1 with ⟨e1, z1⟩ | ⟨n1, h1⟩
    · rcases get_set h2 with ⟨q, _⟩ | ⟨n2, h2⟩
      · exact hjk (e1.symm.trans q)
      · rw [List.getElem?_set_ne n2] at h4
        rcases get_set h3 with ⟨_, q⟩ | ⟨q, _⟩
        · rw [← z1, ← q] at m1
          exact old k s2 o2 a h2 h4 m2 m1
        · exact q e1
    · rcases get_set h2 with ⟨e2, z2⟩ | ⟨n2, h2⟩
      · rw [List.getElem?_set_ne n1] at h3
        rcases get_set h4 with ⟨_, q⟩ | ⟨q, _⟩
        · rw [← z2, ← q] at m2
          exact old j s1 o1 a h1 h3 m1 m2
        · exact q e2
      · rw [List.getElem?_set_ne n1] at h3
        rw [List.getElem?_set_ne n2] at h4
        exact e.dis j k s1 s2 o1 o2 a hjk h1 h2 h3 h4 m1 m2
/-- a new list of one's own -/
theorem EnvR.setOwn (e : EnvR mg B W H σ ρ) (h : Holds W H) {i : Nat} {p : Addr} {vs : List V} {xs : List D} (n : H p = none) (nb : B p = none) (r : Reps mg W vs xs) : EnvR mg B W (upd H p (.lst vs)) (σ.set i (some (.ref p))) (ρ.set i (.own xs)) :=
  e.news (Step.lay h n) (fun a ha => by obtain rfl := List.mem_singleton.mp ha; exact n) ⟨p, vs, rfl, upd_same, h.same.free n, h.nT n, nb, r⟩
/-- what is mine at a place is changed, or another thing is said of the place: the heap differs at its addresses alone; new ones are new -/
theorem EnvR.turns (e : EnvR mg B W H σ ρ) {i : Nat} {o : Option V} {s s' : Sl} (hi : ρ[i]? = some s) (hs : σ[i]? = some o) (hH : ∀ b u, H b = some u → b ∉ s.fp o → H' b = some u) (hn : ∀ a ∈ s'.fp o, a ∈ s.fp o ∨ H a = none) (r : SlR mg B W H' o s') : EnvR mg B W H' σ (ρ.set i s') := by
  have off : ∀ (j : Nat) (t : Sl) (o' : Option V) (b : Addr), j ≠ i → ρ[j]? = some t → σ[j]? = some o' → b ∈ t.fp o' → b ∈ s'.fp o → False := fun j t o' b nj h1 h2 m m' => by
    rcases hn b m' with z | z
    · exact e.dis j i t s o' o b nj h1 hi h2 hs m z
    · obtain ⟨o2, h3, h4⟩ := e.sl j _ h1
      rw [h2] at h3
      cases h3
      obtain ⟨u', h6, _⟩ := h4.at m
      rw [z] at h6
      cases h6
  refine ⟨by simpa using e.len, fun j sl hj => ?_, fun j k s1 s2 o1 o2 a hjk h1 h2 h3 h4 m1 m2 => ?_⟩
  · rcases get_set hj with ⟨rfl, rfl⟩ | ⟨nj, hj⟩
    · exact ⟨_, hs, r⟩
    · obtain ⟨o', h1, h2⟩ := e.sl j sl hj
      exact ⟨o', h1, h2.keep (Le.refl W) fun a ha u h5 h6 h7 => ⟨hH a u h5 fun z => e.dis i j s sl o o' a nj hi hj hs h1 z ha, h6, h7⟩⟩
  · rcases get_set h1 with ⟨e1, z1⟩ | ⟨n1, h1⟩
    · rcases get_set h2 with ⟨q, _⟩ | ⟨n2, h2⟩
      · exact hjk (e1.symm.trans q)
      · subst e1
        rw [hs] at h3
        cases h3
        rw [← z1] at m1
        exact off k s2 o2 a (Ne.symm n2) h2 h4 m2 m1
    · rcases get_set h2 with ⟨e2, z2⟩ | ⟨n2, h2⟩
      · subst e2
        rw [hs] at h4
        cases h4
        rw [← z2] at m2
        exact off j s1 o1 a (Ne.symm n1) h1 h3 m1 m2
      · exact e.dis j k s1 s2 o1 o2 a hjk h1 h2 h3 h4 m1 m2
/-- one address of one's own is changed -/
theorem EnvR.turn (e : EnvR mg B W H σ ρ) {i : Nat} {p : Addr} {u : HO} {o : Option V} {s s' : Sl} (hi : ρ[i]? = some s) (hs : σ[i]? = some o) (m : p ∈ s.fp o) (hf : ∀ a ∈ s'.fp o, a ∈ s.fp o) (r : SlR mg B W (upd H p u) o s') : EnvR mg B W (upd H p u) σ (ρ.set i s') :=
  e.turns hi hs (fun b u' h n => by
    have ne : b ≠ p := fun q => n (by rw [q]; exact m)
    rw [upd_ne ne]
    exact h) (fun a ha => .inl (hf a ha)) r
/-- one's own list is changed -/
theorem EnvR.own (e : EnvR mg B W H σ ρ) {i : Nat} {p : Addr} {us vs : List V} {xs ys : List D} (hi : ρ[i]? = some (.own xs)) (hs : σ[i]? = some (some (.ref p))) (r : Reps mg W vs ys) : EnvR mg B W (upd H p (.lst vs)) σ (ρ.set i (.own ys)) := by
  obtain ⟨o, h1, h2⟩ := e.sl i _ hi
  rw [hs] at h1
  cases h1
  obtain ⟨u, h4, h5, h6, h7⟩ := h2.at (a := p) (List.mem_singleton.mpr rfl)
  exact e.turn hi hs (List.mem_singleton.mpr rfl) (fun _ h => h) ⟨p, vs, rfl, upd_same, h5, h6, h7, r⟩
/-- what is mine is handed to the world -/
theorem EnvR.give (e : EnvR mg B W H σ ρ) (h : Holds W H) {i : Nat} {p : Addr} {u : HO} {s : Sl} {x : D} (hi : ρ[i]? = some s) (hs : σ[i]? = some (some (.ref p))) (m : p ∈ s.fp (some (.ref p))) (hu : H p = some u) (hw : W.H p = none) (ht : ¬ W.T p) (r : Rep mg (W.put p u) (.ref p) x) : EnvR mg B (W.put p u) H σ (ρ.set i (.d x)) := by
  obtain ⟨l, hh⟩ := Step.take h hu hw ht
  refine ⟨by simpa using e.len, fun j sl hj => ?_, fun j k s1 s2 o1 o2 a hjk q1 q2 q3 q4 m1 m2 => ?_⟩
  · rcases get_set hj with ⟨rfl, rfl⟩ | ⟨nj, hj⟩
    · exact ⟨_, hs, _, rfl, r⟩
    · obtain ⟨o, g1, g2⟩ := e.sl j sl hj
      refine ⟨o, g1, g2.keep l fun a ha u' h5 h6 h7 => ⟨h5, ?_, h7⟩⟩
      show upd W.H p _ a = none
      have ne : a ≠ p := fun q => e.dis i j s sl _ o p nj hi hj hs g1 m (by rw [← q]; exact ha)
      rw [upd_ne ne]
      exact h6
  · rcases get_set q1 with ⟨_, z⟩ | ⟨n1, q1⟩
    · rw [← z] at m1
      cases m1
    · rcases get_set q2 with ⟨_, z⟩ | ⟨n2, q2⟩
      · rw [← z] at m2
        cases m2
      · exact e.dis j k s1 s2 o1 o2 a hjk q1 q2 q3 q4 m1 m2
/-- one's own list is handed to the world -/
theorem EnvR.freeze (e : EnvR mg B W H σ ρ) (h : Holds W H) {i : Nat} {xs : List D} (hi : ρ[i]? = some (.own xs)) :
    ∃ p vs, σ[i]? = some (some (.ref p)) ∧ H p = some (.lst vs) ∧ W.H p = none ∧ ¬ W.T p ∧ B p = none ∧ Reps mg W vs xs ∧ EnvR mg B (W.put p (.lst vs)) H σ (ρ.set i (.d (.lst xs))) := by
  obtain ⟨o, h1, p, vs, h2, h3, h4, h5, h6, r⟩ := e.sl i _ hi
  subst h2
  obtain ⟨l, hh⟩ := Step.take h h3 h4 h5
  exact ⟨p, vs, h1, h3, h4, h5, h6, r, e.give h hi h1 (List.mem_singleton.mpr rfl) h3 h4 h5 (.lst (show upd W.H p (.lst vs) p = _ from upd_same) (r.mono l))⟩
end
end FP
/-! FP2: judgements over data: expressions, tests, arguments, statements; a def's promise. -/
namespace FP
open PySem L2
variable [Tabl]
/-- an exception as a datum -/
structure XD where
  cls : Str
  fs : List (Str × D)
abbrev M (α : Type) := (α → Prop) → (XD → Prop) → Prop
abbrev DTE := Env → M D
abbrev DTT := Env → M Bool
abbrev DTA := Env → M (List D)
abbrev DTI := Env → M (List D)
structure Nd where
  nx : Env → Prop
  rt : D → Env → Prop
  bk : Env → Prop
  ct : Env → Prop
  rs : XD → Env → Prop
abbrev DTS := Nd → Env → Prop
abbrev F0 : XD → Prop := fun _ => False
abbrev Wx0 : WX := fun _ _ _ _ => False
def RepX (mg : Gm) (W : Wd) (_H : Hp) (cls : Value) (dd : Option Addr) (x : XD) : Prop := ExcR mg W cls dd x.cls x.fs
def ExR (mg : Gm) (Wx : WX) (W : Wd) (H : Hp) (σ : St) (E : XD → Prop) : Prop :=
  ∀ W' H' cls dd x, Step W H W' H' → RepX mg W' H' cls dd x → E x → Wx cls dd σ H'
theorem ExR.step {mg : Gm} {Wx : WX} {W W1 : Wd} {H H1 : Hp} {σ : St} {E : XD → Prop} (e : ExR mg Wx W H σ E) (s : Step W H W1 H1) : ExR mg Wx W1 H1 σ E :=
  fun W' H' cls dd x s' r h => e W' H' cls dd x (s.trans s') r h
theorem ExR.f0 {mg : Gm} {Wx : WX} {W : Wd} {H : Hp} {σ : St} : ExR mg Wx W H σ F0 := fun _ _ _ _ _ _ _ h => h.elim
/-- what is wanted behind a value, by its datum -/
abbrev ToV (mg : Gm) (W : Wd) (H : Hp) (Q : D → Prop) (Q' : VK) : Prop := ∀ W' H' v d, Step W H W' H' → Rep mg W' v d → Q d → Q' v H'
def Cp (mg : Gm) (Wx : WX) (t : TE) (f : DTE) : Prop := ∀ B ρ Q E, f ρ Q E → ∀ W σ H Q', Holds W H → EnvR mg B W H σ ρ → ExR mg Wx W H σ E → ToV mg W H Q Q' → t σ H Q'
def CpT (mg : Gm) (Wx : WX) (t : TT) (f : DTT) : Prop := ∀ B ρ Q E, f ρ Q E → ∀ W σ H Q', Holds W H → EnvR mg B W H σ ρ → ExR mg Wx W H σ E → (∀ W' H' b, Step W H W' H' → Q b → Q' b H') → t σ H Q'
def CpA (mg : Gm) (Wx : WX) (t : TA) (f : DTA) : Prop := ∀ B ρ Q E, f ρ Q E → ∀ W σ H Q', Holds W H → EnvR mg B W H σ ρ → ExR mg Wx W H σ E → (∀ W' H' vs ds, Step W H W' H' → Reps mg W' vs ds → Q ds → Q' vs H') → t σ H Q'
structure EndsR (mg : Gm) (Wx : WX) (W0 : Wd) (B : Hp) (N : Nd) (Ds : Ends) : Prop where
  nx : ∀ W' H' σ' ρ', Step W0 B W' H' → EnvR mg B W' H' σ' ρ' → N.nx ρ' → Ds.nx σ' H'
  rt : ∀ W' H' σ' ρ' v d, Step W0 B W' H' → EnvR mg B W' H' σ' ρ' → Rep mg W' v d → N.rt d ρ' → Ds.rt v H'
  bk : ∀ W' H' σ' ρ', Step W0 B W' H' → EnvR mg B W' H' σ' ρ' → N.bk ρ' → Ds.bk σ' H'
  ct : ∀ W' H' σ' ρ', Step W0 B W' H' → EnvR mg B W' H' σ' ρ' → N.ct ρ' → Ds.ct σ' H'
  rs : ∀ W' H' σ' ρ' cls dd x, Step W0 B W' H' → EnvR mg B W' H' σ' ρ' → RepX mg W' H' cls dd x → N.rs x ρ' → Wx cls dd σ' H'
def CpS (mg : Gm) (Wx : WX) (t : TS) (f : DTS) : Prop := ∀ W0 B N ρ, f N ρ → ∀ W σ H Ds, Step W0 B W H → EnvR mg B W H σ ρ → EndsR mg Wx W0 B N Ds → t Ds σ H
theorem EndsR.ex {mg : Gm} {Wx : WX} {W0 W : Wd} {B H : Hp} {N : Nd} {Ds : Ends} {σ : St} {ρ : Env} (n : EndsR mg Wx W0 B N Ds) (s : Step W0 B W H) (e : EnvR mg B W H σ ρ) : ExR mg Wx W H σ (fun x => N.rs x ρ) :=
  fun W' H' cls dd x s' r h => n.rs W' H' σ ρ cls dd x (s.trans s') (e.step s') r h
section
variable {ι : Type}
def DE (Xs : ι → Cx) (mg : Gm) (Wx : WX) (e : Expr) (f : DTE) : Prop := ∃ t, (∀ i, PE (Xs i) e t) ∧ Cp mg Wx t f
def DT (Xs : ι → Cx) (mg : Gm) (Wx : WX) (e : Expr) (f : DTT) : Prop := ∃ t, (∀ i, PT (Xs i) e t) ∧ CpT mg Wx t f
def DW (Xs : ι → Cx) (mg : Gm) (Wx : WX) (e : Expr) (f : DTT) : Prop := ∃ t, (∀ i, PW (Xs i) e t) ∧ CpT mg Wx t f
def DA (Xs : ι → Cx) (mg : Gm) (Wx : WX) (es : List Expr) (f : DTA) : Prop := ∃ t, (∀ i, PA (Xs i) es t) ∧ CpA mg Wx t f
def DS (Xs : ι → Cx) (mg : Gm) (Wx : WX) (st : Stmt) (f : DTS) : Prop := ∃ t, (∀ i, PS (Xs i) st t) ∧ CpS mg Wx t f
def DSs (Xs : ι → Cx) (mg : Gm) (Wx : WX) (st : List Stmt) (f : DTS) : Prop := ∃ t, (∀ i, PSs (Xs i) st t) ∧ CpS mg Wx t f
end
section
variable {ι : Type} {Xs : ι → Cx} {mg : Gm} {Wx : WX} {pos : Pos}
/-- one of two ways -/
def bit (b : Bool) (A B : Prop) : Prop := match b with
  | true => A
  | false => B
/-- a truth as a datum -/
def blc (d : D) (k : Bool → Prop) : Prop := match d with
  | .bl b => k b
  | _ => False
theorem bit_t (A B : Prop) : bit true A B = A := rfl
theorem bit_f (A B : Prop) : bit false A B = B := rfl
theorem bit_not (b : Bool) (A B : Prop) : bit (!b) A B = bit b B A := by cases b <;> rfl
theorem bit_dec (p : Prop) [Decidable p] (A B : Prop) : bit (decide p) A B = ((p → A) ∧ (¬ p → B)) := by
  by_cases h : p <;> simp [h, bit]
theorem blc_bl (b : Bool) (k : Bool → Prop) : blc (.bl b) k = k b := rfl
/-! ### what is new is locked -/
def tLk (t : TE) : TE := fun σ H Q => t σ H fun v H1 => ∃ p u, v = .ref p ∧ H1 p = some u ∧ Mut (some u) ∧ ∀ od, Q v (upd H1 p (.frz od u))
/-! ### names, constants -/
abbrev dVar (i : Nat) : DTE := fun ρ Q _ => match ρ[i]? with
  | some (.d x) => Q x
  | _ => False
theorem de_var (i : Nat) {x : Str} (hN : ∀ j, (Xs j).N[i]? = some x := by intro _; rfl) (hv : ∀ j, Vis (Xs j).env.scope x := by intro _; first | exact Or.inl rfl | exact Or.inr (Or.inl rfl) | exact Or.inr (Or.inr rfl))
    (hd : (x == ("__debug__" : Str)) = false := by decide) (hcd : (x == ("__classdict__" : Str)) = false := by decide) : DE Xs mg Wx (.Name x pos) (dVar i) := by
  refine ⟨tVar i, fun j => pe_var (hN j) (hv j) hd hcd, fun B ρ Q E h W σ H Q' hh e _ q => ?_⟩
  unfold dVar at h
  split at h
  · rename_i z hz
    obtain ⟨v, hv, r⟩ := e.get hz
    exact ⟨v, hv, q W H v z (Step.refl hh) r h⟩
  · exact h.elim
abbrev dC (x : D) : DTE := fun _ Q _ => Q x
theorem Cp.const {v : V} {d : D} (r : ∀ W, Rep mg W v d) : Cp mg Wx (tC v) (dC d) := fun B ρ Q E h W σ H Q' hh _ _ q => q W H v d (Step.refl hh) (r W) h
theorem de_int {i : Int} {j : Nat} : DE Xs mg Wx (.Constant (.int i) j pos) (dC (.int i)) := ⟨_, fun _ => pe_int, Cp.const fun _ => .int i⟩
theorem de_bl {b : Bool} {j : Nat} : DE Xs mg Wx (.Constant (.bool b) j pos) (dC (.bl b)) := ⟨_, fun _ => pe_bl, Cp.const fun _ => .bl b⟩
theorem de_non {j : Nat} : DE Xs mg Wx (.Constant .none j pos) (dC .non) := ⟨_, fun _ => pe_non, Cp.const fun _ => .non⟩
theorem de_str {x : Str} {j : Nat} : DE Xs mg Wx (.Constant (.str x) j pos) (dC (.str x)) := ⟨_, fun _ => pe_str, Cp.const fun _ => .str x⟩
theorem de_gint {x : Str} {i : Int} (hm' : ∃ tk, mg.mg x = some (.int i tk)) (hM : ∀ j, (Xs j).mg = mg.mg := by intro _; rfl) (hg : ∀ j, Gl (Xs j) x := by intro _; rfl) (hd : (x == ("__debug__" : Str)) = false := by decide) : DE Xs mg Wx (.Name x pos) (dC (.int i)) := by
  obtain ⟨tk, hm⟩ := hm'
  exact ⟨_, fun j => pe_glob (v := .int i) (hg j) (by rw [hM j]; exact hm) ⟨tk, rfl⟩ hd, Cp.const fun _ => .int i⟩
theorem de_gstr {x y : Str} (hm' : ∃ tk, mg.mg x = some (.str y tk)) (hM : ∀ j, (Xs j).mg = mg.mg := by intro _; rfl) (hg : ∀ j, Gl (Xs j) x := by intro _; rfl) (hd : (x == ("__debug__" : Str)) = false := by decide) : DE Xs mg Wx (.Name x pos) (dC (.str y)) := by
  obtain ⟨tk, hm⟩ := hm'
  exact ⟨_, fun j => pe_glob (v := .str y) (hg j) (by rw [hM j]; exact hm) ⟨tk, rfl⟩ hd, Cp.const fun _ => .str y⟩
/-! ### operators by data -/
abbrev RD2 := D → D → (D → Prop) → Prop
def OpD (mg : Gm) (r : R2) (rd : RD2) : Prop := ∀ W H x y dx dy Q Q', Holds W H → Rep mg W x dx → Rep mg W y dy → rd dx dy Q → ToV mg W H Q Q' → r x y H Q'
/-- an operator that reads data alone -/
def OpOk (Xs : ι → Cx) (mg : Gm) (f : Value → Value → Sem Value) (rd : RD2) : Prop := ∃ r, (∀ i, OpR (Xs i) f r) ∧ OpD mg r rd
abbrev dOp (rd : RD2) (fa fb : DTE) : DTE := fun ρ Q E => fa ρ (fun x => fb ρ (fun y => rd x y Q) E) E
theorem Cp.op {r : R2} {rd : RD2} {ta tb : TE} {fa fb : DTE} (o : OpD mg r rd) (ha : Cp mg Wx ta fa) (hb : Cp mg Wx tb fb) : Cp mg Wx (tOp r ta tb) (dOp rd fa fb) := by
  intro B ρ Q E h W σ H Q' hh e x q
  refine ha B ρ _ E h W σ H _ hh e x fun W1 H1 v1 d1 s1 r1 h1 => ?_
  refine hb B ρ _ E h1 W1 σ H1 _ s1.holds (e.step s1) (x.step s1) fun W2 H2 v2 d2 s2 r2 h2 => ?_
  exact o W2 H2 v1 v2 d1 d2 _ _ s2.holds (r1.mono s2.le) r2 h2 fun W3 H3 v3 d3 s3 r3 h3 => q W3 H3 v3 d3 ((s1.trans s2).trans s3) r3 h3
theorem de_op {op : Operator} {rd : RD2} {a b : Expr} {fa fb : DTE} (o : OpOk Xs mg (binaryOp op) rd) (ha : DE Xs mg Wx a fa) (hb : DE Xs mg Wx b fb) : DE Xs mg Wx (.BinOp a op b pos) (dOp rd fa fb) := by
  obtain ⟨r, h1, h2⟩ := o
  obtain ⟨ta, a1, a2⟩ := ha
  obtain ⟨tb, b1, b2⟩ := hb
  exact ⟨_, fun i => pe_op (h1 i) (a1 i) (b1 i), Cp.op h2 a2 b2⟩
theorem de_cmp {op : CmpOp} {rd : RD2} {a b : Expr} {fa fb : DTE} (o : OpOk Xs mg (compareOp op) rd) (ha : DE Xs mg Wx a fa) (hb : DE Xs mg Wx b fb) (hm : behindInMarks op b = false := by first | rfl | exact nomark _) : DE Xs mg Wx (.Compare a [op] [b] pos) (dOp rd fa fb) := by
  obtain ⟨r, h1, h2⟩ := o
  obtain ⟨ta, a1, a2⟩ := ha
  obtain ⟨tb, b1, b2⟩ := hb
  exact ⟨_, fun i => pe_cmpR (h1 i) (a1 i) (b1 i) hm, Cp.op h2 a2 b2⟩
abbrev dChain (r r' : RD2) (fa fb fc : DTE) : DTE := fun ρ Q E => fa ρ (fun x => fb ρ (fun y => r x y fun z => blc z fun b => bit b (fc ρ (fun w => r' y w Q) E) (Q (.bl false))) E) E
theorem Cp.chain {r r' : R2} {rd rd' : RD2} {ta tb tc : TE} {fa fb fc : DTE} (h2 : OpD mg r rd) (h2' : OpD mg r' rd') (a2 : Cp mg Wx ta fa) (b2 : Cp mg Wx tb fb) (c2 : Cp mg Wx tc fc) : Cp mg Wx (tChain r r' ta tb tc) (dChain rd rd' fa fb fc) := by
  intro B ρ Q E h W σ H Q' hh e x q
  refine a2 B ρ _ E h W σ H _ hh e x fun W1 H1 v1 d1 s1 r1 h1 => ?_
  refine b2 B ρ _ E h1 W1 σ H1 _ s1.holds (e.step s1) (x.step s1) fun W2 H2 v2 d2 s2 r2 h2x => ?_
  refine h2 W2 H2 v1 v2 d1 d2 _ _ s2.holds (r1.mono s2.le) r2 h2x fun W3 H3 v3 d3 s3 r3 h3 => ?_
  have s13 := (s1.trans s2).trans s3
  cases r3 with
  | bl k =>
    refine ⟨k, rfl, ?_⟩
    cases k with
    | true =>
      rw [if_pos rfl]
      refine c2 B ρ _ E h3 W3 σ H3 _ s3.holds (e.step s13) (x.step s13) fun W4 H4 v4 d4 s4 r4 h4 => ?_
      exact h2' W4 H4 v2 v4 d2 d4 _ _ s4.holds ((r2.mono s3.le).mono s4.le) r4 h4 fun W5 H5 v5 d5 s5 r5 h5 => q W5 H5 v5 d5 ((s13.trans s4).trans s5) r5 h5
    | false =>
      rw [if_neg Bool.false_ne_true]
      exact q W3 H3 _ _ s13 (.bl false) h3
  | _ => exact h3.elim
theorem de_chain {op op' : CmpOp} {rd rd' : RD2} {a b c : Expr} {fa fb fc : DTE} (o : OpOk Xs mg (compareOp op) rd) (o' : OpOk Xs mg (compareOp op') rd') (ha : DE Xs mg Wx a fa) (hb : DE Xs mg Wx b fb) (hc : DE Xs mg Wx c fc) (hm : lastMarks [op, op'] [b, c] = false := by with_unfolding_all rfl) : DE Xs mg Wx (.Compare a [op, op'] [b, c] pos) (dChain rd rd' fa fb fc) := by
  obtain ⟨r, h1, h2⟩ := o
  obtain ⟨r', h1', h2'⟩ := o'
  obtain ⟨ta, a1, a2⟩ := ha
  obtain ⟨tb, b1, b2⟩ := hb
  obtain ⟨tc, c1, c2⟩ := hc
  exact ⟨_, fun i => pe_chain (h1 i) (h1' i) (a1 i) (b1 i) (c1 i) hm, Cp.chain h2 h2' a2 b2 c2⟩
/-! ### tests -/
abbrev dB (f : DTE) : DTT := fun ρ Q E => f ρ (fun x => blc x Q) E
theorem Cp.b {t : TE} {f : DTE} (h : Cp mg Wx t f) : CpT mg Wx (tB t) (dB f) := by
  intro B ρ Q E hf W σ H Q' hh e x q
  refine h B ρ _ E hf W σ H _ hh e x fun W1 H1 v1 d1 s1 r1 h1 => ?_
  cases r1 with
  | bl b => exact ⟨b, rfl, q W1 H1 b s1 h1⟩
  | _ => exact h1.elim
theorem dt_val {e : Expr} {f : DTE} (h : DE Xs mg Wx e f) (he : ∀ i whole, isTrue e (Xs i).env whole = (do let v ← whole; standAt e.pos; holding [v] (truthy v)) := by intro _ _; rfl) : DT Xs mg Wx e (dB f) := by
  obtain ⟨t, h1, h2⟩ := h
  exact ⟨_, fun i => pt_val (h1 i) (he i), h2.b⟩
theorem dt_cmp {op : CmpOp} {rd : RD2} {a b : Expr} {fa fb : DTE} (o : OpOk Xs mg (compareOp op) rd) (ha : DE Xs mg Wx a fa) (hb : DE Xs mg Wx b fb) (hm : behindInMarks op b = false := by first | rfl | exact nomark _) : DT Xs mg Wx (.Compare a [op] [b] pos) (dB (dOp rd fa fb)) := by
  obtain ⟨r, h1, h2⟩ := o
  obtain ⟨ta, a1, a2⟩ := ha
  obtain ⟨tb, b1, b2⟩ := hb
  exact ⟨_, fun i => pt_cmpR (h1 i) (a1 i) (b1 i) hm, Cp.b (Cp.op h2 a2 b2)⟩
theorem dt_chain {op op' : CmpOp} {rd rd' : RD2} {a b c : Expr} {fa fb fc : DTE} (o : OpOk Xs mg (compareOp op) rd) (o' : OpOk Xs mg (compareOp op') rd') (ha : DE Xs mg Wx a fa) (hb : DE Xs mg Wx b fb) (hc : DE Xs mg Wx c fc) (hm : lastMarks [op, op'] [b, c] = false := by with_unfolding_all rfl) : DT Xs mg Wx (.Compare a [op, op'] [b, c] pos) (dB (dChain rd rd' fa fb fc)) := by
  obtain ⟨r, h1, h2⟩ := o
  obtain ⟨r', h1', h2'⟩ := o'
  obtain ⟨ta, a1, a2⟩ := ha
  obtain ⟨tb, b1, b2⟩ := hb
  obtain ⟨tc, c1, c2⟩ := hc
  exact ⟨_, fun i => pt_chain (h1 i) (h1' i) (a1 i) (b1 i) (c1 i) hm, Cp.b (Cp.chain h2 h2' a2 b2 c2)⟩
abbrev dAnd (f g : DTT) : DTT := fun ρ Q E => f ρ (fun c => bit c (g ρ Q E) (Q false)) E
abbrev dOr (f g : DTT) : DTT := fun ρ Q E => f ρ (fun c => bit c (Q true) (g ρ Q E)) E
abbrev dNot (f : DTT) : DTT := fun ρ Q E => f ρ (fun c => Q (!c)) E
theorem dw_and1 {a : Expr} {f : DTT} (h : DT Xs mg Wx a f) : DW Xs mg Wx (.BoolOp .And [a] pos) f := by
  obtain ⟨t, h1, h2⟩ := h
  exact ⟨t, fun i => pw_and1 (h1 i), h2⟩
theorem dw_or1 {a : Expr} {f : DTT} (h : DT Xs mg Wx a f) : DW Xs mg Wx (.BoolOp .Or [a] pos) f := by
  obtain ⟨t, h1, h2⟩ := h
  exact ⟨t, fun i => pw_or1 (h1 i), h2⟩
theorem dw_and {a b : Expr} {rest : List Expr} {f g : DTT} (h : DT Xs mg Wx a f) (h' : DW Xs mg Wx (.BoolOp .And (b :: rest) pos) g) : DW Xs mg Wx (.BoolOp .And (a :: b :: rest) pos) (dAnd f g) := by
  obtain ⟨t, h1, h2⟩ := h
  obtain ⟨u, g1, g2⟩ := h'
  refine ⟨_, fun i => pw_and (h1 i) (g1 i), ?_⟩
  intro B ρ Q E hf W σ H Q' hh e x q
  refine h2 B ρ _ E hf W σ H _ hh e x fun W1 H1 c s1 k1 => ?_
  cases c with
  | true =>
    rw [if_pos rfl]
    exact g2 B ρ Q E k1 W1 σ H1 _ s1.holds (e.step s1) (x.step s1) fun W2 H2 b s2 k2 => q W2 H2 b (s1.trans s2) k2
  | false =>
    rw [if_neg Bool.false_ne_true]
    exact q W1 H1 false s1 k1
theorem dw_or {a b : Expr} {rest : List Expr} {f g : DTT} (h : DT Xs mg Wx a f) (h' : DW Xs mg Wx (.BoolOp .Or (b :: rest) pos) g) : DW Xs mg Wx (.BoolOp .Or (a :: b :: rest) pos) (dOr f g) := by
  obtain ⟨t, h1, h2⟩ := h
  obtain ⟨u, g1, g2⟩ := h'
  refine ⟨_, fun i => pw_or (h1 i) (g1 i), ?_⟩
  intro B ρ Q E hf W σ H Q' hh e x q
  refine h2 B ρ _ E hf W σ H _ hh e x fun W1 H1 c s1 k1 => ?_
  cases c with
  | true =>
    rw [if_pos rfl]
    exact q W1 H1 true s1 k1
  | false =>
    rw [if_neg Bool.false_ne_true]
    exact g2 B ρ Q E k1 W1 σ H1 _ s1.holds (e.step s1) (x.step s1) fun W2 H2 b s2 k2 => q W2 H2 b (s1.trans s2) k2
theorem dt_w {e : Expr} {f : DTT} (h : DW Xs mg Wx e f) : DT Xs mg Wx e f := by
  obtain ⟨t, h1, h2⟩ := h
  exact ⟨t, fun i => (h1 i).pt, h2⟩
theorem dt_not {a : Expr} {f : DTT} (h : DT Xs mg Wx a f) : DT Xs mg Wx (.UnaryOp .Not a pos) (dNot f) := by
  obtain ⟨t, h1, h2⟩ := h
  exact ⟨_, fun i => pt_not (h1 i), fun B ρ Q E hf W σ H Q' hh e x q => h2 B ρ _ E hf W σ H _ hh e x fun W1 H1 c s1 k1 => q W1 H1 _ s1 k1⟩
/-- and, or, not as values (bools) -/
abbrev dAndV (f g : DTE) : DTE := fun ρ Q E => f ρ (fun c => blc c fun b => bit b (g ρ Q E) (Q (.bl false))) E
abbrev dOrV (f g : DTE) : DTE := fun ρ Q E => f ρ (fun c => blc c fun b => bit b (Q (.bl true)) (g ρ Q E)) E
abbrev dNotV (f : DTE) : DTE := fun ρ Q E => f ρ (fun c => blc c fun b => Q (.bl (!b))) E
theorem de_one {op : BoolOp} {a : Expr} {f : DTE} (h : DE Xs mg Wx a f) : DE Xs mg Wx (.BoolOp op [a] pos) f := by
  obtain ⟨t, h1, h2⟩ := h
  exact ⟨t, fun i => pe_one (h1 i), h2⟩
theorem de_and {a b : Expr} {rest : List Expr} {f g : DTE} (h : DE Xs mg Wx a f) (h' : DE Xs mg Wx (.BoolOp .And (b :: rest) pos) g) : DE Xs mg Wx (.BoolOp .And (a :: b :: rest) pos) (dAndV f g) := by
  obtain ⟨t, h1, h2⟩ := h
  obtain ⟨u, g1, g2⟩ := h'
  refine ⟨_, fun i => pe_and (h1 i) (g1 i), ?_⟩
  intro B ρ Q E hf W σ H Q' hh e x q
  refine h2 B ρ _ E hf W σ H _ hh e x fun W1 H1 v d s1 r1 k1 => ?_
  cases r1 with
  | bl c =>
    refine ⟨c, rfl, ?_⟩
    cases c with
    | true =>
      rw [if_pos rfl]
      exact g2 B ρ Q E k1 W1 σ H1 _ s1.holds (e.step s1) (x.step s1) fun W2 H2 v d s2 r2 k2 => q W2 H2 v d (s1.trans s2) r2 k2
    | false =>
      rw [if_neg Bool.false_ne_true]
      exact q W1 H1 _ _ s1 (.bl false) k1
  | _ => exact k1.elim
theorem de_or {a b : Expr} {rest : List Expr} {f g : DTE} (h : DE Xs mg Wx a f) (h' : DE Xs mg Wx (.BoolOp .Or (b :: rest) pos) g) : DE Xs mg Wx (.BoolOp .Or (a :: b :: rest) pos) (dOrV f g) := by
  obtain ⟨t, h1, h2⟩ := h
  obtain ⟨u, g1, g2⟩ := h'
  refine ⟨_, fun i => pe_or (h1 i) (g1 i), ?_⟩
  intro B ρ Q E hf W σ H Q' hh e x q
  refine h2 B ρ _ E hf W σ H _ hh e x fun W1 H1 v d s1 r1 k1 => ?_
  cases r1 with
  | bl c =>
    refine ⟨c, rfl, ?_⟩
    cases c with
    | true =>
      rw [if_pos rfl]
      exact q W1 H1 _ _ s1 (.bl true) k1
    | false =>
      rw [if_neg Bool.false_ne_true]
      exact g2 B ρ Q E k1 W1 σ H1 _ s1.holds (e.step s1) (x.step s1) fun W2 H2 v d s2 r2 k2 => q W2 H2 v d (s1.trans s2) r2 k2
  | _ => exact k1.elim
theorem de_not {a : Expr} {f : DTE} (h : DE Xs mg Wx a f) : DE Xs mg Wx (.UnaryOp .Not a pos) (dNotV f) := by
  obtain ⟨t, h1, h2⟩ := h
  refine ⟨_, fun i => pe_not (h1 i), fun B ρ Q E hf W σ H Q' hh e x q => h2 B ρ _ E hf W σ H _ hh e x fun W1 H1 v d s1 r1 k1 => ?_⟩
  cases r1 with
  | bl c => exact ⟨c, rfl, q W1 H1 _ _ s1 (.bl _) k1⟩
  | _ => exact k1.elim
abbrev dIf (c : DTT) (f g : DTE) : DTE := fun ρ Q E => c ρ (fun b => bit b (f ρ Q E) (g ρ Q E)) E
theorem de_if {c a b : Expr} {fc : DTT} {fa fb : DTE} (hc : DT Xs mg Wx c fc) (ha : DE Xs mg Wx a fa) (hb : DE Xs mg Wx b fb) : DE Xs mg Wx (.IfExp c a b pos) (dIf fc fa fb) := by
  obtain ⟨tc, c1, c2⟩ := hc
  obtain ⟨ta, a1, a2⟩ := ha
  obtain ⟨tb, b1, b2⟩ := hb
  refine ⟨_, fun i => pe_ifExp (c1 i) (a1 i) (b1 i), ?_⟩
  intro B ρ Q E hf W σ H Q' hh e x q
  refine c2 B ρ _ E hf W σ H _ hh e x fun W1 H1 c s1 k1 => ?_
  cases c with
  | true =>
    rw [if_pos rfl]
    exact a2 B ρ Q E k1 W1 σ H1 _ s1.holds (e.step s1) (x.step s1) fun W2 H2 v d s2 r2 k2 => q W2 H2 v d (s1.trans s2) r2 k2
  | false =>
    rw [if_neg Bool.false_ne_true]
    exact b2 B ρ Q E k1 W1 σ H1 _ s1.holds (e.step s1) (x.step s1) fun W2 H2 v d s2 r2 k2 => q W2 H2 v d (s1.trans s2) r2 k2
/-! ### arguments, displays -/
abbrev dNil : DTA := fun _ Q _ => Q []
abbrev dCons (f : DTE) (g : DTA) : DTA := fun ρ Q E => f ρ (fun x => g ρ (fun xs => Q (x :: xs)) E) E
theorem da_nil : DA Xs mg Wx [] dNil := ⟨_, fun _ => pa_nil, fun B ρ Q E h W σ H Q' hh _ _ q => q W H [] [] (Step.refl hh) .nil h⟩
theorem da_cons {e : Expr} {es : List Expr} {f : DTE} {g : DTA} (h : DE Xs mg Wx e f) (h' : DA Xs mg Wx es g) (hs : ∀ i, starEach (e :: es) (Xs i).env = (false, eval e (Xs i).env) :: starEach es (Xs i).env := by intro _; rfl) : DA Xs mg Wx (e :: es) (dCons f g) := by
  obtain ⟨t, h1, h2⟩ := h
  obtain ⟨u, g1, g2⟩ := h'
  refine ⟨_, fun i => pa_cons (h1 i) (g1 i) (hs i), ?_⟩
  intro B ρ Q E hf W σ H Q' hh e x q
  refine h2 B ρ _ E hf W σ H _ hh e x fun W1 H1 v d s1 r1 k1 => ?_
  exact g2 B ρ _ E k1 W1 σ H1 _ s1.holds (e.step s1) (x.step s1) fun W2 H2 vs ds s2 r2 k2 => q W2 H2 _ _ (s1.trans s2) (.cons (r1.mono s2.le) r2) k2
abbrev dTup (g : DTA) : DTE := fun ρ Q E => g ρ (fun xs => xs.length ≤ sizeLine ∧ Q (.tup xs)) E
abbrev dLst (g : DTA) : DTE := fun ρ Q E => g ρ (fun xs => xs.length ≤ sizeLine ∧ Q (.lst xs)) E
theorem Wd.le_put {W : Wd} {p : Addr} {o : HO} (n : W.H p = none) : Le W (W.put p o) := Wd.put_le n
theorem Rep.newTup {W : Wd} {vs : List V} {ds : List D} {p : Addr} (r : Reps mg W vs ds) (n : W.H p = none) : Rep mg (W.put p (.tup vs)) (.ref p) (.tup ds) :=
  .tup (show upd W.H p _ p = _ from upd_same) (r.mono (Wd.le_put n))
theorem Rep.newLst {W : Wd} {vs : List V} {ds : List D} {p : Addr} (r : Reps mg W vs ds) (n : W.H p = none) : Rep mg (W.put p (.lst vs)) (.ref p) (.lst ds) :=
  .lst (show upd W.H p _ p = _ from upd_same) (r.mono (Wd.le_put n))
/-- what is wanted of a new tuple, of a new list -/
theorem to_tup {W : Wd} {H : Hp} {Q : D → Prop} {Q' : VK} {vs : List V} {ds : List D} (q : ToV mg W H Q Q') (hh : Holds W H) (r : Reps mg W vs ds) (h : Q (.tup ds)) : ∀ p, H p = none → Q' (.ref p) (upd H p (.tup vs)) :=
  fun p n => q _ _ _ _ (Step.alloc hh n) (Rep.newTup r (hh.same.free n)) h
theorem to_lst {W : Wd} {H : Hp} {Q : D → Prop} {Q' : VK} {vs : List V} {ds : List D} (q : ToV mg W H Q Q') (hh : Holds W H) (r : Reps mg W vs ds) (h : Q (.lst ds)) : ∀ p, H p = none → Q' (.ref p) (upd H p (.lst vs)) :=
  fun p n => q _ _ _ _ (Step.alloc hh n) (Rep.newLst r (hh.same.free n)) h
theorem ToV.step {W W1 : Wd} {H H1 : Hp} {Q : D → Prop} {Q' : VK} (q : ToV mg W H Q Q') (s : Step W H W1 H1) : ToV mg W1 H1 Q Q' := fun W' H' v d s' r h => q W' H' v d (s.trans s') r h
theorem de_tup {es : List Expr} {g : DTA} {k : Nat} (h : DA Xs mg Wx es g) : DE Xs mg Wx (.Tuple es k pos) (dTup g) := by
  obtain ⟨t, h1, h2⟩ := h
  refine ⟨_, fun i => pe_tup (h1 i), fun B ρ Q E hf W σ H Q' hh e x q => h2 B ρ _ E hf W σ H _ hh e x fun W1 H1 vs ds s1 r1 k1 => ?_⟩
  exact ⟨by rw [r1.length]; exact k1.1, to_tup (ToV.step q s1) s1.holds r1 k1.2⟩
theorem de_lst {es : List Expr} {g : DTA} (h : DA Xs mg Wx es g) : DE Xs mg Wx (.List es pos) (dLst g) := by
  obtain ⟨t, h1, h2⟩ := h
  refine ⟨_, fun i => pe_lst (h1 i), fun B ρ Q E hf W σ H Q' hh e x q => h2 B ρ _ E hf W σ H _ hh e x fun W1 H1 vs ds s1 r1 k1 => ?_⟩
  exact ⟨by rw [r1.length]; exact k1.1, to_lst (ToV.step q s1) s1.holds r1 k1.2⟩
/-! ### built-in functions and methods by data -/
abbrev RDL := List D → (D → Prop) → Prop
def CallD (mg : Gm) (r : List V → Hp → VK → Prop) (rd : RDL) : Prop := ∀ W H vs ds Q Q', Holds W H → Reps mg W vs ds → rd ds Q → ToV mg W H Q Q' → r vs H Q'
def CallOk (Xs : ι → Cx) (mg : Gm) (f : Value) (rd : RDL) : Prop := ∃ r, (∀ i, CallR (Xs i) f r) ∧ CallD mg r rd
abbrev dCB (rd : RDL) (g : DTA) : DTE := fun ρ Q E => g ρ (fun ds => rd ds Q) E
theorem Cp.cb {r : List V → Hp → VK → Prop} {rd : RDL} {t : TA} {g : DTA} (c : CallD mg r rd) (h : CpA mg Wx t g) : Cp mg Wx (tCB r t) (dCB rd g) := by
  intro B ρ Q E hf W σ H Q' hh e x q
  refine h B ρ _ E hf W σ H _ hh e x fun W1 H1 vs ds s1 r1 k1 => ?_
  exact c W1 H1 vs ds Q Q' s1.holds r1 k1 (ToV.step q s1)
theorem de_callB {id : String} {rd : RDL} {x : Str} {p : Pos} {e : Expr} {es : List Expr} {g : DTA} (c : CallOk Xs mg (.builtin id) rd) (hm : mg.mg x = none) (hv : bootBuiltins x = some (.builtin id)) (ha : DA Xs mg Wx (e :: es) g)
    (hM : ∀ j, (Xs j).mg = mg.mg := by intro _; rfl) (hg : ∀ j, Gl (Xs j) x := by intro _; rfl) (hn : x ≠ "__name__" := by decide) (hd : (x == ("__debug__" : Str)) = false := by decide)
    (he : ∀ i, starEach (e :: es) (Xs i).env = (false, eval e (Xs i).env) :: starEach es (Xs i).env := by intro _; rfl) (hpl : ∀ i, (backTo pos (starEach es (Xs i).env)).any (·.1) = false := by intro _; rfl) : DE Xs mg Wx (.Call (.Name x p) (e :: es) [] pos) (dCB rd g) := by
  obtain ⟨r, c1, c2⟩ := c
  obtain ⟨t, h1, h2⟩ := ha
  exact ⟨_, fun i => pe_callB (c1 i) (hg i) (by rw [hM i]; exact hm) hv (h1 i) hn hd (he i) (hpl i), Cp.cb c2 h2⟩
theorem de_callTy {T : String} {rd : RDL} {x : Str} {p : Pos} {e : Expr} {es : List Expr} {g : DTA} (c : CallOk Xs mg (.type T) rd) (hm : mg.mg x = none) (hv : bootBuiltins x = some (.type T)) (ha : DA Xs mg Wx (e :: es) g)
    (hM : ∀ j, (Xs j).mg = mg.mg := by intro _; rfl) (hg : ∀ j, Gl (Xs j) x := by intro _; rfl) (hn : x ≠ "__name__" := by decide) (hd : (x == ("__debug__" : Str)) = false := by decide)
    (he : ∀ i, starEach (e :: es) (Xs i).env = (false, eval e (Xs i).env) :: starEach es (Xs i).env := by intro _; rfl) (hpl : ∀ i, (backTo pos (starEach es (Xs i).env)).any (·.1) = false := by intro _; rfl) : DE Xs mg Wx (.Call (.Name x p) (e :: es) [] pos) (dCB rd g) := by
  obtain ⟨r, c1, c2⟩ := c
  obtain ⟨t, h1, h2⟩ := ha
  exact ⟨_, fun i => pe_callTy (c1 i) (hg i) (by rw [hM i]; exact hm) hv (h1 i) hn hd (he i) (hpl i), Cp.cb c2 h2⟩
/-! ### a def's promise; room with no repr under way -/
structure RmG (k : Nat) (A : Around) : Prop where
  r : Room k A
  g : A.guards = some []
theorem RmG.mono {j k : Nat} {A : Around} (x : RmG k A) (h : j ≤ k) : RmG j A := ⟨x.r.mono h, x.g⟩
/-- as FnOk, where no repr is under way -/
structure FnG (P : Program) (w : World) (K : PySem.W.Frag) (mg : Str → Option Value) (base : Heap) (k : Nat) (f : Addr) (fd : FuncData) (ps : List Str) (sp : Sp) : Prop where
  ln : ∀ vs H Q E, sp vs H Q E → vs.length = ps.length
  go : ∀ (A : Around) (out : List PySem.Env) (z : Shared) (H : Hp) (ag : Args) (us : List Value) (vs : List V) (Q : VK) (E : XK), RmG k A → Env0 P w K mg base A out z H → BindsTo z fd ag (ps.zip us) → Vals vs us → sp vs H Q E →
    codeAny (model P w) A (.call (.ref f) ag) (CR (L2.CX P w) out P w H z Q E) z
theorem FnG.of {P : Program} {w : World} {K : PySem.W.Frag} {mg : Str → Option Value} {base : Heap} {k : Nat} {f : Addr} {fd : FuncData} {ps : List Str} {sp : Sp} (F : FnOk P w K mg base (L2.CX P w) k f fd ps sp) : FnG P w K mg base k f fd ps sp :=
  ⟨F.len, fun A out z H ag us vs Q E m => F.run A out z H ag us vs Q E m.r⟩
theorem FnG.up {P : Program} {w : World} {K : PySem.W.Frag} {mg : Str → Option Value} {base : Heap} {j k : Nat} {f : Addr} {fd : FuncData} {ps : List Str} {sp : Sp} (F : FnG P w K mg base j f fd ps sp) (h : j ≤ k) : FnG P w K mg base k f fd ps sp :=
  ⟨F.ln, fun A out z H ag us vs Q E m => F.go A out z H ag us vs Q E (m.mono h)⟩
/-- the callee's run, for a caller -/
theorem goG {X : Cx} {k : Nat} {f : Addr} {fd : FuncData} {ps : List Str} {sp : Sp} {Ew : St → XK} {pins : List (Addr × Obj)} {σ : St} {H : Hp} {z : Shared} {Q : VK} {us : List Value} {vs : List V} (F : FnG X.prog X.w X.K X.mg X.base k f fd ps sp) (m : RmG k X.A) (hb : Binds X.K fd ps []) (hx : PassesAt (L2.CX X.prog X.w) X σ (Ew σ))
    (I : Inv X pins σ H z) (rv : Vals vs us) (h : sp vs H Q (Ew σ)) : wpAny (model X.prog X.w) X.A (call (.ref f) us) (EP X pins σ Q) X.xe z := by
  have hl : (us ++ []).length = ps.length := by
    rw [List.append_nil, ← rv.length]
    exact F.ln _ _ _ _ h
  have bd := hb z us I.kIn hl
  rw [List.append_nil] at bd
  have cd := F.go X.A X.stack z H ⟨us, []⟩ us vs Q (Ew σ) m I.env0 bd rv h
  refine wpAny_call (codeAny_mono cd ?_)
  intro res z' hq
  match res, hq with
  | .error e, hq => exact hx pins H z e z' I hq
  | .ok (.ret u), hq => exact I.after hq
  | .ok .next, hq => exact hq.elim
  | .ok .brk, hq => exact hq.elim
  | .ok .cont, hq => exact hq.elim
theorem pe_callG {X : Cx} {k : Nat} {f : Addr} {fd : FuncData} {ps : List Str} {sp : Sp} {Ew : St → XK} {x : Str} {p pos : Pos} {e : Expr} {es : List Expr} {t : TA} (F : FnG X.prog X.w X.K X.mg X.base k f fd ps sp) (m : RmG k X.A) (gx : Gl X x) (mx : X.mg x = some (.ref f)) (kf : PySem.W.keepIn X.K (.ref f) = true) (hb : Binds X.K fd ps [])
    (hx : ∀ σ, PassesAt (L2.CX X.prog X.w) X σ (Ew σ)) (ha : PA X (e :: es) t) (nd : (x == ("__debug__" : Str)) = false) (s1 : starEach (e :: es) X.env = (false, eval e X.env) :: starEach es X.env) (s2 : (backTo pos (starEach es X.env)).any (·.1) = false) : PE X (.Call (.Name x p) (e :: es) [] pos) (tCallS sp Ew t) := by
  constructor
  intro pins z σ H Q I hw
  apply wpAny_Call_Name_kw
  apply ld_glob I gx mx _ nd
  apply PySem.W.callWith_K (h₀ := X.base) I.ok.mod.kin kf _ s1 s2
  refine thn (ha.run pos pins z σ H _ I hw) ?_
  rintro us z1 ⟨vs, H1, I1, rv, q⟩
  exact ⟨I1.kIn, goG F m hb (hx σ) I1 rv q⟩
def spD (mg : Gm) (n : Nat) (f : List D → M D) : Sp := fun vs H Q E => ∃ W ds Qd Ed, Holds W H ∧ Reps mg W vs ds ∧ ds.length = n ∧ f ds Qd Ed ∧ ToV mg W H Qd Q ∧ ∀ W' H' cls dd x, Step W H W' H' → RepX mg W' H' cls dd x → Ed x → E cls dd H'
/-- what a callee lets out is taken -/
def Pas (X : Cx) (W : WX) : Prop := ∀ σ, PassesAt (L2.CX X.prog X.w) X σ (WE W σ)
theorem pas {X : Cx} {W : WX} (tk : Takes X W) : Pas X W := fun σ => passAt tk σ
structure DefOk (P : Program) (w : World) (mg : Gm) (base : Heap) (k : Nat) (x : Str) (n : Nat) (f : List D → M D) : Prop where
  ex : ∃ fa fd ps, mg.mg x = some (.ref fa) ∧ PySem.W.keepIn mg.K (.ref fa) = true ∧ Binds mg.K fd ps [] ∧ ps.length = n ∧ FnG P w mg.K mg.mg base k fa fd ps (spD mg n f)
abbrev dCall (f : List D → M D) (n : Nat) (g : DTA) : DTE := fun ρ Q E => g ρ (fun ds => ds.length = n ∧ f ds Q E) E
theorem Cp.call {n : Nat} {f : List D → M D} {t : TA} {g : DTA} (h : CpA mg Wx t g) : Cp mg Wx (tCallS (spD mg n f) (WE Wx) t) (dCall f n g) := by
  intro B ρ Q E hf W σ H Q' hh e x q
  refine h B ρ _ E hf W σ H _ hh e x fun W1 H1 vs ds s1 r1 k1 => ?_
  exact ⟨W1, ds, Q, E, s1.holds, r1, k1.1, k1.2, ToV.step q s1, fun W' H' cls dd y s' r h => x W' H' cls dd y (s1.trans s') r h⟩
theorem de_call {P : Program} {w : World} {base : Heap} {k n : Nat} {x : Str} {f : List D → M D} {p : Pos} {e : Expr} {es : List Expr} {g : DTA} (F : DefOk P w mg base k x n f) (hr : ∀ i, RmG k (Xs i).A) (tk : ∀ i, Pas (Xs i) Wx) (ha : DA Xs mg Wx (e :: es) g)
    (hP : ∀ j, (Xs j).prog = P ∧ (Xs j).w = w ∧ (Xs j).K = mg.K ∧ (Xs j).mg = mg.mg ∧ (Xs j).base = base := by intro _; exact ⟨rfl, rfl, rfl, rfl, rfl⟩) (hg : ∀ j, Gl (Xs j) x := by intro _; rfl) (hd : (x == ("__debug__" : Str)) = false := by decide)
    (he : ∀ i, starEach (e :: es) (Xs i).env = (false, eval e (Xs i).env) :: starEach es (Xs i).env := by intro _; rfl) (hpl : ∀ i, (backTo pos (starEach es (Xs i).env)).any (·.1) = false := by intro _; rfl) : DE Xs mg Wx (.Call (.Name x p) (e :: es) [] pos) (dCall f n g) := by
  obtain ⟨fa, fd, ps, hm, hk, hb, hl, G⟩ := F.ex
  obtain ⟨t, h1, h2⟩ := ha
  refine ⟨_, fun i => ?_, Cp.call (f := f) (n := n) h2⟩
  obtain ⟨p1, p2, p3, p4, p5⟩ := hP i
  subst p1 p2 p5
  exact pe_callG (by rw [p3, p4]; exact G) (hr i) (hg i) (by rw [p4]; exact hm) (by rw [p3]; exact hk) (by rw [p3]; exact hb) (fun σ => tk i σ) (h1 i) hd (he i) (hpl i)
end
end FP
/-! FP3: statements, targets, what is walked, loops, comprehensions, a def by its body. -/
namespace FP
open PySem L2
variable [Tabl]
section
variable {ι : Type} {Xs : ι → Cx} {mg : Gm} {Wx : WX} {pos : Pos}
/-! ### blocks, small statements -/
abbrev dNext : DTS := fun N ρ => N.nx ρ
abbrev dSeq (f g : DTS) : DTS := fun N ρ => f { N with nx := g N } ρ
theorem dss_nil : DSs Xs mg Wx [] dNext := ⟨_, fun _ => pss_nil, fun W0 B N ρ h W σ H Ds s e n => n.nx W H σ ρ s e h⟩
theorem EndsR.nxt {W0 : Wd} {B : Hp} {N : Nd} {Ds : Ends} {nx : Env → Prop} {nx' : St → Hp → Prop} (n : EndsR mg Wx W0 B N Ds) (h : ∀ W' H' σ' ρ', Step W0 B W' H' → EnvR mg B W' H' σ' ρ' → nx ρ' → nx' σ' H') : EndsR mg Wx W0 B { N with nx := nx } { Ds with nx := nx' } := ⟨h, n.rt, n.bk, n.ct, n.rs⟩
theorem EndsR.rebase {W0 W : Wd} {B H : Hp} {N : Nd} {Ds : Ends} (n : EndsR mg Wx W0 B N Ds) (s : Step W0 B W H) : EndsR mg Wx W B N Ds :=
  ⟨fun W' H' σ' ρ' s' => n.nx W' H' σ' ρ' (s.join s'), fun W' H' σ' ρ' v d s' => n.rt W' H' σ' ρ' v d (s.join s'), fun W' H' σ' ρ' s' => n.bk W' H' σ' ρ' (s.join s'), fun W' H' σ' ρ' s' => n.ct W' H' σ' ρ' (s.join s'), fun W' H' σ' ρ' c d x s' => n.rs W' H' σ' ρ' c d x (s.join s')⟩
theorem dss_cons {st : Stmt} {rest : List Stmt} {f g : DTS} (h : DS Xs mg Wx st f) (h' : DSs Xs mg Wx rest g) : DSs Xs mg Wx (st :: rest) (dSeq f g) := by
  obtain ⟨t, h1, h2⟩ := h
  obtain ⟨u, g1, g2⟩ := h'
  refine ⟨_, fun i => pss_cons (h1 i) (g1 i), fun W0 B N ρ hf W σ H Ds s e n => ?_⟩
  exact h2 W0 B _ ρ hf W σ H _ s e (n.nxt fun W' H' σ' ρ' s' e' k => g2 W0 B N ρ' k W' σ' H' Ds s' e' n)
theorem dss_one {st : Stmt} {f : DTS} (h : DS Xs mg Wx st f) : DSs Xs mg Wx [st] f := by
  obtain ⟨t, h1, h2⟩ := h
  exact ⟨t, fun i => pss_one (h1 i), h2⟩
abbrev dRet (f : DTE) : DTS := fun N ρ => f ρ (fun d => N.rt d ρ) (fun x => N.rs x ρ)
theorem ds_ret {e : Expr} {f : DTE} (h : DE Xs mg Wx e f) : DS Xs mg Wx (.Return (some e) pos) (dRet f) := by
  obtain ⟨t, h1, h2⟩ := h
  refine ⟨_, fun i => ps_ret (h1 i), fun W0 B N ρ hf W σ H Ds s e n => ?_⟩
  exact h2 B ρ _ _ hf W σ H _ s.holds e (n.ex s e) fun W1 H1 v d s1 r1 k1 => n.rt W1 H1 σ ρ v d (s.trans s1) (e.step s1) r1 k1
abbrev dRetN : DTS := fun N ρ => N.rt .non ρ
abbrev dIfS (c : DTT) (f g : DTS) : DTS := fun N ρ => c ρ (fun b => bit b (f N ρ) (g N ρ)) (fun x => N.rs x ρ)
theorem ds_if {c : Expr} {a b : List Stmt} {fc : DTT} {f g : DTS} (hc : DT Xs mg Wx c fc) (ha : DSs Xs mg Wx a f) (hb : DSs Xs mg Wx b g) : DS Xs mg Wx (.If c a b pos) (dIfS fc f g) := by
  obtain ⟨tc, c1, c2⟩ := hc
  obtain ⟨ta, a1, a2⟩ := ha
  obtain ⟨tb, b1, b2⟩ := hb
  refine ⟨_, fun i => ps_if (c1 i) (a1 i) (b1 i), fun W0 B N ρ hf W σ H Ds s e n => ?_⟩
  refine c2 B ρ _ _ hf W σ H _ s.holds e (n.ex s e) fun W1 H1 k s1 k1 => ?_
  cases k with
  | true =>
    rw [if_pos rfl]
    exact a2 W0 B N ρ k1 W1 σ H1 Ds (s.trans s1) (e.step s1) n
  | false =>
    rw [if_neg Bool.false_ne_true]
    exact b2 W0 B N ρ k1 W1 σ H1 Ds (s.trans s1) (e.step s1) n
abbrev dSet (i : Nat) (f : DTE) : DTS := fun N ρ => f ρ (fun d => N.nx (ρ.set i (.d d))) (fun x => N.rs x ρ)
theorem ds_set {i : Nat} {x : Str} {e : Expr} {f : DTE} {pos' : Pos} (h : DE Xs mg Wx e f) (hN : ∀ j, (Xs j).N.Nodup) (hi : ∀ j, (Xs j).N[i]? = some x := by intro _; rfl) (hx : ∀ j, Loc (Xs j).env.scope x := by intro _; first | exact Or.inl rfl | exact Or.inr rfl)
    (hs : ∀ j, swapsWith e (some (.Name x pos')) pos.line (Xs j).env = pure false := by intro _; rfl) (hf : ∀ j, (Xs j).fn x = true ∨ (Xs j).env.scope.names.lookup x = some .local := by intro _; first | exact .inl rfl | exact .inr rfl) : DS Xs mg Wx (.Assign [.Name x pos'] e pos) (dSet i f) := by
  obtain ⟨t, h1, h2⟩ := h
  refine ⟨_, fun j => ps_set (i := i) (hN j) (hi j) (hx j) (h1 j) (hs j) (hf j), fun W0 B N ρ hf W σ H Ds s e n => ?_⟩
  exact h2 B ρ _ _ hf W σ H _ s.holds e (n.ex s e) fun W1 H1 v d s1 r1 k1 => n.nx W1 H1 _ _ (s.trans s1) ((e.step s1).set r1) k1
/-! ### targets -/
inductive Tg where
  | one (i : Nat) | many (is : List Nat) | manyL (is : List Nat)
def putAll : List Nat → List D → Env → Option Env
  | [], [], ρ => some ρ
  | i :: is, d :: ds, ρ => putAll is ds (ρ.set i (.d d))
  | _, _, _ => none
def Tg.put : Tg → D → Env → Option Env
  | .one i, d, ρ => some (ρ.set i (.d d))
  | .many is, .tup ds, ρ => putAll is ds ρ
  | .many _, _, _ => none
  | .manyL is, .lst ds, ρ => putAll is ds ρ
  | .manyL _, _, _ => none
def Tg.slots : Tg → List Nat
  | .one i => [i]
  | .many is => is
  | .manyL is => is
theorem wipe_set_in {σ : St} {i : Nat} {o : Option V} : ∀ {vs : List Nat}, i ∈ vs → wipe (σ.set i o) vs = wipe σ vs
  | [], h => by cases h
  | v :: vs, h => by
    unfold wipe
    by_cases hi : i ∈ vs
    · rw [wipe_set_in hi]
    · have e : i = v := by
        rcases List.mem_cons.mp h with q | q
        · exact q
        · exact absurd q hi
      subst e
      have out : ∀ ws : List Nat, wipe (σ.set i o) ws = wipe σ ws ∨ ∃ o', wipe (σ.set i o) ws = (wipe σ ws).set i o' := by
        intro ws
        induction ws with
        | nil => exact .inr ⟨o, rfl⟩
        | cons w ws ih =>
          unfold wipe
          rcases ih with ih | ⟨o', ih⟩
          · rw [ih]
            exact .inl rfl
          · rw [ih]
            by_cases hw : w = i
            · subst hw
              rw [List.set_set]
              exact .inl rfl
            · exact .inr ⟨o', by rw [List.set_comm _ _ (Ne.symm hw)]⟩
      rcases out vs with q | ⟨o', q⟩
      · rw [q]
      · rw [q, List.set_set]
theorem wipe_wipe (σ : St) (vs : List Nat) : L2.wipe (L2.wipe σ vs) vs = L2.wipe σ vs := by
  have key : ∀ (us ws : List Nat) (τ : St), (∀ i ∈ ws, i ∈ us) → L2.wipe (L2.wipe τ ws) us = L2.wipe τ us := by
    intro us ws
    induction ws with
    | nil => intro τ _; rfl
    | cons w ws ih =>
      intro τ h
      show L2.wipe ((L2.wipe τ ws).set w none) us = _
      rw [wipe_set_in (h w List.mem_cons_self)]
      exact ih τ fun i hi => h i (List.mem_cons_of_mem _ hi)
  exact key vs vs σ fun _ h => h
def CpG (mg : Gm) (g : TG) (T : Tg) : Prop := ∀ B W H x d σ ρ ρ' Q', Holds W H → Rep mg W x d → EnvR mg B W H σ ρ → T.put d ρ = some ρ' → (∀ σ', EnvR mg B W H σ' ρ' → (∀ vs : List Nat, (∀ i ∈ T.slots, i ∈ vs) → wipe σ' vs = wipe σ vs) → Q' σ' H) → g x σ H Q'
def CpGs (mg : Gm) (g : TGs) (is : List Nat) : Prop := ∀ B W H xs ds σ ρ ρ' Q', Holds W H → Reps mg W xs ds → EnvR mg B W H σ ρ → putAll is ds ρ = some ρ' → (∀ σ', EnvR mg B W H σ' ρ' → (∀ vs : List Nat, (∀ i ∈ is, i ∈ vs) → wipe σ' vs = wipe σ vs) → Q' σ' H) → g xs σ H Q'
def DG (Xs : ι → Cx) (mg : Gm) (tg : Expr) (T : Tg) : Prop := ∃ g, (∀ i, PG (Xs i) tg g) ∧ CpG mg g T
def DGs (Xs : ι → Cx) (mg : Gm) (tgs : List Expr) (is : List Nat) : Prop := ∃ g, (∀ i, PGs (Xs i) tgs g) ∧ CpGs mg g is
theorem CpG.name {i : Nat} : CpG mg (gName i) (.one i) := fun B W H x d σ ρ ρ' Q' hh r e h q => by
  cases h
  exact q _ (e.set r) fun vs hv => wipe_set_in (hv i (List.mem_singleton.mpr rfl))
theorem pg_nm {i : Nat} {x : Str} (hN : ∀ j, (Xs j).N.Nodup) (hi : ∀ j, (Xs j).N[i]? = some x) (hx : ∀ j, Loc (Xs j).env.scope x) (hf : ∀ j, (Xs j).fn x = true ∨ (Xs j).env.scope.names.lookup x = some .local) : ∀ j, PG (Xs j) (.Name x pos) (gName i) := fun j => pg_name (hN j) (hi j) (hx j) (hf j)
theorem dg_name {i : Nat} {x : Str} (hN : ∀ j, (Xs j).N.Nodup) (hi : ∀ j, (Xs j).N[i]? = some x := by intro _; rfl) (hx : ∀ j, Loc (Xs j).env.scope x := by intro _; first | exact Or.inl rfl | exact Or.inr rfl)
    (hf : ∀ j, (Xs j).fn x = true ∨ (Xs j).env.scope.names.lookup x = some .local := by intro _; first | exact .inl rfl | exact .inr rfl) : DG Xs mg (.Name x pos) (.one i) := ⟨_, pg_nm hN hi hx hf, CpG.name⟩
theorem dgs_nil : DGs Xs mg [] [] := ⟨_, fun _ => pgs_nil, fun B W H xs ds σ ρ ρ' Q' hh r e h q => by
  cases r with
  | nil =>
    cases h
    exact ⟨rfl, q σ e fun _ _ => rfl⟩
  | cons => cases h⟩
theorem dgs_cons {i : Nat} {is : List Nat} {e : Expr} {es : List Expr} (h : DG Xs mg e (.one i)) (h' : DGs Xs mg es is) (hs : ∀ j, (assignEach (e :: es) (Xs j).env).map (·.2) = assign e (Xs j).env :: (assignEach es (Xs j).env).map (·.2) := by intro _; rfl) : DGs Xs mg (e :: es) (i :: is) := by
  obtain ⟨g, h1, h2⟩ := h
  obtain ⟨gs, g1, g2⟩ := h'
  refine ⟨_, fun j => pgs_cons (h1 j) (g1 j) (hs j), fun B W H xs ds σ ρ ρ' Q' hh r e h q => ?_⟩
  cases r with
  | nil => cases h
  | cons r1 rs =>
    refine ⟨_, _, rfl, h2 B W H _ _ σ ρ _ _ hh r1 e rfl fun σ1 e1 w1 => ?_⟩
    exact g2 B W H _ _ σ1 _ ρ' Q' hh rs e1 h fun σ2 e2 w2 => q σ2 e2 fun vs hv => (w2 vs fun j hj => hv j (List.mem_cons_of_mem _ hj)).trans (w1 vs fun j hj => hv j (by
      rw [List.mem_singleton.mp hj]
      exact List.mem_cons_self))
theorem putAll_len : ∀ {is : List Nat} {ds : List D} {ρ ρ' : Env}, putAll is ds ρ = some ρ' → ds.length = is.length
  | [], [], _, _, _ => rfl
  | _ :: is, _ :: ds, _, _, h => congrArg (· + 1) (putAll_len (is := is) (ds := ds) h)
  | [], _ :: _, _, _, h => by cases h
  | _ :: _, [], _, _, h => by cases h
theorem dg_tup {es : List Expr} {k : Nat} {is : List Nat} (h : DGs Xs mg es is) (hc : ∀ j, (Xs j).calm = true := by intro _; rfl) (hK : ∀ j, (Xs j).K = mg.K := by intro _; rfl) (hn : ∀ j, (assignEach es (Xs j).env).length = is.length := by intro _; rfl) (hst : ∀ j, (assignEach es (Xs j).env).findIdx? (·.1) = none := by intro _; rfl) : DG Xs mg (.Tuple es k pos) (.many is) := by
  obtain ⟨g, h1, h2⟩ := h
  refine ⟨gTup mg.K is.length g, fun j => by
    have z := pg_tup (pos := pos) (k := k) (n := is.length) (hc j) (h1 j) (hn j) (hst j)
    rw [hK j] at z
    exact z, fun B W H x d σ ρ ρ' Q' hh r e h q => ?_⟩
  cases r with
  | tup ha rs => exact ⟨_, _, rfl, SqT.of (hh.same _ _ ha), by rw [rs.length]; exact putAll_len h, h2 B W H _ _ σ ρ ρ' Q' hh rs e h q⟩
  | _ => cases h
abbrev dAsg (T : Tg) (f : DTE) : DTS := fun N ρ => f ρ (fun d => ∃ ρ', T.put d ρ = some ρ' ∧ N.nx ρ') (fun x => N.rs x ρ)
theorem ds_asg {tg e : Expr} {f : DTE} {T : Tg} (h : DE Xs mg Wx e f) (g : DG Xs mg tg T) (hs : ∀ j, swapsWithSole [tg] e pos.line (Xs j).env = pure false := by intro _; rfl) (hw : ∀ j, swappedStores [tg] e (Xs j).env = pure none := by intro _; rfl)
    (ha : ∀ j, (assignEach [tg] (Xs j).env).map (·.2) = [assign tg (Xs j).env] := by intro _; rfl) : DS Xs mg Wx (.Assign [tg] e pos) (dAsg T f) := by
  obtain ⟨t, h1, h2⟩ := h
  obtain ⟨u, g1, g2⟩ := g
  refine ⟨_, fun j => ps_asg (h1 j) (g1 j) (hs j) (hw j) (ha j), fun W0 B N ρ hf W σ H Ds s e n => ?_⟩
  refine h2 B ρ _ _ hf W σ H _ s.holds e (n.ex s e) fun W1 H1 v d s1 r1 k1 => ?_
  obtain ⟨ρ', k2, k3⟩ := k1
  exact g2 B W1 H1 v d σ ρ ρ' _ s1.holds r1 (e.step s1) k2 fun σ' e' _ => n.nx W1 H1 σ' ρ' (s.trans s1) e' k3
/-! ### what is walked -/
def WalkD (mg : Gm) (W : Wd) (J : It) (ds : List D) : Prop := ∀ W1 H1, Le W W1 → Holds W1 H1 → (∀ i, i < ds.length → J.go i H1) ∧ J.stop ds.length H1 ∧ ∀ i x H2, i < ds.length → J.yld i H1 x H2 → ∃ W2 d, Step W1 H1 W2 H2 ∧ ds[i]? = some d ∧ Rep mg W2 x d
def CpI (mg : Gm) (Wx : WX) (w : TI) (f : DTI) : Prop := ∀ B ρ Q E, f ρ Q E → ∀ W σ H Q', Holds W H → EnvR mg B W H σ ρ → ExR mg Wx W H σ E → (∀ W' H' J ds, Step W H W' H' → WalkD mg W' J ds → Q ds → Q' J H') → w σ H Q'
def DI (Xs : ι → Cx) (mg : Gm) (Wx : WX) (tg e : Expr) (f : DTI) : Prop := ∃ w, (∀ i, PI (Xs i) tg e w) ∧ CpI mg Wx w f
/-- a walk that leaves the heap as it was -/
theorem WalkD.of {W : Wd} {J : It} {ds : List D} {G : Hp → Prop} {vs : Nat → Option V} (w : L2.Walk J ds.length G (fun i H x H' => H' = H ∧ vs i = some x)) (hG : ∀ W1 H1, Le W W1 → Holds W1 H1 → G H1) (hv : ∀ i x, i < ds.length → vs i = some x → ∃ d, ds[i]? = some d ∧ Rep mg W x d) : WalkD mg W J ds := by
  intro W1 H1 l hh
  refine ⟨fun i hi => w.goes i H1 hi (hG W1 H1 l hh), w.stops H1 (hG W1 H1 l hh), fun i x H2 hi y => ?_⟩
  obtain ⟨e, hx⟩ := w.yields i H1 x H2 hi (hG W1 H1 l hh) y
  subst e
  obtain ⟨d, h1, h2⟩ := hv i x hi hx
  exact ⟨W1, d, Step.refl hh, h1, h2.mono l⟩
abbrev dIList (f : DTE) : DTI := fun ρ Q E => f ρ (fun x => match x with
  | .lst ds => Q ds
  | .fz ds => Q ds
  | _ => False) E
theorem WalkD.list {W : Wd} {H : Hp} {a : Addr} {vs : List V} {ds : List D} (r : Reps mg W vs ds) (h : ∀ W1 H1, Le W W1 → Holds W1 H1 → SqL mg.K H1 a vs) : WalkD mg W (Itl mg.K a) ds := by
  have e := r.length
  have w := walk_list (K := mg.K) (a := a) (xs := vs)
  rw [e] at w
  exact WalkD.of (vs := fun i => vs[i]?) w h fun i x hi hx => r.getV hx
theorem di_list {tg e : Expr} {f : DTE} (h : DE Xs mg Wx e f) (hK : ∀ j, (Xs j).K = mg.K := by intro _; rfl) : DI Xs mg Wx tg e (dIList f) := by
  obtain ⟨t, h1, h2⟩ := h
  refine ⟨iList mg.K t, fun j => by
    have z := pi_list (tg := tg) (h1 j)
    rw [hK j] at z
    exact z, fun B ρ Q E hf W σ H Q' hh e x q => ?_⟩
  refine h2 B ρ _ E hf W σ H _ hh e x fun W1 H1 v d s1 r1 k1 => ?_
  cases r1 with
  | lst ha rs => exact ⟨_, rfl, ⟨_, SqL.of (s1.holds.same _ _ ha)⟩, q W1 H1 _ _ s1 (WalkD.list (H := H1) rs fun W2 H2 l hh => SqL.of (hh.same _ _ (l.h _ _ ha))) k1⟩
  | fz ha rs => exact ⟨_, rfl, ⟨_, s1.holds.same.seq ha⟩, q W1 H1 _ _ s1 (WalkD.list (H := H1) rs fun W2 H2 l hh => hh.same.seq (l.h.seq ha)) k1⟩
  | _ => exact k1.elim
abbrev dITup (f : DTE) : DTI := fun ρ Q E => f ρ (fun x => match x with
  | .tup ds => Q ds
  | _ => False) E
theorem di_tup {tg e : Expr} {f : DTE} (h : DE Xs mg Wx e f) (hK : ∀ j, (Xs j).K = mg.K := by intro _; rfl) : DI Xs mg Wx tg e (dITup f) := by
  obtain ⟨t, h1, h2⟩ := h
  refine ⟨iTup mg.K t, fun j => by
    have z := pi_tup (tg := tg) (h1 j)
    rw [hK j] at z
    exact z, fun B ρ Q E hf W σ H Q' hh e x q => ?_⟩
  refine h2 B ρ _ E hf W σ H _ hh e x fun W1 H1 v d s1 r1 k1 => ?_
  cases r1 with
  | @tup a vs ds ha rs =>
    refine ⟨_, rfl, ⟨_, SqT.of (s1.holds.same _ _ ha)⟩, q W1 H1 _ ds s1 ?_ k1⟩
    have w := walk_tup (K := mg.K) (a := a) (xs := vs)
    rw [rs.length] at w
    exact WalkD.of (vs := fun i => vs[i]?) w (fun W2 H2 l hh => SqT.of (hh.same _ _ (l.h _ _ ha))) fun i x hi hx => rs.getV hx
  | _ => exact k1.elim
/-- the signs of a text -/
def signsD (x : Str) : List D := x.cps.toList.map fun c => .str ⟨#[c]⟩
theorem signsD_len (x : Str) : (signsD x).length = x.cps.size := by simp [signsD]
abbrev dIStr (f : DTE) : DTI := fun ρ Q E => f ρ (fun x => match x with
  | .str z => Q (signsD z)
  | _ => False) E
theorem di_str {tg e : Expr} {f : DTE} (h : DE Xs mg Wx e f) : DI Xs mg Wx tg e (dIStr f) := by
  obtain ⟨t, h1, h2⟩ := h
  refine ⟨iStr t, fun j => pi_str (h1 j), fun B ρ Q E hf W σ H Q' hh e x q => ?_⟩
  refine h2 B ρ _ E hf W σ H _ hh e x fun W1 H1 v d s1 r1 k1 => ?_
  cases r1 with
  | str z =>
    refine ⟨z, rfl, q W1 H1 _ _ s1 (fun W2 H2 l hh => ?_) k1⟩
    have w := walk_str (z := z)
    refine ⟨fun i hi => w.goes i H2 (by rw [← signsD_len]; exact hi) True.intro, by rw [signsD_len]; exact w.stops H2 True.intro, fun i x H3 hi y => ?_⟩
    obtain ⟨e, c, hc, hx⟩ := w.yields i H2 x H3 (by rw [← signsD_len]; exact hi) True.intro y
    subst e hx
    refine ⟨W2, _, Step.refl hh, ?_, .str _⟩
    unfold signsD
    rw [List.getElem?_map, Array.getElem?_toList, hc]
    rfl
  | _ => exact k1.elim
def rangeD (lo : Int) (n : Nat) : List D := (List.range n).map fun (i : Nat) => D.int (lo + i)
theorem rangeD_len (lo : Int) (n : Nat) : (rangeD lo n).length = n := by simp [rangeD]
theorem WalkD.range {W : Wd} {lo : Int} {n : Nat} : WalkD mg W (Itr lo n) (rangeD lo n) := by
  intro W1 H1 l hh
  have w := walk_range (lo := lo) (n := n)
  refine ⟨fun i hi => w.goes i H1 (by rw [rangeD_len] at hi; exact hi) True.intro, by rw [rangeD_len]; exact w.stops H1 True.intro, fun i x H3 hi y => ?_⟩
  rw [rangeD_len] at hi
  obtain ⟨e, hx⟩ := w.yields i H1 x H3 hi True.intro y
  subst e hx
  refine ⟨W1, _, Step.refl hh, ?_, .int _⟩
  unfold rangeD
  rw [List.getElem?_map, List.getElem?_range hi]
  rfl
abbrev dIRng1 (g : DTA) : DTI := fun ρ Q E => g ρ (fun ds => match ds with
  | [.int j] => -(2 ^ 62) ≤ j ∧ j < 2 ^ 62 ∧ Q (rangeD 0 j.toNat)
  | _ => False) E
theorem di_range1 {tg a : Expr} {p : Pos} {g : DTA} (hm : mg.mg "range" = none) (h : DA Xs mg Wx [a] g) (hM : ∀ j, (Xs j).mg = mg.mg := by intro _; rfl) (hg : ∀ j, Gl (Xs j) "range" := by intro _; rfl) (hs : ∀ j, starEach [a] (Xs j).env = [(false, eval a (Xs j).env)] := by intro _; rfl) :
    DI Xs mg Wx tg (.Call (.Name "range" p) [a] [] pos) (dIRng1 g) := by
  obtain ⟨t, h1, h2⟩ := h
  refine ⟨iRng1 t, fun j => pi_range1 (hg j) (by rw [hM j]; exact hm) (h1 j) (hs j), fun B ρ Q E hf W σ H Q' hh e x q => ?_⟩
  refine h2 B ρ _ E hf W σ H _ hh e x fun W1 H1 vs ds s1 r1 k1 => ?_
  split at k1
  · rename_i j
    cases r1 with
    | cons r rs =>
      cases r
      cases rs
      exact ⟨j, rfl, k1.1, k1.2.1, q W1 H1 _ _ s1 WalkD.range k1.2.2⟩
  · exact k1.elim
/-! ### for -/
def forD (T : Tg) (f : DTS) (N : Nd) : List D → Env → Prop
  | [], ρ => N.nx ρ
  | d :: ds, ρ => ∃ ρ1, T.put d ρ = some ρ1 ∧ f { N with nx := forD T f N ds, ct := forD T f N ds, bk := N.nx } ρ1
abbrev dFor (w : DTI) (T : Tg) (f : DTS) : DTS := fun N ρ => w ρ (fun ds => forD T f N ds ρ) (fun x => N.rs x ρ)
theorem ds_for {tg iter : Expr} {body : List Stmt} {w : DTI} {T : Tg} {f : DTS} (hi : DI Xs mg Wx tg iter w) (hg : DG Xs mg tg T) (hb : DSs Xs mg Wx body f) (hp : ∀ j, PassesOwn (model (Xs j).prog (Xs j).w) (Xs j).A (Xs j).env (Xs j).xe) (hc : ∀ j, (Xs j).calm = true := by intro _; rfl)
    (hs : ∀ j x, foldedSetIterable iter (Xs j).env x = pure x := by intro _ _; rfl) : DS Xs mg Wx (.For tg iter body [] pos) (dFor w T f) := by
  obtain ⟨wi, i1, i2⟩ := hi
  obtain ⟨g, g1, g2⟩ := hg
  obtain ⟨tb, b1, b2⟩ := hb
  refine ⟨_, fun j => ps_for (hp j) (hc j) (i1 j) (g1 j) (b1 j) (hs j), fun W0 B N ρ hf W σ H Ds s e n => ?_⟩
  refine i2 B ρ _ _ hf W σ H _ s.holds e (n.ex s e) fun W1 H1 J ds s1 wk k1 => ?_
  refine ⟨fun i m σ' H' => m = ds.length - i ∧ i ≤ ds.length ∧ ∃ W' ρ', Step W0 B W' H' ∧ EnvR mg B W' H' σ' ρ' ∧ Le W1 W' ∧ forD T f N (ds.drop i) ρ', ⟨ds.length, by simp, Nat.zero_le _, W1, ρ, s.trans s1, e.step s1, Le.refl _, k1⟩, ?_⟩
  rintro i m σ' H' ⟨rfl, hi, W', ρ', s', e', l', k'⟩
  obtain ⟨go, stop, yld⟩ := wk W' H' l' s'.holds
  by_cases hlt : i < ds.length
  · refine .inr ⟨go i hlt, fun σ2 H2 => ∃ W2 ρ2, Step W0 B W2 H2 ∧ EnvR mg B W2 H2 σ2 ρ2 ∧ Le W1 W2 ∧ forD T f N (ds.drop (i + 1)) ρ2, fun σ2 H2 q => ⟨ds.length - (i + 1), by omega, rfl, hlt, q⟩, fun x H2 y => ?_⟩
    obtain ⟨W2, d, s2, hd, r⟩ := yld i x H2 hlt y
    have ed : ds.drop i = d :: ds.drop (i + 1) := by
      rw [List.drop_eq_getElem_cons hlt]
      have := (List.getElem?_eq_some_iff.mp hd).2
      rw [this]
    rw [ed] at k'
    obtain ⟨ρ1, p1, k2⟩ := k'
    refine g2 B W2 H2 x d σ' ρ' ρ1 _ s2.holds r (e'.step s2) p1 fun σ3 e3 _ => ?_
    have s02 := s'.trans s2
    have n2 := n.rebase s02
    refine b2 W2 B _ ρ1 k2 W2 σ3 H2 _ s02.rebase e3 ⟨fun W3 H3 σ4 ρ4 s3 e4 k4 => ⟨W3, ρ4, s02.join s3, e4, (l'.trans s2.le).trans s3.le, k4⟩, n2.rt, n2.nx, fun W3 H3 σ4 ρ4 s3 e4 k4 => ⟨W3, ρ4, s02.join s3, e4, (l'.trans s2.le).trans s3.le, k4⟩, n2.rs⟩
  · have ei : i = ds.length := by omega
    subst ei
    rw [List.drop_length] at k'
    exact .inl ⟨stop, n.nx W' H' σ' ρ' s' e' k'⟩
/-! ### while -/
abbrev dWhile (c : DTT) (f : DTS) : DTS := fun N ρ => ∃ I : Nat → Env → Prop, (∃ m, I m ρ) ∧ ∀ m ρ, I m ρ → c ρ (fun b => bit b (f { N with nx := fun ρ' => ∃ m', m' < m ∧ I m' ρ', ct := fun ρ' => ∃ m', m' < m ∧ I m' ρ', bk := N.nx } ρ) (N.nx ρ)) (fun x => N.rs x ρ)
theorem ds_while {c : Expr} {body : List Stmt} {fc : DTT} {f : DTS} (hc : DT Xs mg Wx c fc) (hb : DSs Xs mg Wx body f) (hp : ∀ j, PassesOwn (model (Xs j).prog (Xs j).w) (Xs j).A (Xs j).env (Xs j).xe) : DS Xs mg Wx (.While c body [] pos) (dWhile fc f) := by
  obtain ⟨tc, c1, c2⟩ := hc
  obtain ⟨tb, b1, b2⟩ := hb
  refine ⟨_, fun j => ps_while (hp j) (c1 j) (b1 j), fun W0 B N ρ hf W σ H Ds s e n => ?_⟩
  obtain ⟨I, ⟨m0, i0⟩, turn⟩ := hf
  refine ⟨fun m σ' H' => ∃ W' ρ', Step W0 B W' H' ∧ EnvR mg B W' H' σ' ρ' ∧ I m ρ', ⟨m0, W, ρ, s, e, i0⟩, ?_⟩
  rintro m σ' H' ⟨W', ρ', s', e', i'⟩
  refine c2 B ρ' _ _ (turn m ρ' i') W' σ' H' _ s'.holds e' (n.ex s' e') fun W1 H1 k s1 k1 => ?_
  cases k with
  | true =>
    rw [if_pos rfl]
    refine ⟨fun σ2 H2 => ∃ m', m' < m ∧ ∃ W2 ρ2, Step W0 B W2 H2 ∧ EnvR mg B W2 H2 σ2 ρ2 ∧ I m' ρ2, fun σ2 H2 q => q, ?_⟩
    exact b2 W0 B _ ρ' k1 W1 σ' H1 _ (s'.trans s1) (e'.step s1) ⟨fun W3 H3 σ4 ρ4 s3 e4 ⟨m', hm, k4⟩ => ⟨m', hm, W3, ρ4, s3, e4, k4⟩, n.rt, n.nx, fun W3 H3 σ4 ρ4 s3 e4 ⟨m', hm, k4⟩ => ⟨m', hm, W3, ρ4, s3, e4, k4⟩, n.rs⟩
  | false =>
    rw [if_neg Bool.false_ne_true]
    exact n.nx W1 H1 σ' ρ' (s'.trans s1) (e'.step s1) k1
/-! ### comprehensions -/
def lcD (body : D → (Option D → Prop) → Prop) : List D → (List D → Prop) → Prop
  | [], Q => Q []
  | d :: ds, Q => body d fun o => lcD body ds fun rs => match o with
    | some r => Q (r :: rs)
    | none => Q rs
def wipeD (ρ : Env) : List Nat → Env
  | [] => ρ
  | v :: vs => (wipeD ρ vs).set v .no
theorem EnvR.wipe {B : Hp} {W : Wd} {H : Hp} {σ : St} {ρ : Env} (e : EnvR mg B W H σ ρ) : ∀ vs : List Nat, EnvR mg B W H (L2.wipe σ vs) (wipeD ρ vs)
  | [] => e
  | v :: vs => (EnvR.wipe e vs).no
abbrev dLc (w : DTI) (T : Tg) (ft : DTT) (fe : DTE) (vs : List Nat) : DTE := fun ρ Q E => w ρ (fun ds => ds.length ≤ sizeLine ∧ lcD (fun d k => ∃ ρ2, T.put d (wipeD ρ vs) = some ρ2 ∧ ft ρ2 (fun b => bit b (fe ρ2 (fun r => k (some r)) F0) (k none)) F0) ds fun rs => Q (.lst rs)) E
abbrev blkF (Xs : ι → Cx) (scope : Scope) : ι × Shared × Hp × Addr × List (Str × Addr) × List Addr → Cx := fun j => (Xs j.1).blk j.2.1 j.2.2.1 scope (compEnvC scope j.2.2.2.2.1 j.2.2.2.1 (Xs j.1).env) j.2.2.2.2.2
def DTs (Xs : ι → Cx) (mg : Gm) (Wx : WX) (ifs : List Expr) (f : DTT) : Prop := ∃ t, (∀ i, PTs (Xs i) ifs t) ∧ CpT mg Wx t f
abbrev dYes : DTT := fun _ Q _ => Q true
theorem dts_nil : DTs Xs mg Wx [] dYes := ⟨_, fun _ => pts_nil, fun B ρ Q E hf W σ H Q' hh e x q => q W H true (Step.refl hh) hf⟩
theorem dts_one {c : Expr} {f : DTT} (h : DT Xs mg Wx c f) : DTs Xs mg Wx [c] f := by
  obtain ⟨t, h1, h2⟩ := h
  exact ⟨t, fun i => pts_one (h1 i), h2⟩
theorem Cp.lc {wi : TI} {g : TG} {tt : TT} {te : TE} {w : DTI} {T : Tg} {ft : DTT} {fe : DTE} {vs : List Nat} (hi : CpI mg Wx wi w) (hg : CpG mg g T) (hv : ∀ i ∈ T.slots, i ∈ vs) (ht : CpT mg Wx0 tt ft) (he : Cp mg Wx0 te fe) : Cp mg Wx (tLc wi g tt te vs) (dLc w T ft fe vs) := by
  intro B ρ Q E hf W σ H Q' hh e x q
  refine hi B ρ _ E hf W σ H _ hh e x fun W1 H1 J ds s1 wk k1 => ?_
  obtain ⟨hsz, k1⟩ := k1
  intro A hA
  have e1 := e.step s1
  refine ⟨fun i m H' => m = ds.length - i ∧ i ≤ ds.length ∧ ∃ W' us acc, Step W1 H1 W' H' ∧ H' A = some (.lst us) ∧ W'.H A = none ∧ ¬ W'.T A ∧ Reps mg W' us acc ∧ acc.length ≤ i ∧ lcD _ (ds.drop i) (fun rs => Q (.lst (acc ++ rs))),
    ⟨ds.length, by simp, Nat.zero_le _, W1, [], [], Step.lay s1.holds hA, upd_same, s1.holds.same.free hA, s1.holds.nT hA, .nil, Nat.le_refl _, k1⟩, ?_⟩
  rintro i m H' ⟨rfl, hi, W', us, acc, s', hL, nw, nt, rs, la, k'⟩
  obtain ⟨go, stop, yld⟩ := wk W' H' s'.le s'.holds
  by_cases hlt : i < ds.length
  · refine .inr ⟨go i hlt, fun H2 => ∃ W2 us2 acc2, Step W1 H1 W2 H2 ∧ H2 A = some (.lst us2) ∧ W2.H A = none ∧ ¬ W2.T A ∧ Reps mg W2 us2 acc2 ∧ acc2.length ≤ i + 1 ∧ lcD _ (ds.drop (i + 1)) (fun rs => Q (.lst (acc2 ++ rs))), fun H2 q => ⟨ds.length - (i + 1), by omega, rfl, hlt, q⟩, fun y H2 hy => ?_⟩
    obtain ⟨W2, d, s2, hd, r⟩ := yld i y H2 hlt hy
    have ed : ds.drop i = d :: ds.drop (i + 1) := by
      rw [List.drop_eq_getElem_cons hlt]
      have := (List.getElem?_eq_some_iff.mp hd).2
      rw [this]
    rw [ed] at k'
    obtain ⟨ρ1, p1, k2⟩ := k'
    have sA : ∀ {Wa Wb : Wd} {Ha Hb : Hp} {ws : List V}, Step Wa Ha Wb Hb → Ha A = some (.lst ws) → Wa.H A = none → ¬ Wa.T A → Hb A = some (.lst ws) ∧ Wb.H A = none ∧ ¬ Wb.T A := fun st a1 a2 a3 => ⟨st.keep A _ a1 a3, by rw [st.fresh A _ a1]; exact a2, fun t => by
      rcases st.freshT A t with t | t
      · exact a3 t
      · rw [a1] at t
        cases t⟩
    refine hg B W2 H2 y d _ _ ρ1 _ s2.holds r ((e1.step s').step s2 |>.wipe vs) p1 fun σ3 e3 w3 => ?_
    refine ⟨(w3 vs hv).trans ?_, ?_⟩
    · have idem : ∀ ws : List Nat, L2.wipe (L2.wipe σ vs) ws = L2.wipe σ vs ∨ True := fun _ => .inr trivial
      exact wipe_wipe σ vs
    refine ht B ρ1 _ _ k2 W2 σ3 H2 _ s2.holds e3 ExR.f0 fun W3 H3 b s3 k3 => ?_
    obtain ⟨b1, b2, b3⟩ := sA (s2.trans s3) hL nw nt
    cases b with
    | true =>
      rw [if_pos rfl]
      refine he B ρ1 _ _ k3 W3 σ3 H3 _ s3.holds (e3.step s3) ExR.f0 fun W4 H4 z dz s4 r4 k4 => ?_
      obtain ⟨c1, c2, c3⟩ := sA s4 b1 b2 b3
      have s14 := (s'.trans s2).trans (s3.trans s4)
      refine ⟨us, c1, ?_, W4, us ++ [z], acc ++ [dz], s14.own hA c1 c2 c3, upd_same, c2, c3, Reps.snoc (rs.mono ((s2.trans s3).trans s4).le) r4, ?_, ?_⟩
      · rw [rs.length]
        omega
      · rw [List.length_append, List.length_singleton]
        omega
      · simpa [List.append_assoc] using k4
    | false =>
      rw [if_neg Bool.false_ne_true]
      exact ⟨W3, us, acc, (s'.trans s2).trans s3, b1, b2, b3, rs.mono (s2.trans s3).le, by omega, k3⟩
  · have ei : i = ds.length := by omega
    subst ei
    rw [List.drop_length] at k'
    refine .inl ⟨stop, q (W'.put A (.lst us)) H' _ _ (s1.trans (s'.taken hA hL nw nt)) (Rep.newLst rs nw) ?_⟩
    have k2 : Q (.lst (acc ++ [])) := k'
    rw [List.append_nil] at k2
    exact k2
theorem de_lc {elt tg iter : Expr} {ifs : List Expr} {scope : Scope} {own : List (Str × Nat)} {w : DTI} {T : Tg} {ft : DTT} {fe : DTE} (hN : ∀ j, (Xs j).N.Nodup) (hi : DI Xs mg Wx tg iter w) (ok : ∀ j, BlkOk (Xs j).N (Xs j).env.scope scope own) (hg : DG (blkF Xs scope) mg tg T) (ht : DTs (blkF Xs scope) mg Wx0 ifs ft) (he : DE (blkF Xs scope) mg Wx0 elt fe)
    (hv : ∀ i ∈ T.slots, i ∈ own.map (·.2) := by decide) (hc : ∀ j, (Xs j).calm = true := by intro _; rfl) (hs : ∀ j x, foldedSetIterable iter (Xs j).env x = pure x := by intro _ _; rfl) : DE Xs mg Wx (.ListComp elt [⟨tg, iter, ifs, 0⟩] scope pos) (dLc w T ft fe (own.map (·.2))) := by
  obtain ⟨wi, i1, i2⟩ := hi
  obtain ⟨g, g1, g2⟩ := hg
  obtain ⟨tt, t1, t2⟩ := ht
  obtain ⟨te, e1, e2⟩ := he
  exact ⟨_, fun j => pe_lc (hc j) (hN j) (i1 j) (ok j) (fun s H C cl fp => g1 (j, s, H, C, cl, fp)) (fun s H C cl fp => t1 (j, s, H, C, cl, fp)) (fun s H C cl fp => e1 (j, s, H, C, cl, fp)) (hs j), Cp.lc i2 g2 hv t2 e2⟩
theorem ds_setLc {i : Nat} {y : Str} {py spos : Pos} {elt tg iter : Expr} {ifs : List Expr} {scope : Scope} {own : List (Str × Nat)} {w : DTI} {T : Tg} {ft : DTT} {fe : DTE} (hN : ∀ j, (Xs j).N.Nodup) (hi : DI Xs mg Wx tg iter w) (ok : ∀ j, BlkOk (Xs j).N (Xs j).env.scope scope own) (hg : DG (blkF Xs scope) mg tg T) (ht : DTs (blkF Xs scope) mg Wx0 ifs ft) (he : DE (blkF Xs scope) mg Wx0 elt fe)
    (hsw : ∀ j, swapsWith (.ListComp elt [⟨tg, iter, ifs, 0⟩] scope pos) (some (.Name y py)) spos.line (Xs j).env = pure true) (hy : ∀ j, (Xs j).N[i]? = some y := by intro _; rfl) (hyl : ∀ j, (Xs j).env.scope.names.lookup y = some .local := by intro _; rfl)
    (hv : ∀ i ∈ T.slots, i ∈ own.map (·.2) := by decide) (hc : ∀ j, (Xs j).calm = true := by intro _; rfl) (hs : ∀ j x, foldedSetIterable iter (Xs j).env x = pure x := by intro _ _; rfl) : DS Xs mg Wx (.Assign [.Name y py] (.ListComp elt [⟨tg, iter, ifs, 0⟩] scope pos) spos) (dSet i (dLc w T ft fe (own.map (·.2)))) := by
  obtain ⟨wi, i1, i2⟩ := hi
  obtain ⟨g, g1, g2⟩ := hg
  obtain ⟨tt, t1, t2⟩ := ht
  obtain ⟨te, e1, e2⟩ := he
  refine ⟨_, fun j => ps_setLc (i := i) (hc j) (hN j) (hy j) (hyl j) (hsw j) (i1 j) (ok j) (fun s H C cl fp => g1 (j, s, H, C, cl, fp)) (fun s H C cl fp => t1 (j, s, H, C, cl, fp)) (fun s H C cl fp => e1 (j, s, H, C, cl, fp)) (hs j), fun W0 B N ρ hf W σ H Ds s e n => ?_⟩
  exact Cp.lc i2 g2 hv t2 e2 B ρ _ _ hf W σ H _ s.holds e (n.ex s e) fun W1 H1 v d s1 r1 k1 => n.nx W1 H1 _ _ (s.trans s1) ((e.step s1).set r1) k1
/-! ### a def by its body -/
def startD (n : Nat) (ds : List D) : Env := ds.map Sl.d ++ List.replicate (n - ds.length) .no
theorem EnvR.start {N : List Str} {W : Wd} {H : Hp} : ∀ {vs : List V} {ds : List D}, Reps mg W vs ds → EnvR mg H W H (L2.start N vs) (startD N.length ds) := by
  intro vs ds r
  have el := r.length
  refine ⟨by simp [L2.start, startD, el], fun i s h => ?_, fun i j xs ys o1 o2 a _ h1 _ _ _ m1 _ => ?_⟩
  · unfold startD at h
    unfold L2.start
    by_cases hi : i < ds.length
    · rw [List.getElem?_append_left (by simpa using hi), List.getElem?_map] at h
      rw [List.getElem?_append_left (by simpa [el] using hi), List.getElem?_map]
      cases q : ds[i]? with
      | none =>
        rw [q] at h
        cases h
      | some d =>
        rw [q] at h
        cases h
        obtain ⟨v, h1, h2⟩ := r.get q
        exact ⟨some v, by rw [h1]; rfl, v, rfl, h2⟩
    · rw [List.getElem?_append_right (by simpa using Nat.le_of_not_lt hi), List.getElem?_replicate] at h
      rw [List.getElem?_append_right (by simpa [el] using Nat.le_of_not_lt hi), List.getElem?_replicate]
      split at h
      · cases h
        rename_i hq
        refine ⟨none, ?_, True.intro⟩
        rw [if_pos]
        simpa [el] using hq
      · cases h
  · unfold startD at h1
    have hm := List.mem_of_getElem? h1
    rcases List.mem_append.mp hm with q | q
    · obtain ⟨_, _, z⟩ := List.mem_map.mp q
      rw [← z] at m1
      cases m1
    · have z := List.eq_of_mem_replicate q
      rw [z] at m1
      cases m1
/-- the rule for a def, where no repr is under way -/
theorem fnG_of {P : Program} {w : World} {K : PySem.W.Frag} {mg : Str → Option Value} {base : Heap} {x qual : Str} {st : Stmt} {fa : Addr} {fd : FuncData} {N ps : List Str} {k : Nat} {sp : Sp} (F : Fun K x qual st fa fd) (S : FnScope N ps (defScope st)) (ln : ∀ vs H Q E, sp vs H Q E → vs.length = ps.length)
    (hb : ∀ (cdv : Value) (A : Around) (out : List PySem.Env) (z : Shared) (H : Hp) (vs : List V) (Q : VK) (E : XK), RmG k (A.deeper (PyProof.Rows.envOfC qual (defScope st) z.heap.objs.size fa cdv)) → sp vs H Q E →
      ∃ t, PSs (cxOf (L2.CX P w) P w K mg base N qual (defScope st) fa cdv A out z H E) (defBody st) t ∧ t { nx := fun _ H' => Q .non H', rt := Q } (L2.start N vs) H) : FnG P w K mg base (k + 1) fa fd ps sp := by
  obtain ⟨oc, od, kV, doc, pm, an, cdv, ct, osl, rfl, lk, hcd⟩ := F.ex
  refine ⟨ln, fun A out z H ag us vs Q E m e0 bd rv hs => ?_⟩
  have inK : K.In z.heap := e0.mod.kin.keeps fun c u q => (e0.bs c u q).1
  have noL : z.heap.NoLimit := e0.mod.nolimit.keeps fun c u q => (e0.bs c u q).1
  have kinds : ∀ y ∈ ps.zip us, (defScope st).names.lookup y.1 = some .local ∨ ((defScope st).names.lookup y.1 = some .cell ∧ ((cellsFrom (z.heap.objs.size + 1) (defScope st).names []).lookup y.1).isSome = true) := by
    rintro ⟨n, v⟩ hy
    refine (S.par n (List.of_mem_zip hy).1).imp id ?_
    intro c
    exact ⟨c, PySem.W.cellsFrom_some _ _ _ (.inl c)⟩
  apply codeAny_call_function m.r.depth (inK _ _ lk) rfl S.co S.gen rfl (PySem.W.codeRec_of inK hcd)
  apply bd
  apply wpAny_newFunctionEnv_cells S.kind kinds
  intro env he z1 inC
  subst he
  obtain ⟨t, pt, tq⟩ := hb cdv A out z H vs Q E ⟨m.r.deeper _, m.g⟩ hs
  have I0 := inv_start (CX := L2.CX P w) (E := E) S m.r.hd e0 (ln _ _ _ _ hs) rv inC
  refine ⟨noL.keeps inC.toInCall.keep, codeAny_func (wpAny_mono (pt.run [] z1 _ H _ I0 tq) ?_ fun _ _ q => q)⟩
  intro fl z' hfl
  match fl, hfl with
  | .ret u, ⟨v, _, H', J, ru, q⟩ => exact ⟨v, H', J.os, J.bare, J.base, J.hok, ru, q⟩
  | .next, ⟨_, H', J, q⟩ => exact ⟨V.non, H', J.os, J.bare, J.base, J.hok, rfl, q⟩
  | .brk, ⟨_, _, _, q⟩ => exact q.elim
  | .cont, ⟨_, _, _, q⟩ => exact q.elim
theorem def_ok {P : Program} {w : World} {base : Heap} {x qual : Str} {st : Stmt} {fa : Addr} {fd : FuncData} {N ps : List Str} {k : Nat} {f : List D → M D} (F : Fun mg.K x qual st fa fd) (S : FnScope N ps (defScope st))
    (h : ∀ (cdv : Value) (A : Around) (outer : List PySem.Env) (s : Shared) (H : Hp) (E : XK), RmG k (A.deeper (PyProof.Rows.envOfC qual (defScope st) s.heap.objs.size fa cdv)) →
      ∃ g, DSs (fun _ : Unit => cxOf (L2.CX P w) P w mg.K mg.mg base N qual (defScope st) fa cdv A outer s H E) mg (fun cls d _ H' => E cls d H') (defBody st) g ∧
        ∀ ds Q Ex, ds.length = ps.length → f ds Q Ex → g ⟨fun _ => Q .non, fun d _ => Q d, fun _ => False, fun _ => False, fun x _ => Ex x⟩ (startD N.length ds)) :
    FnG P w mg.K mg.mg base (k + 1) fa fd ps (spD mg ps.length f) := by
  refine fnG_of F S (fun vs H Q E hs => ?_) (fun cdv A outer s H vs Q E hr hs => ?_)
  · obtain ⟨W, ds, Qd, Ed, _, r, l, _⟩ := hs
    rw [r.length, l]
  · obtain ⟨W, ds, Qd, Ed, hh, r, l, hf, q, x⟩ := hs
    obtain ⟨g, ⟨t, h1, h2⟩, h3⟩ := h cdv A outer s H E hr
    refine ⟨t, h1 (), ?_⟩
    refine h2 W H _ _ (h3 ds Qd Ed l hf) W _ H _ (Step.refl hh) (EnvR.start r) ⟨fun W' H' σ' ρ' s' e' k => q W' H' _ _ s' .non k, fun W' H' _ _ v d s' _ r k => q W' H' v d s' r k, fun _ _ _ _ _ _ k => k, fun _ _ _ _ _ _ k => k, fun W' H' σ' ρ' cls dd y s' e' r' k => x W' H' cls dd y s' r' k⟩
end
end FP
/-! FP4: operators, comparisons, built-in functions by data. -/
namespace FP
open PySem L2
variable [Tabl]
section
variable {ι : Type} {Xs : ι → Cx} {mg : Gm} {Wx : WX} {pos : Pos}
/-! ### arithmetic, joining -/
theorem op_catK {X : Cx} {K : PySem.W.Frag} (h : X.K = K) : OpR X (binaryOp .Add) (rCatA K) := by
  subst h
  exact op_catA
theorem op_inK {X : Cx} {K : PySem.W.Frag} (h : X.K = K) : OpR X (compareOp .In) (rIn K false) := by
  subst h
  exact op_in_seq
theorem op_notInK {X : Cx} {K : PySem.W.Frag} (h : X.K = K) : OpR X (compareOp .NotIn) (rIn K true) := by
  subst h
  exact op_notIn_seq
def rdAdd : RD2 := fun x y Q => match x, y with
  | .int i, .int j => Q (.int (i + j))
  | .str a, .str b => a.length + b.length ≤ sizeLine ∧ Q (.str (a ++ b))
  | .lst xs, .lst ys => xs.length + ys.length ≤ sizeLine ∧ Q (.lst (xs ++ ys))
  | .tup xs, .tup ys => xs.length + ys.length ≤ sizeLine ∧ Q (.tup (xs ++ ys))
  | _, _ => False
theorem ok_add (hK : ∀ j, (Xs j).K = mg.K := by intro _; rfl) : OpOk Xs mg (binaryOp .Add) rdAdd := by
  refine ⟨_, fun j => OpR.or op_add (OpR.or op_add_str (OpR.or op_cat (op_catK (hK j)))), ?_⟩
  intro W H x y dx dy Q Q' hh rx ry h q
  unfold rdAdd at h
  split at h
  · cases rx
    cases ry
    exact .inl ⟨_, _, rfl, rfl, q W H _ _ (Step.refl hh) (.int _) h⟩
  · cases rx
    cases ry
    exact .inr (.inl ⟨_, _, rfl, rfl, h.1, q W H _ _ (Step.refl hh) (.str _) h.2⟩)
  · cases rx with
    | lst ha ra =>
      cases ry with
      | lst hb rb => exact .inr (.inr (.inl ⟨_, _, _, _, rfl, rfl, hh.same _ _ ha, hh.same _ _ hb, by rw [ra.length, rb.length]; exact h.1, to_lst q hh (ra.append rb) h.2⟩))
  · cases rx with
    | tup ha ra =>
      cases ry with
      | tup hb rb =>
        refine .inr (.inr (.inr ⟨_, _, _, _, rfl, rfl, SqT.of (hh.same _ _ ha), SqT.of (hh.same _ _ hb), by rw [ra.length, rb.length]; exact h.1, fun e => ?_, fun _ e => ?_, fun _ _ => to_tup q hh (ra.append rb) h.2⟩))
        · subst e
          cases ra
          exact q W H _ _ (Step.refl hh) (.tup hb rb) h.2
        · subst e
          cases rb
          have h2 := h.2
          rw [List.append_nil] at h2
          exact q W H _ _ (Step.refl hh) (.tup ha ra) h2
  · exact h.elim
def rdSub : RD2 := fun x y Q => match x, y with
  | .int i, .int j => Q (.int (i - j))
  | _, _ => False
theorem ok_sub : OpOk Xs mg (binaryOp .Sub) rdSub := by
  refine ⟨_, fun j => op_sub, ?_⟩
  intro W H x y dx dy Q Q' hh rx ry h q
  unfold rdSub at h
  split at h
  · cases rx
    cases ry
    exact ⟨_, _, rfl, rfl, q W H _ _ (Step.refl hh) (.int _) h⟩
  · exact h.elim
def rdMul : RD2 := fun x y Q => match x, y with
  | .int i, .int j => CMul i j ∧ Q (.int (i * j))
  | .lst xs, .int k => (-(2 ^ 63) ≤ k ∧ k < 2 ^ 63) ∧ xs.length * k.toNat ≤ sizeLine ∧ Q (.lst (List.replicate k.toNat xs).flatten)
  | _, _ => False
theorem Reps.flat {W : Wd} {vs : List V} {ds : List D} (r : Reps mg W vs ds) : ∀ n, Reps mg W (List.replicate n vs).flatten (List.replicate n ds).flatten
  | 0 => .nil
  | n + 1 => by
    rw [List.replicate_succ, List.replicate_succ, List.flatten_cons, List.flatten_cons]
    exact r.append (Reps.flat r n)
theorem ok_mul : OpOk Xs mg (binaryOp .Mult) rdMul := by
  refine ⟨_, fun j => OpR.or op_mul op_rep, ?_⟩
  intro W H x y dx dy Q Q' hh rx ry h q
  unfold rdMul at h
  split at h
  · cases rx
    cases ry
    exact .inl ⟨_, _, rfl, rfl, h.1, q W H _ _ (Step.refl hh) (.int _) h.2⟩
  · cases rx with
    | lst ha ra =>
      cases ry
      exact .inr ⟨_, _, _, rfl, rfl, hh.same _ _ ha, h.1.1, h.1.2, by rw [ra.length]; exact h.2.1, to_lst q hh (ra.flat _) h.2.2⟩
  · exact h.elim
def rdFdiv : RD2 := fun x y Q => match x, y with
  | .int i, .int j => CDivN i j ∧ Q (.int (i.fdiv j))
  | _, _ => False
theorem ok_fdiv : OpOk Xs mg (binaryOp .FloorDiv) rdFdiv := by
  refine ⟨_, fun j => op_fdivN, ?_⟩
  intro W H x y dx dy Q Q' hh rx ry h q
  unfold rdFdiv at h
  split at h
  · cases rx
    cases ry
    exact ⟨_, _, rfl, rfl, h.1, q W H _ _ (Step.refl hh) (.int _) h.2⟩
  · exact h.elim
def rdMod : RD2 := fun x y Q => match x, y with
  | .int i, .int j => 0 < j ∧ Q (.int (i % j))
  | _, _ => False
theorem ok_mod : OpOk Xs mg (binaryOp .Mod) rdMod := by
  refine ⟨_, fun j => op_mod, ?_⟩
  intro W H x y dx dy Q Q' hh rx ry h q
  unfold rdMod at h
  split at h
  · cases rx
    cases ry
    exact ⟨_, _, rfl, rfl, h.1, q W H _ _ (Step.refl hh) (.int _) h.2⟩
  · exact h.elim
def CPowW (a n : Int) : Prop := 0 ≤ n ∧ (Builtin.Int.intBits a : Int) * n ≤ 2 ^ 27
theorem op_powW {X : Cx} : OpR X (binaryOp .Pow) (rI CPowW fun i j => .int (i ^ j.toNat)) := opI fun _ _ _ _ _ _ _ hc q => PyProof.Rows.pow_int hc.1 hc.2 q
def rdPow : RD2 := fun x y Q => match x, y with
  | .int i, .int j => CPowW i j ∧ Q (.int (i ^ j.toNat))
  | _, _ => False
theorem ok_pow : OpOk Xs mg (binaryOp .Pow) rdPow := by
  refine ⟨_, fun j => op_powW, ?_⟩
  intro W H x y dx dy Q Q' hh rx ry h q
  unfold rdPow at h
  split at h
  · cases rx
    cases ry
    exact ⟨_, _, rfl, rfl, h.1, q W H _ _ (Step.refl hh) (.int _) h.2⟩
  · exact h.elim
abbrev dNeg (f : DTE) : DTE := fun ρ Q E => f ρ (fun x => match x with
  | .int i => Q (.int (-i))
  | _ => False) E
theorem de_neg {a : Expr} {f : DTE} (h : DE Xs mg Wx a f) : DE Xs mg Wx (.UnaryOp .USub a pos) (dNeg f) := by
  obtain ⟨t, h1, h2⟩ := h
  refine ⟨_, fun i => pe_un un_neg (h1 i), fun B ρ Q E hf W σ H Q' hh e x q => h2 B ρ _ E hf W σ H _ hh e x fun W1 H1 v d s1 r1 k1 => ?_⟩
  cases r1 with
  | int i => exact ⟨_, rfl, q W1 H1 _ _ s1 (.int _) k1⟩
  | _ => exact k1.elim
/-! ### order -/
def rdLt : RD2 := fun x y Q => match x, y with
  | .int i, .int j => Q (.bl (decide (i < j)))
  | .str a, .str b => Q (.bl (decide (a.cps.toList < b.cps.toList)))
  | _, _ => False
def rdLe : RD2 := fun x y Q => match x, y with
  | .int i, .int j => Q (.bl (decide (i ≤ j)))
  | .str a, .str b => Q (.bl (!decide (b.cps.toList < a.cps.toList)))
  | _, _ => False
def rdGt : RD2 := fun x y Q => match x, y with
  | .int i, .int j => Q (.bl (decide (j < i)))
  | .str a, .str b => Q (.bl (decide (b.cps.toList < a.cps.toList)))
  | _, _ => False
def rdGe : RD2 := fun x y Q => match x, y with
  | .int i, .int j => Q (.bl (decide (j ≤ i)))
  | .str a, .str b => Q (.bl (!decide (a.cps.toList < b.cps.toList)))
  | _, _ => False
theorem ok_lt : OpOk Xs mg (compareOp .Lt) rdLt := by
  refine ⟨_, fun j => OpR.or op_lt op_lt_str, ?_⟩
  intro W H x y dx dy Q Q' hh rx ry h q
  unfold rdLt at h
  split at h
  · cases rx
    cases ry
    exact .inl ⟨_, _, rfl, rfl, q W H _ _ (Step.refl hh) (.bl _) h⟩
  · cases rx
    cases ry
    exact .inr ⟨_, _, rfl, rfl, q W H _ _ (Step.refl hh) (.bl _) h⟩
  · exact h.elim
theorem ok_le : OpOk Xs mg (compareOp .LtE) rdLe := by
  refine ⟨_, fun j => OpR.or op_le op_le_str, ?_⟩
  intro W H x y dx dy Q Q' hh rx ry h q
  unfold rdLe at h
  split at h
  · cases rx
    cases ry
    exact .inl ⟨_, _, rfl, rfl, q W H _ _ (Step.refl hh) (.bl _) h⟩
  · cases rx
    cases ry
    exact .inr ⟨_, _, rfl, rfl, q W H _ _ (Step.refl hh) (.bl _) h⟩
  · exact h.elim
theorem ok_gt : OpOk Xs mg (compareOp .Gt) rdGt := by
  refine ⟨_, fun j => OpR.or op_gt op_gt_str, ?_⟩
  intro W H x y dx dy Q Q' hh rx ry h q
  unfold rdGt at h
  split at h
  · cases rx
    cases ry
    exact .inl ⟨_, _, rfl, rfl, q W H _ _ (Step.refl hh) (.bl _) h⟩
  · cases rx
    cases ry
    exact .inr ⟨_, _, rfl, rfl, q W H _ _ (Step.refl hh) (.bl _) h⟩
  · exact h.elim
/-! ### equality -/
mutual
def toPy : D → Option PyData
  | .non => some .none
  | .bl b => some (.bool b)
  | .int i => some (.int i)
  | .str x => some (.str x)
  | .tup xs => match toPys xs with
    | some ps => some (.tuple ps)
    | none => none
  | .lst xs => match toPys xs with
    | some ps => some (.list ps)
    | none => none
  | .fz _ => none
  | .dct _ => none
  | .ins _ _ => none
  | .tok => none
  | .cl _ => none
  | .fn _ _ => none
def toPys : List D → Option (List PyData)
  | [] => some []
  | x :: xs => match toPy x, toPys xs with
    | some p, some ps => some (p :: ps)
    | _, _ => none
end
mutual
theorem Rep.dp {W : Wd} {H : Hp} (hh : Holds W H) : ∀ {v : V} {d : D} {p : PyData}, Rep mg W v d → toPy d = some p → Dp mg.K H v p
  | _, _, _, .non, e => by
    unfold toPy at e
    cases e
    exact .non
  | _, _, _, .bl b, e => by
    unfold toPy at e
    cases e
    exact .bl b
  | _, _, _, .int i, e => by
    unfold toPy at e
    cases e
    exact .int i
  | _, _, _, .str x, e => by
    unfold toPy at e
    cases e
    exact .str x
  | _, _, _, .tup ha r, e => by
    unfold toPy at e
    split at e
    · rename_i ps hp
      cases e
      exact .tup (SqT.of (hh.same _ _ ha)) (Reps.dp hh r hp)
    · cases e
  | _, _, _, .lst ha r, e => by
    unfold toPy at e
    split at e
    · rename_i ps hp
      cases e
      exact .lst (SqL.of (hh.same _ _ ha)) (Reps.dp hh r hp)
    · cases e
  | _, _, _, .fz _ _, e => by
    unfold toPy at e
    cases e
  | _, _, _, .dct _ _ _, e => by
    unfold toPy at e
    cases e
  | _, _, _, .ins _ _ _ _, e => by
    unfold toPy at e
    cases e
  | _, _, _, .tok _, e => by
    unfold toPy at e
    cases e
  | _, _, _, .cl _, e => by
    unfold toPy at e
    cases e
  | _, _, _, .fn _, e => by
    unfold toPy at e
    cases e
theorem Reps.dp {W : Wd} {H : Hp} (hh : Holds W H) : ∀ {vs : List V} {ds : List D} {ps : List PyData}, Reps mg W vs ds → toPys ds = some ps → DpAll mg.K H vs ps
  | _, _, _, .nil, e => by
    unfold toPys at e
    cases e
    exact .nil
  | _, _, _, .cons r rs, e => by
    unfold toPys at e
    split at e
    · rename_i p ps h1 h2
      cases e
      exact .cons (Rep.dp hh r h1) (Reps.dp hh rs h2)
    · cases e
end
/-- two plain values -/
def eqS : D → D → Option Bool
  | .str a, .str b => some (decide (a = b))
  | .int a, .int b => some (decide (a = b))
  | .bl a, .bl b => some (decide (a = b))
  | .non, .non => some true
  | .non, .str _ => some false
  | .str _, .non => some false
  | .non, .int _ => some false
  | .int _, .non => some false
  | _, _ => none
def rdEq : RD2 := fun x y Q => match eqS x y with
  | some b => Q (.bl b)
  | none => ∃ p q, toPy x = some p ∧ toPy y = some q ∧ SeqAt.shaped p = true ∧ SeqAt.shaped q = true ∧ Q (.bl (PyData.eqv p q))
def rdNe : RD2 := fun x y Q => match eqS x y with
  | some b => Q (.bl (!b))
  | none => ∃ p q, toPy x = some p ∧ toPy y = some q ∧ SeqAt.shaped p = true ∧ SeqAt.shaped q = true ∧ Q (.bl (!PyData.eqv p q))
theorem eqS_v {W : Wd} {x y : V} {dx dy : D} {b : Bool} (rx : Rep mg W x dx) (ry : Rep mg W y dy) (h : eqS dx dy = some b) : scal x y = true ∧ decide (x = y) = b := by
  unfold eqS at h
  split at h
  all_goals first | (cases h; done) | skip
  all_goals (cases rx; cases ry; cases h; refine ⟨rfl, ?_⟩; try rfl)
  · rw [Bool.eq_iff_iff, decide_eq_true_iff, decide_eq_true_iff]
    exact ⟨fun q => V.str.inj q, fun q => by rw [q]⟩
  · rw [Bool.eq_iff_iff, decide_eq_true_iff, decide_eq_true_iff]
    exact ⟨fun q => V.int.inj q, fun q => by rw [q]⟩
  · rw [Bool.eq_iff_iff, decide_eq_true_iff, decide_eq_true_iff]
    exact ⟨fun q => V.bl.inj q, fun q => by rw [q]⟩
theorem ok_eq (hu : ∀ j, (Xs j).A.units + 64 < cLine) (hK : ∀ j, (Xs j).K = mg.K := by intro _; rfl) : OpOk Xs mg (compareOp .Eq) rdEq := by
  refine ⟨fun x y H Q => rEq x y H Q ∨ rEqD mg.K x y H Q, fun j => OpR.or op_eq (by rw [← hK j]; exact op_eqD (hu j)), ?_⟩
  intro W H x y dx dy Q Q' hh rx ry h q
  unfold rdEq at h
  split at h
  · rename_i b hb
    obtain ⟨h1, h2⟩ := eqS_v rx ry hb
    exact .inl ⟨h1, by rw [h2]; exact q W H _ _ (Step.refl hh) (.bl _) h⟩
  · obtain ⟨p, p', h1, h2, h3, h4, h5⟩ := h
    exact .inr ⟨p, p', rx.dp hh h1, ry.dp hh h2, h3, h4, q W H _ _ (Step.refl hh) (.bl _) h5⟩
theorem ok_ne (hu : ∀ j, (Xs j).A.units + 64 < cLine) (hK : ∀ j, (Xs j).K = mg.K := by intro _; rfl) : OpOk Xs mg (compareOp .NotEq) rdNe := by
  refine ⟨fun x y H Q => rNe x y H Q ∨ rNeD mg.K x y H Q, fun j => OpR.or op_ne (by rw [← hK j]; exact op_neD (hu j)), ?_⟩
  intro W H x y dx dy Q Q' hh rx ry h q
  unfold rdNe at h
  split at h
  · rename_i b hb
    obtain ⟨h1, h2⟩ := eqS_v rx ry hb
    exact .inl ⟨h1, by rw [h2]; exact q W H _ _ (Step.refl hh) (.bl _) h⟩
  · obtain ⟨p, p', h1, h2, h3, h4, h5⟩ := h
    exact .inr ⟨p, p', rx.dp hh h1, ry.dp hh h2, h3, h4, q W H _ _ (Step.refl hh) (.bl _) h5⟩
/-- is None, is not None -/
def isNon : D → Bool
  | .non => true
  | _ => false
theorem isNon_v {W : Wd} {x : V} {d : D} (r : Rep mg W x d) : decide (x = .non) = isNon d := by
  cases r <;> rfl
def rdIs : RD2 := fun x y Q => match y with
  | .non => Q (.bl (isNon x))
  | _ => False
def rdIsNot : RD2 := fun x y Q => match y with
  | .non => Q (.bl (!isNon x))
  | _ => False
theorem ok_is : OpOk Xs mg (compareOp .Is) rdIs := by
  refine ⟨_, fun j => op_isN, ?_⟩
  intro W H x y dx dy Q Q' hh rx ry h q
  cases ry with
  | non => exact ⟨rfl, by rw [isNon_v rx]; exact q W H _ _ (Step.refl hh) (.bl _) h⟩
  | _ => exact h.elim
theorem ok_isNot : OpOk Xs mg (compareOp .IsNot) rdIsNot := by
  refine ⟨_, fun j => op_notN, ?_⟩
  intro W H x y dx dy Q Q' hh rx ry h q
  cases ry with
  | non => exact ⟨rfl, by rw [isNon_v rx]; exact q W H _ _ (Step.refl hh) (.bl _) h⟩
  | _ => exact h.elim
/-! ### in -/
/-- the texts and numbers that stand in a row, as values -/
def flatD : D → Option V
  | .non => some .non
  | .bl b => some (.bl b)
  | .int i => some (.int i)
  | .str x => some (.str x)
  | _ => none
def flatsD : List D → Option (List V)
  | [] => some []
  | x :: xs => match flatD x, flatsD xs with
    | some p, some ps => some (p :: ps)
    | _, _ => none
theorem flat_v {W : Wd} {x v : V} {d : D} (r : Rep mg W x d) (h : flatD d = some v) : x = v := by
  cases r <;> first | (cases h; rfl) | cases h
theorem flats_v {W : Wd} : ∀ {xs vs : List V} {ds : List D}, Reps mg W xs ds → flatsD ds = some vs → xs = vs
  | _, _, _, .nil, h => by
    cases h
    rfl
  | _, _, _, .cons r rs, h => by
    unfold flatsD at h
    split at h
    · rename_i p ps h1 h2
      cases h
      rw [flat_v r h1, flats_v rs h2]
    · cases h
/-- x in y: a sign in a text, a text in a row of texts -/
def inD (x y : D) : Option Bool := match x, y with
  | .str a, .str z => match a.cps.toList with
    | [c] => some (decide (c ∈ z.cps.toList))
    | _ => none
  | x, .lst ys => match flatD x, flatsD ys with
    | some v, some vs => if flatV v = true ∧ vs.all flatV = true then some (inV v vs) else none
    | _, _ => none
  | x, .tup ys => match flatD x, flatsD ys with
    | some v, some vs => if flatV v = true ∧ vs.all flatV = true then some (inV v vs) else none
    | _, _ => none
  | _, _ => none
def rdIn : RD2 := fun x y Q => match inD x y with
  | some b => Q (.bl b)
  | none => False
def rdNotIn : RD2 := fun x y Q => match inD x y with
  | some b => Q (.bl (!b))
  | none => False
theorem str_one {a : Str} {c : Nat} (h : a.cps.toList = [c]) : a = ⟨#[c]⟩ := by
  cases a with
  | mk cps =>
    have e : cps = #[c] := by
      apply Array.ext'
      simpa using h
    rw [e]
theorem inD_v {W : Wd} {H : Hp} {x y : V} {dx dy : D} {b : Bool} (hh : Holds W H) (rx : Rep mg W x dx) (ry : Rep mg W y dy) (h : inD dx dy = some b) :
    (∃ (c : Nat) (z : Str), x = .str ⟨#[c]⟩ ∧ y = .str z ∧ decide (c ∈ z.cps.toList) = b) ∨ ∃ p xs, y = .ref p ∧ (SqL mg.K H p xs ∨ SqT mg.K H p xs) ∧ flatV x = true ∧ xs.all flatV = true ∧ inV x xs = b := by
  unfold inD at h
  split at h
  · cases rx
    cases ry
    split at h
    · rename_i c hc
      cases h
      exact .inl ⟨c, _, by rw [str_one hc], rfl, rfl⟩
    · cases h
  · cases ry with
    | lst ha ra =>
      split at h
      · rename_i v vs h1 h2
        have e1 := flat_v rx h1
        have e2 := flats_v ra h2
        subst e1 e2
        split at h
        · rename_i hf
          cases h
          exact .inr ⟨_, _, rfl, .inl (SqL.of (hh.same _ _ ha)), hf.1, hf.2, rfl⟩
        · cases h
      · cases h
  · cases ry with
    | tup ha ra =>
      split at h
      · rename_i v vs h1 h2
        have e1 := flat_v rx h1
        have e2 := flats_v ra h2
        subst e1 e2
        split at h
        · rename_i hf
          cases h
          exact .inr ⟨_, _, rfl, .inr (SqT.of (hh.same _ _ ha)), hf.1, hf.2, rfl⟩
        · cases h
      · cases h
  · cases h
theorem ok_in (hK : ∀ j, (Xs j).K = mg.K := by intro _; rfl) : OpOk Xs mg (compareOp .In) rdIn := by
  refine ⟨_, fun j => OpR.or op_in_sign (op_inK (hK j)), ?_⟩
  intro W H x y dx dy Q Q' hh rx ry h q
  unfold rdIn at h
  split at h
  · rename_i b hb
    rcases inD_v hh rx ry hb with ⟨c, z, e1, e2, e3⟩ | ⟨p, xs, e1, e2, e3, e4, e5⟩
    · exact .inl ⟨c, z, e1, e2, by rw [e3]; exact q W H _ _ (Step.refl hh) (.bl _) h⟩
    · exact .inr ⟨p, xs, e1, e2, e3, e4, by
        show Q' (.bl (inV x xs)) H
        rw [e5]
        exact q W H _ _ (Step.refl hh) (.bl _) h⟩
  · exact h.elim
theorem ok_notIn (hK : ∀ j, (Xs j).K = mg.K := by intro _; rfl) : OpOk Xs mg (compareOp .NotIn) rdNotIn := by
  refine ⟨_, fun j => OpR.or op_notIn_sign (op_notInK (hK j)), ?_⟩
  intro W H x y dx dy Q Q' hh rx ry h q
  unfold rdNotIn at h
  split at h
  · rename_i b hb
    rcases inD_v hh rx ry hb with ⟨c, z, e1, e2, e3⟩ | ⟨p, xs, e1, e2, e3, e4, e5⟩
    · exact .inl ⟨c, z, e1, e2, by rw [e3]; exact q W H _ _ (Step.refl hh) (.bl _) h⟩
    · exact .inr ⟨p, xs, e1, e2, e3, e4, by
        show Q' (.bl (!inV x xs)) H
        rw [e5]
        exact q W H _ _ (Step.refl hh) (.bl _) h⟩
  · exact h.elim
end
end FP
/-! FP5: built-in functions by data. -/
namespace FP
open PySem L2
variable [Tabl]
section
variable {ι : Type} {Xs : ι → Cx} {mg : Gm} {Wx : WX} {pos : Pos}
def rdLen : RDL := fun ds Q => match ds with
  | [.str z] => z.length ≤ sizeLine ∧ Q (.int z.length)
  | [.lst xs] => Q (.int xs.length)
  | [.fz xs] => Q (.int xs.length)
  | [.tup xs] => Q (.int xs.length)
  | [.dct kvs] => Q (.int kvs.length)
  | _ => False
theorem call_lenK {X : Cx} {K : PySem.W.Frag} (h : X.K = K) : CallR X (.builtin "len") (fun xs H Q => ∃ x n, xs = [x] ∧ LenV K x H n ∧ Q (.int n) H) := by
  subst h
  exact call_len
theorem call_lenF {X : Cx} : CallR X (.builtin "len") (fun xs H Q => ∃ a kvs, xs = [V.ref a] ∧ Rd H a (.dK kvs) ∧ Q (.int kvs.length) H) := by
  intro pins s σ H xs us Q I r h
  obtain ⟨a, kvs, rfl, ha, q⟩ := h
  rw [Vals.ref1 r]
  exact d_len I ha fun t s' I' => ⟨.int kvs.length, H, I', ⟨t, rfl⟩, q⟩
theorem ok_len (hK : ∀ j, (Xs j).K = mg.K := by intro _; rfl) : CallOk Xs mg (.builtin "len") rdLen := by
  refine ⟨_, fun j => CallR.or (call_lenK (hK j)) call_lenF, ?_⟩
  intro W H vs ds Q Q' hh r h q
  unfold rdLen at h
  split at h
  · cases r with
    | cons r rs =>
      cases rs
      cases r
      exact .inl ⟨_, _, rfl, ⟨h.1, rfl⟩, q W H _ _ (Step.refl hh) (.int _) h.2⟩
  · cases r with
    | cons r rs =>
      cases rs
      cases r with
      | lst ha ra => exact .inl ⟨_, _, rfl, .inl ⟨_, SqL.of (hh.same _ _ ha), rfl⟩, by rw [ra.length]; exact q W H _ _ (Step.refl hh) (.int _) h⟩
  · cases r with
    | cons r rs =>
      cases rs
      cases r with
      | fz ha ra => exact .inl ⟨_, _, rfl, .inl ⟨_, hh.same.seq ha, rfl⟩, by rw [ra.length]; exact q W H _ _ (Step.refl hh) (.int _) h⟩
  · cases r with
    | cons r rs =>
      cases rs
      cases r with
      | tup ha ra => exact .inl ⟨_, _, rfl, .inr ⟨_, SqT.of (hh.same _ _ ha), rfl⟩, by rw [ra.length]; exact q W H _ _ (Step.refl hh) (.int _) h⟩
  · cases r with
    | cons r rs =>
      cases rs
      cases r with
      | dct ha hk ra =>
        refine .inr ⟨_, _, rfl, .inr ⟨_, hh.same _ _ ha⟩, ?_⟩
        have e := congrArg List.length hk
        simp only [List.length_map] at e
        rw [e]
        exact q W H _ _ (Step.refl hh) (.int _) h
  · exact h.elim
def rdInt : RDL := fun ds Q => match ds with
  | [.int i] => Q (.int i)
  | [.bl b] => Q (.int (if b then 1 else 0))
  | [.str a] => ∃ n, PySem.intText? a = some n ∧ a.length ≤ 640 ∧ Q (.int n)
  | _ => False
theorem ok_int : CallOk Xs mg (.type "int") rdInt := by
  refine ⟨_, fun j => CallR.or call_int1 call_int_str, ?_⟩
  intro W H vs ds Q Q' hh r h q
  unfold rdInt at h
  split at h
  · cases r with
    | cons r rs =>
      cases rs
      cases r
      exact .inl (.inl ⟨_, rfl, q W H _ _ (Step.refl hh) (.int _) h⟩)
  · cases r with
    | cons r rs =>
      cases rs
      cases r
      exact .inl (.inr ⟨_, rfl, q W H _ _ (Step.refl hh) (.int _) h⟩)
  · cases r with
    | cons r rs =>
      cases rs
      cases r
      obtain ⟨n, h1, h2, h3⟩ := h
      exact .inr ⟨_, n, rfl, h1, h2, q W H _ _ (Step.refl hh) (.int _) h3⟩
  · exact h.elim
def rdAbs : RDL := fun ds Q => match ds with
  | [.int i] => Q (.int (if i < 0 then -i else i))
  | _ => False
theorem ok_abs : CallOk Xs mg (.builtin "abs") rdAbs := by
  refine ⟨_, fun j => call_abs, ?_⟩
  intro W H vs ds Q Q' hh r h q
  unfold rdAbs at h
  split at h
  · cases r with
    | cons r rs =>
      cases rs
      cases r
      exact ⟨_, rfl, q W H _ _ (Step.refl hh) (.int _) h⟩
  · exact h.elim
def rdMax : RDL := fun ds Q => match ds with
  | [.int i, .int j] => Q (.int (if j > i then j else i))
  | _ => False
def rdMin : RDL := fun ds Q => match ds with
  | [.int i, .int j] => Q (.int (if j < i then j else i))
  | _ => False
theorem ok_max (hc : ∀ j, (Xs j).calm = true := by intro _; rfl) : CallOk Xs mg (.builtin "max") rdMax := by
  refine ⟨_, fun j => call_max2 (hc j), ?_⟩
  intro W H vs ds Q Q' hh r h q
  unfold rdMax at h
  split at h
  · cases r with
    | cons r rs =>
      cases rs with
      | cons r2 rs =>
        cases rs
        cases r
        cases r2
        exact ⟨_, _, rfl, q W H _ _ (Step.refl hh) (.int _) h⟩
  · exact h.elim
theorem ok_min (hc : ∀ j, (Xs j).calm = true := by intro _; rfl) : CallOk Xs mg (.builtin "min") rdMin := by
  refine ⟨_, fun j => call_min2 (hc j), ?_⟩
  intro W H vs ds Q Q' hh r h q
  unfold rdMin at h
  split at h
  · cases r with
    | cons r rs =>
      cases rs with
      | cons r2 rs =>
        cases rs
        cases r
        cases r2
        exact ⟨_, _, rfl, q W H _ _ (Step.refl hh) (.int _) h⟩
  · exact h.elim
def rdStr : RDL := fun ds Q => match ds with
  | [.int i] => i.natAbs.log2 < 1920 ∧ Q (.str (toString i))
  | [.str a] => Q (.str a)
  | _ => False
theorem ok_str : CallOk Xs mg (.type "str") rdStr := by
  refine ⟨_, fun j => CallR.or call_str_int SkE.call_str_str, ?_⟩
  intro W H vs ds Q Q' hh r h q
  unfold rdStr at h
  split at h
  · cases r with
    | cons r rs =>
      cases rs
      cases r
      exact .inl ⟨_, rfl, h.1, q W H _ _ (Step.refl hh) (.str _) h.2⟩
  · cases r with
    | cons r rs =>
      cases rs
      cases r
      exact .inr ⟨_, rfl, q W H _ _ (Step.refl hh) (.str _) h⟩
  · exact h.elim
/-- truths as data -/
def blsD : List D → Option (List Bool)
  | [] => some []
  | .bl b :: r => match blsD r with
    | some bs => some (b :: bs)
    | none => none
  | _ :: _ => none
theorem bls_v {W : Wd} : ∀ {vs : List V} {ds : List D} {bs : List Bool}, Reps mg W vs ds → blsD ds = some bs → vs = bs.map V.bl
  | _, _, _, .nil, h => by
    cases h
    rfl
  | _, _, _, .cons r rs, h => by
    cases r with
    | bl b =>
      unfold blsD at h
      split at h
      · rename_i bs' hb
        cases h
        rw [bls_v rs hb]
        rfl
      · cases h
    | _ => cases h
theorem blsD_map (bs : List Bool) : blsD (bs.map D.bl) = some bs := by
  induction bs with
  | nil => rfl
  | cons b bs ih =>
    show (match blsD (bs.map D.bl) with | some bs => some (b :: bs) | none => none) = _
    rw [ih]
def rdAll : RDL := fun ds Q => match ds with
  | [.lst xs] => ∃ bs, blsD xs = some bs ∧ Q (.bl (bs.all id))
  | _ => False
theorem cr_allK {X : Cx} {K : PySem.W.Frag} (h : X.K = K) (hc : X.calm = true) : CallR X (.builtin "all") (rAll K) := by
  subst h
  exact cr_all hc
theorem ok_all (hK : ∀ j, (Xs j).K = mg.K := by intro _; rfl) (hc : ∀ j, (Xs j).calm = true := by intro _; rfl) : CallOk Xs mg (.builtin "all") rdAll := by
  refine ⟨_, fun j => cr_allK (hK j) (hc j), ?_⟩
  intro W H vs ds Q Q' hh r h q
  unfold rdAll at h
  split at h
  · cases r with
    | cons r rs =>
      cases rs
      cases r with
      | lst ha ra =>
        obtain ⟨bs, h1, h2⟩ := h
        have e := bls_v ra h1
        subst e
        exact ⟨_, bs, rfl, SqL.of (hh.same _ _ ha), q W H _ _ (Step.refl hh) (.bl _) h2⟩
  · exact h.elim
/-! ### list(x), tuple(x) -/
def rdList : RDL := fun ds Q => match ds with
  | [.lst xs] => Q (.lst xs)
  | [.tup xs] => Q (.lst xs)
  | [.str z] => z.cps.size ≤ sizeLine ∧ Q (.lst (signsD z))
  | [.dct kvs] => Q (.lst (kvs.map fun kv => match kv.1 with | .inl i => .int i | .inr x => .str x))
  | _ => False
def rdTuple : RDL := fun ds Q => match ds with
  | [.lst xs] => Q (.tup xs)
  | [.tup xs] => Q (.tup xs)
  | _ => False
theorem call_tupleK {X : Cx} {K : PySem.W.Frag} (h : X.K = K) : CallR X (.type "tuple") (fun xs H Q => ∃ p ys, xs = [.ref p] ∧ ((SqL K H p ys ∧ ∀ l, H l = none → Q (.ref l) (upd H l (.tup ys))) ∨ (SqT K H p ys ∧ Q (.ref p) H))) := by
  subst h
  exact call_tuple_of
theorem ok_tuple (hK : ∀ j, (Xs j).K = mg.K := by intro _; rfl) : CallOk Xs mg (.type "tuple") rdTuple := by
  refine ⟨_, fun j => call_tupleK (hK j), ?_⟩
  intro W H vs ds Q Q' hh r h q
  unfold rdTuple at h
  split at h
  · cases r with
    | cons r rs =>
      cases rs
      cases r with
      | lst ha ra => exact ⟨_, _, rfl, .inl ⟨SqL.of (hh.same _ _ ha), to_tup q hh ra h⟩⟩
  · cases r with
    | cons r rs =>
      cases rs
      cases r with
      | tup ha ra => exact ⟨_, _, rfl, .inr ⟨SqT.of (hh.same _ _ ha), q W H _ _ (Step.refl hh) (.tup ha ra) h⟩⟩
  · exact h.elim
/-! ### isinstance with a built-in class -/
def tyName : D → Option String
  | .non => some "NoneType"
  | .bl _ => some "bool"
  | .int _ => some "int"
  | .str _ => some "str"
  | .tup _ => some "tuple"
  | .lst _ => some "list"
  | .dct _ => some "dict"
  | .fz _ => none
  | .ins _ _ => none
  | .tok => some "list"
  | .cl _ => none
  | .fn _ _ => none
abbrev dIsi (T : String) (f : DTE) : DTE := fun ρ Q E => f ρ (fun x => match tyName x with
  | some n => ∃ b, kitB n T = some b ∧ Q (.bl b)
  | none => False) E
theorem tyName_v {W : Wd} {H : Hp} {x : V} {d : D} {n : String} (hh : Holds W H) (r : Rep mg W x d) (h : tyName d = some n) : TyX mg.K H x (.type n) := by
  cases r with
  | non => cases h; exact .base .non
  | bl b => cases h; exact .base (.bl b)
  | int i => cases h; exact .base (.int i)
  | str x => cases h; exact .base (.str x)
  | tup ha _ => cases h; exact .base (.tup (hh.same _ _ ha))
  | lst ha _ => cases h; exact .base (.lst (hh.same _ _ ha))
  | dct ha _ _ => cases h; exact .fDict (hh.same _ _ ha)
  | fz _ _ => cases h
  | ins _ _ _ _ => cases h
  | tok t =>
    cases h
    obtain ⟨_, x, y, z, e⟩ := hh.tok _ t
    exact .base (.lst e)
  | cl _ => cases h
  | fn _ => cases h
theorem call_isiK2 {X : Cx} {K : PySem.W.Frag} (h : X.K = K) : CallR X (.builtin "isinstance") (rIsi K) := by
  subst h
  exact call_isi
theorem de_isi {e : Expr} {f : DTE} {T : Str} {n : String} {p p2 : Pos} (h : DE Xs mg Wx e f) (hm : mg.mg "isinstance" = none) (hmT : mg.mg T = none) (hT : bootBuiltins T = some (.type n)) (hv : bootBuiltins "isinstance" = some (.builtin "isinstance"))
    (hK : ∀ j, (Xs j).K = mg.K := by intro _; rfl) (hM : ∀ j, (Xs j).mg = mg.mg := by intro _; rfl) (hg : ∀ j, Gl (Xs j) "isinstance" := by intro _; rfl) (hgT : ∀ j, Gl (Xs j) T := by intro _; rfl) (hn : T ≠ "__name__" := by decide) (hd : (T == ("__debug__" : Str)) = false := by decide)
    (he : ∀ j, starEach [e, .Name T p2] (Xs j).env = (false, eval e (Xs j).env) :: starEach [.Name T p2] (Xs j).env := by intro _; rfl) (he2 : ∀ j, starEach [.Name T p2] (Xs j).env = [(false, eval (.Name T p2) (Xs j).env)] := by intro _; rfl)
    (hpl : ∀ j, (backTo pos (starEach [.Name T p2] (Xs j).env)).any (·.1) = false := by intro _; rfl) : DE Xs mg Wx (.Call (.Name "isinstance" p) [e, .Name T p2] [] pos) (dIsi n f) := by
  obtain ⟨t, h1, h2⟩ := h
  refine ⟨tCB (rIsi mg.K) (tCons t (tCons (tC (.ty n)) tNil)), fun j => ?_, ?_⟩
  · exact pe_callB (call_isiK2 (hK j)) (hg j) (by rw [hM j]; exact hm) hv (pa_cons (h1 j) (pa_cons (pe_bltn (v := .ty n) (hgT j) (by rw [hM j]; exact hmT) hT rfl hn hd) pa_nil (he2 j)) (he j)) (by decide) (by decide) (he j) (hpl j)
  · intro B ρ Q E hf W σ H Q' hh e x q
    refine h2 B ρ _ E hf W σ H _ hh e x fun W1 H1 v d s1 r1 k1 => ?_
    dsimp only at k1
    split at k1
    · rename_i m hm
      obtain ⟨b, hb, hq⟩ := k1
      exact ⟨v, .ty n, .type m, .type n, b, rfl, .ty n, tyName_v s1.holds r1 hm, kit_ty hb, q W1 H1 _ _ s1 (.bl b) hq⟩
    · exact k1.elim
/-! ### items, slices, join -/
def rdIx : RD2 := fun x y Q => match x, y with
  | .lst xs, .int i => ∃ d, atI xs i = some d ∧ Q d
  | .fz xs, .int i => ∃ d, atI xs i = some d ∧ Q d
  | .tup xs, .int i => ∃ d, atI xs i = some d ∧ Q d
  | .str z, .int i => ∃ c, z.length ≤ sizeLine ∧ atI z.cps.toList i = some c ∧ Q (.str ⟨#[c]⟩)
  | .tok, .int i => (0 ≤ i ∧ i < 3) ∧ ∀ j, Q (.int j)
  | _, _ => False
theorem Reps.atI {W : Wd} {vs : List V} {ds : List D} {i : Int} {d : D} (r : Reps mg W vs ds) (h : atI ds i = some d) : ∃ v, L2.atI vs i = some v ∧ Rep mg W v d := by
  unfold L2.atI at h ⊢
  rw [r.length]
  cases q : ixN ds.length i with
  | none =>
    rw [q] at h
    cases h
  | some j =>
    rw [q] at h
    exact r.get h
theorem ix_seqK {X : Cx} {K : PySem.W.Frag} (h : X.K = K) : IxR X (rIx K) := by
  subst h
  exact ix_seq
theorem de_ix {a b : Expr} {fa fb : DTE} (ha : DE Xs mg Wx a fa) (hb : DE Xs mg Wx b fb) (hs : PlainIx b := by exact fun _ _ => rfl) (hK : ∀ j, (Xs j).K = mg.K := by intro _; rfl) : DE Xs mg Wx (.Subscript a b pos) (dOp rdIx fa fb) := by
  obtain ⟨ta, a1, a2⟩ := ha
  obtain ⟨tb, b1, b2⟩ := hb
  refine ⟨_, fun j => pe_ix (ix_seqK (hK j)) (a1 j) (b1 j) hs, Cp.op ?_ a2 b2⟩
  intro W H x y dx dy Q Q' hh rx ry h q
  unfold rdIx at h
  split at h
  · obtain ⟨d, h1, h2⟩ := h
    cases ry
    cases rx with
    | lst ha ra =>
      obtain ⟨v, g1, g2⟩ := ra.atI h1
      exact .inl ⟨_, _, _, v, rfl, rfl, SqL.of (hh.same _ _ ha), g1, q W H _ _ (Step.refl hh) g2 h2⟩
  · obtain ⟨d, h1, h2⟩ := h
    cases ry
    cases rx with
    | fz ha ra =>
      obtain ⟨v, g1, g2⟩ := ra.atI h1
      exact .inl ⟨_, _, _, v, rfl, rfl, hh.same.seq ha, g1, q W H _ _ (Step.refl hh) g2 h2⟩
  · obtain ⟨d, h1, h2⟩ := h
    cases ry
    cases rx with
    | tup ha ra =>
      obtain ⟨v, g1, g2⟩ := ra.atI h1
      exact .inr (.inl ⟨_, _, _, v, rfl, rfl, SqT.of (hh.same _ _ ha), g1, q W H _ _ (Step.refl hh) g2 h2⟩)
  · obtain ⟨c, h1, h2, h3⟩ := h
    cases ry
    cases rx
    exact .inr (.inr ⟨_, _, c, rfl, rfl, h1, h2, q W H _ _ (Step.refl hh) (.str _) h3⟩)
  · rename_i i
    obtain ⟨h1, h2⟩ := h
    cases ry with
    | int =>
      cases rx with
      | tok t =>
        obtain ⟨_, x, y, z, e⟩ := hh.tok _ t
        have hj : ∃ j, L2.atI [V.int x, V.int y, V.int z] i = some (.int j) := by
          have hi : i = 0 ∨ i = 1 ∨ i = 2 := by omega
          rcases hi with rfl | rfl | rfl
          · exact ⟨x, rfl⟩
          · exact ⟨y, rfl⟩
          · exact ⟨z, rfl⟩
        obtain ⟨j, hj⟩ := hj
        exact .inl ⟨_, _, _, _, rfl, rfl, SqL.of e, hj, q W H _ _ (Step.refl hh) (.int j) (h2 j)⟩
  · exact h.elim
/-- texts as data -/
def strsD : List D → Option (List Str)
  | [] => some []
  | .str b :: r => match strsD r with
    | some bs => some (b :: bs)
    | none => none
  | _ :: _ => none
theorem strs_v {W : Wd} : ∀ {vs : List V} {ds : List D} {bs : List Str}, Reps mg W vs ds → strsD ds = some bs → vs = bs.map V.str
  | _, _, _, .nil, h => by
    cases h
    rfl
  | _, _, _, .cons r rs, h => by
    cases r with
    | str b =>
      unfold strsD at h
      split at h
      · rename_i bs' hb
        cases h
        rw [strs_v rs hb]
        rfl
      · cases h
    | _ => cases h
theorem strsD_map (bs : List Str) : strsD (bs.map D.str) = some bs := by
  induction bs with
  | nil => rfl
  | cons b bs ih =>
    show (match strsD (bs.map D.str) with | some bs => some (b :: bs) | none => none) = _
    rw [ih]
abbrev dJoin (fo fe : DTE) : DTE := fun ρ Q E => fo ρ (fun x => match x with
  | .str a => fe ρ (fun y => match y with
    | .lst xs => ∃ ys, strsD xs = some ys ∧ (ys.map (·.length)).sum + ys.length * a.length ≤ 16777216 ∧ Q (.str (Txt.join a ys))
    | .tup xs => ∃ ys, strsD xs = some ys ∧ (ys.map (·.length)).sum + ys.length * a.length ≤ 16777216 ∧ Q (.str (Txt.join a ys))
    | _ => False) E
  | _ => False) E
theorem de_join {o e : Expr} {fo fe : DTE} {apos : Pos} (ho : DE Xs mg Wx o fo) (he : DE Xs mg Wx e fe) (hK : ∀ j, (Xs j).K = mg.K := by intro _; rfl) (hs : ∀ j, starEach [e] (Xs j).env = [(false, eval e (Xs j).env)] := by intro _; rfl)
    (hb : ∀ j, attributeBase o "join" (Xs j).env (eval o (Xs j).env) = eval o (Xs j).env := by intro _; rfl) (hl : (apos.endLine == pos.line) = true := by rfl) : DE Xs mg Wx (.Call (.Attribute o "join" apos) [e] [] pos) (dJoin fo fe) := by
  obtain ⟨ta, a1, a2⟩ := ho
  obtain ⟨tb, b1, b2⟩ := he
  refine ⟨tM1 (fun x xs H Q => ∃ a p, ∃ ys : List Str, x = .str a ∧ xs = [.ref p] ∧ (SqL mg.K H p (ys.map V.str) ∨ SqT mg.K H p (ys.map V.str)) ∧ (ys.map (·.length)).sum + ys.length * a.length ≤ 16777216 ∧ Q (.str (Txt.join a ys)) H) ta tb, fun j => ?_, ?_⟩
  · have z := pe_join (apos := apos) (pos := pos) (a1 j) (b1 j) (hs j) (hb j) hl
    rw [hK j] at z
    exact z
  · intro B ρ Q E h W σ H Q' hh e x q
    refine a2 B ρ _ E h W σ H _ hh e x fun W1 H1 v1 d1 s1 r1 h1 => ?_
    cases r1 with
    | str a =>
      refine ⟨⟨a, rfl⟩, b2 B ρ _ E h1 W1 σ H1 _ s1.holds (e.step s1) (x.step s1) fun W2 H2 v2 d2 s2 r2 h2 => ?_⟩
      cases r2 with
      | lst ha ra =>
        obtain ⟨ys, g1, g2, g3⟩ := h2
        have e' := strs_v ra g1
        subst e'
        exact ⟨a, _, ys, rfl, rfl, .inl (SqL.of (s2.holds.same _ _ ha)), g2, q W2 H2 _ _ (s1.trans s2) (.str _) g3⟩
      | tup ha ra =>
        obtain ⟨ys, g1, g2, g3⟩ := h2
        have e' := strs_v ra g1
        subst e'
        exact ⟨a, _, ys, rfl, rfl, .inr (SqT.of (s2.holds.same _ _ ha)), g2, q W2 H2 _ _ (s1.trans s2) (.str _) g3⟩
      | _ => exact h2.elim
    | _ => exact h1.elim
end
end FP
/-! FP6: repr, lists of one's own, the end of a law. -/
namespace FP
open PySem L2
variable [Tabl]
section
variable {ι : Type} {Xs : ι → Cx} {mg : Gm} {Wx : WX} {pos : Pos}
/-! ### repr -/
/-! ### lists of one's own -/
def CpO (mg : Gm) (Wx : WX) (t : TE) (g : DTA) : Prop := ∀ B ρ Q E, g ρ Q E → ∀ W σ H Q', Holds W H → EnvR mg B W H σ ρ → ExR mg Wx W H σ E → (∀ W' H' p vs ds, Step W H W' H' → H' p = none → Reps mg W' vs ds → Q ds → Q' (.ref p) (upd H' p (.lst vs))) → t σ H Q'
/-- an expression that gives a new list -/
def DO (Xs : ι → Cx) (mg : Gm) (Wx : WX) (e : Expr) (g : DTA) : Prop := ∃ t, (∀ i, PE (Xs i) e t) ∧ CpO mg Wx t g
abbrev dLen (g : DTA) : DTA := fun ρ Q E => g ρ (fun xs => xs.length ≤ sizeLine ∧ Q xs) E
theorem do_lst {es : List Expr} {g : DTA} (h : DA Xs mg Wx es g) : DO Xs mg Wx (.List es pos) (dLen g) := by
  obtain ⟨t, h1, h2⟩ := h
  refine ⟨_, fun i => pe_lst (h1 i), fun B ρ Q E hf W σ H Q' hh e x q => h2 B ρ _ E hf W σ H _ hh e x fun W1 H1 vs ds s1 r1 k1 => ?_⟩
  exact ⟨by rw [r1.length]; exact k1.1, fun p hp => q W1 H1 p vs ds s1 hp r1 k1.2⟩
abbrev dSetO (i : Nat) (g : DTA) : DTS := fun N ρ => g ρ (fun ds => N.nx (ρ.set i (.own ds))) (fun x => N.rs x ρ)
theorem ds_setO {i : Nat} {x : Str} {e : Expr} {g : DTA} {pos' : Pos} (h : DO Xs mg Wx e g) (hN : ∀ j, (Xs j).N.Nodup) (hi : ∀ j, (Xs j).N[i]? = some x := by intro _; rfl) (hx : ∀ j, Loc (Xs j).env.scope x := by intro _; first | exact Or.inl rfl | exact Or.inr rfl)
    (hs : ∀ j, swapsWith e (some (.Name x pos')) pos.line (Xs j).env = pure false := by intro _; rfl) (hf : ∀ j, (Xs j).fn x = true ∨ (Xs j).env.scope.names.lookup x = some .local := by intro _; first | exact .inl rfl | exact .inr rfl) : DS Xs mg Wx (.Assign [.Name x pos'] e pos) (dSetO i g) := by
  obtain ⟨t, h1, h2⟩ := h
  refine ⟨_, fun j => ps_set (i := i) (hN j) (hi j) (hx j) (h1 j) (hs j) (hf j), fun W0 B N ρ hf W σ H Ds s e n => ?_⟩
  refine h2 B ρ _ _ hf W σ H _ s.holds e (n.ex s e) fun W1 H1 p vs ds s1 hp r1 k1 => ?_
  have s01 := s.trans s1
  have bp : B p = none := by
    cases q : B p with
    | none => rfl
    | some o =>
      obtain ⟨o', e'⟩ := s01.live p o q
      rw [e'] at hp
      cases hp
  exact n.nx W1 _ _ _ (s01.trans (Step.lay s01.holds hp)) ((e.step s1).setOwn s01.holds hp bp r1) k1
/-- the own list is handed on ahead of a statement -/
abbrev dFrz (i : Nat) (f : DTS) : DTS := fun N ρ => match ρ[i]? with
  | some (.own xs) => f N (ρ.set i (.d (.lst xs)))
  | _ => False
theorem CpS.frz {i : Nat} {t : TS} {f : DTS} (h : CpS mg Wx t f) : CpS mg Wx t (dFrz i f) := by
  intro W0 B N ρ hf W σ H Ds s e n
  unfold dFrz at hf
  split at hf
  · rename_i xs hx
    obtain ⟨p, vs, h1, h2, h3, h4, h5, r, e'⟩ := e.freeze s.holds hx
    exact h W0 B N _ hf _ σ H Ds (s.taken h5 h2 h3 h4) e' n
  · exact hf.elim
theorem ds_frz (i : Nat) {st : Stmt} {f : DTS} (h : DS Xs mg Wx st f) : DS Xs mg Wx st (dFrz i f) := by
  obtain ⟨t, h1, h2⟩ := h
  exact ⟨t, h1, h2.frz⟩
/-- x.append(e), x one's own -/
abbrev dApp (i : Nat) (f : DTE) : DTS := fun N ρ => match ρ[i]? with
  | some (.own xs) => f ρ (fun d => xs.length < sizeLine ∧ N.nx (ρ.set i (.own (xs ++ [d])))) (fun x => N.rs x ρ)
  | _ => False
theorem ds_append (i : Nat) {x : Str} {e : Expr} {f : DTE} {p apos cpos : Pos} (h : DE Xs mg Wx e f) (hN : ∀ j, (Xs j).N[i]? = some x := by intro _; rfl) (hv : ∀ j, Vis (Xs j).env.scope x := by intro _; first | exact Or.inl rfl | exact Or.inr (Or.inl rfl) | exact Or.inr (Or.inr rfl))
    (hd : (x == ("__debug__" : Str)) = false := by decide) (hcd : (x == ("__classdict__" : Str)) = false := by decide)
    (pe : ∀ j t, PE (Xs j) e t → PS (Xs j) (.Expr (.Call (.Attribute (.Name x p) "append" apos) [e] [] cpos) pos) (tDrop (tBM (Xs j).K "list" rAppend (tVar i) (tCons t tNil)))) (hK : ∀ j, (Xs j).K = mg.K := by intro _; rfl) :
    DS Xs mg Wx (.Expr (.Call (.Attribute (.Name x p) "append" apos) [e] [] cpos) pos) (dApp i f) := by
  obtain ⟨t, h1, h2⟩ := h
  refine ⟨tDrop (tBM mg.K "list" rAppend (tVar i) (tCons t tNil)), fun j => by rw [← hK j]; exact pe j t (h1 j), fun W0 B N ρ hf W σ H Ds s e n => ?_⟩
  unfold dApp at hf
  split at hf
  · rename_i xs hx
    obtain ⟨o, g1, a, vs, g2, g3, g4, g5, g6, r⟩ := e.sl i _ hx
    subst g2
    refine ⟨.ref a, g1, .inl ⟨rfl, _, SqL.of g3⟩, ?_⟩
    refine h2 B ρ _ _ hf W σ H _ s.holds e (n.ex s e) fun W1 H1 v d s1 r1 k1 => ?_
    have e1 := e.step s1
    obtain ⟨o', q1, a', vs', q2, q3, q4, q5, q6, r'⟩ := e1.sl i _ hx
    rw [g1] at q1
    cases q1
    cases q2
    refine ⟨a, vs', v, rfl, rfl, q3, by rw [r'.length]; exact k1.1, ?_⟩
    exact n.nx W1 _ σ _ ((s.trans s1).own q6 q3 q4 q5) (e1.own (us := vs') hx g1 (r'.snoc r1)) k1.2
  · exact hf.elim
end
end FP
namespace FP
open PySem PySem.Spec PyProof.Rows L2
variable [Tabl]
/-! ### the end of a law -/
section
variable {P : Program} {w : World} {K : PySem.W.Frag} {mg mb : Str → Option Value} {k : Nat} {fa a : Addr} {sp : Sp} {z₁ : Shared} {vs : List Value} {ns : List Int}
/-- what is asked of the call -/
abbrev Fine (z₁ : Shared) : Result → Shared → Prop := fun r z' => r = .ok (.ret (.bool true)) ∧ OldK z₁.heap z'.heap ∧ z'.os = z₁.os ∧ AllBare z'.gens
theorem end_at (KX : K.In z₁.heap) (gl : z₁.heap.Ns mainGlobals mg) (bl : z₁.heap.Ns builtinsNs mb) (bb : ∀ y : Str, y ≠ "__name__" → mb y = bootBuiltins y) (lim : z₁.heap.NoLimit) (gn : z₁.gens = #[])
    (ha : z₁.heap.get? a = some { cls := .type "list", data := .seq vs.toArray }) (hr : RmG k callerA) (F : ∀ base : Heap, K.In base → base.Ns mainGlobals mg → ∃ fd ps, Binds K fd ps [] ∧ FnG P w K mg base k fa fd ps sp)
    {H : Hp} (only : Only H) (hok : HOk P w H z₁.heap) (atA : ∀ b, H b ≠ none → b = a) (offK : H a ≠ none → K.lookup a = none) (want : sp [.ref a] H (fun v _ => v = .bl true) fun _ _ _ => False) (noX : ∀ e z', L2.CX P w [] H z₁ (fun _ _ _ => False) e z' → False) :
    codeAny (model P w) callerA (.call (.ref fa) ⟨[.ref a], []⟩) (Fine z₁) z₁ := by
  -- dicts are not tracked
  have free : ∀ {c : Addr} {o : Obj} {es : Array DictEntry} {ep : Nat}, z₁.heap.get? c = some o → o.data = .dict es ep → H c = none := by
    intro c o es ep hc hd
    rcases hH : H c with _ | u
    · rfl
    · have ca : c = a := atA c (by rw [hH]; exact Option.some_ne_none u)
      rw [ca, ha] at hc
      cases hc
      cases hd
  have ns' : ∀ {c : Addr} {m : Str → Option Value}, z₁.heap.Ns c m → (hidT z₁.heap H).Ns c m := by
    rintro c m ⟨o, es, ep, h1, h2, h3⟩
    exact ⟨o, es, ep, hidT_get h1 (free h1 h2), h2, h3⟩
  have kin : K.In (hidT z₁.heap H) := by
    intro c o hc
    refine hidT_get (KX c o hc) ?_
    rcases hH : H c with _ | u
    · rfl
    · have ca : c = a := atA c (by rw [hH]; exact Option.some_ne_none u)
      subst ca
      rw [offK (by rw [hH]; exact Option.some_ne_none u)] at hc
      cases hc
  obtain ⟨mc, l1, l2⟩ := lim
  have md : Mod K mg (hidT z₁.heap H) := ⟨kin, ns' gl, ⟨mb, ns' bl, bb⟩, ⟨mc, ns' l1, l2⟩⟩
  have en : Env0 P w K mg (hidT z₁.heap H) callerA [] z₁ H := by
    refine ⟨rfl, md, fun c o q => of_hidT q, Nat.le_of_eq (hidT_size _ _), trivial, ?_, hok, .of_eq gn⟩
    intro c hc
    cases hc
  obtain ⟨fd, ps, bd, fn⟩ := F _ kin (ns' gl)
  have bz := bd z₁ [.ref a] KX (fn.ln _ _ _ _ want)
  rw [List.append_nil] at bz
  have run := fn.go callerA [] z₁ H ⟨[.ref a], []⟩ [.ref a] [.ref a] _ _ hr en bz (.cons rfl .nil) want
  refine codeAny_mono run ?_
  intro res z' hres
  match res, hres with
  | .error e, hq => exact (noX e z' hq).elim
  | .ok .next, hq => exact hq.elim
  | .ok .brk, hq => exact hq.elim
  | .ok .cont, hq => exact hq.elim
  | .ok (.ret u), ⟨v, H', os, bare, un, ok', ru, hv⟩ =>
    have hv' : v = .bl true := hv
    subst hv'
    have hu : u = Value.bool true := ru
    subst hu
    refine ⟨rfl, OldK.of_keep ?_, os, bare⟩
    intro c o hc
    rcases only c with hn | ⟨ob, xs, hf⟩
    · exact un.keep c o hc hn (by intro q; cases q) (by intro q; cases q)
    · have f2 := un.frzs c ob _ hf
      have g1 := (hok c _ hf).1
      have g2 := (ok' c _ f2).1
      rw [hc] at g1
      cases g1
      exact g2
theorem end_law (KX : K.In z₁.heap) (gl : z₁.heap.Ns mainGlobals mg) (bl : z₁.heap.Ns builtinsNs mb) (bb : ∀ y : Str, y ≠ "__name__" → mb y = bootBuiltins y) (lim : z₁.heap.NoLimit) (gn : z₁.gens = #[])
    (ha : z₁.heap.get? a = some { cls := .type "list", data := .seq vs.toArray }) (hi : IntsAre vs ns) (hl : ns.length ≤ sizeLine) (hr : RmG k callerA) (F : ∀ base : Heap, K.In base → base.Ns mainGlobals mg → ∃ fd ps, Binds K fd ps [] ∧ FnG P w K mg base k fa fd ps sp)
    (want : ∀ H : Hp, Only H → SqL K H a (ns.map V.int) → sp [.ref a] H (fun v _ => v = .bl true) fun _ _ _ => False) (noX : ∀ H e z', L2.CX P w [] H z₁ (fun _ _ _ => False) e z' → False) :
    codeAny (model P w) callerA (.call (.ref fa) ⟨[.ref a], []⟩) (Fine z₁) z₁ := by
  have rv := vals_ints hi
  have lv := hi.length
  rcases hk : K.lookup a with _ | o
  · have only : Only (upd (fun _ => none) a (.frz { cls := .type "list", data := .seq vs.toArray } (.lst (ns.map V.int)))) := by
      intro c
      by_cases hc : c = a
      · subst hc
        exact .inr ⟨_, _, upd_same⟩
      · exact .inl (upd_ne hc)
    refine end_at KX gl bl bb lim gn ha hr F only ?_ ?_ (fun _ => hk) (want _ only (.inl (.inr ⟨_, upd_same⟩))) (noX _)
    · intro c u hc
      by_cases hca : c = a
      · subst hca
        rw [upd_same] at hc
        cases hc
        refine ⟨ha, ?_, vs, _, rv, ha⟩
        rw [List.length_map]
        exact hl
      · rw [upd_ne hca] at hc
        cases hc
    · intro c hc
      by_cases hca : c = a
      · exact hca
      · exact absurd (upd_ne hca) hc
  · have ho := KX a o hk
    rw [ha] at ho
    cases ho
    have only : Only (fun _ => none) := fun _ => .inl rfl
    refine end_at KX gl bl bb lim gn ha hr F only (fun c u hc => by cases hc) (fun c hc => absurd rfl hc) (fun hc => absurd rfl hc) (want _ only (.inr ⟨_, vs.toArray, _, hk, rfl, rfl, rfl, ?_, by simpa using rv⟩)) (noX _)
    rw [List.size_toArray, lv]
    exact hl
end
/-- the script as a datum -/
abbrev scriptD (ns : List Int) : D := .fz (ns.map D.int)
theorem walkG {l : PySem.W.OpenLaw} {k : Nat} {q : Program} {loose : List Str} {XP : (Str → Option Value) → Heap → Prop} {YP : World → Heap → Prop} {d : DefRec} {K : Params → PySem.W.Frag} {f : List D → M D}
    (hB : Tabl.B = []) (hn : l.most = some 63) (hdf : d.params.defaults = []) (hr : RmG k callerA) (hY : ∀ (w : World) (h : Heap), YP w h → (K w.params).In h)
    (F : ∀ (w : World) (mg : Str → Option Value) (h : Heap), (K w.params).In h → h.Ns mainGlobals mg → ∀ base : Heap, DefOk l.prog w ⟨mg, K w.params⟩ base k d.name 1 f)
    (hf : ∀ ns : List Int, ns.length ≤ 63 → f [scriptD ns] (fun d => d = .bl true) F0) : PySem.W.WalkO q loose XP YP l.row.toRowW d [] (fun f vs => PySem.call f vs) := by
  refine Att.attach_call hn hdf fun w z₀ z₁ mg mb fa o pm cd doc a vs ns G Y ho hd hcd hmg hobj hints hlen hg => ?_
  have KX := hY w _ Y
  refine end_law (sp := spD ⟨mg, K w.params⟩ 1 f) KX G.T.g G.T.b G.T.builtins G.T.nolimit hg hobj hints (Nat.le_trans hlen (by decide)) hr (fun base _ _ => ?_) (fun H only hS => ?_) fun H e z' c => ?_
  · obtain ⟨fa', fd, ps, h1, h2, h3, h4, h5⟩ := (F w mg _ KX G.T.g base).ex
    have e : fa' = fa := by
      have e' := h1.symm.trans hmg
      cases e'
      rfl
    subst e
    exact ⟨fd, ps, h3, h5⟩
  · refine ⟨⟨H, fun _ => False, fun _ => False⟩, [scriptD ns], _, _, ⟨Same.refl H, fun _ t => t.elim, fun _ t => t.elim, fun _ h => (by rw [hB] at h; cases h), fun b ps e => by rcases only b with z | ⟨_, _, z⟩ <;> rw [z] at e <;> cases e⟩, .cons (.fz hS (Reps.ints ns)) .nil, rfl, hf ns hlen, fun W' H' v d _ r e => ?_, fun _ _ _ _ _ _ _ h => h⟩
    subst e
    cases r
    rfl
  · obtain ⟨_, _, _, _, _, _, _, _, _, _, _, _, z⟩ := c
    exact z.elim
end FP
/-! FP7: the dice; a comprehension that empties a list of one's own. -/
namespace FP
open PySem L2
variable [Tabl]
section
variable {ι : Type} {Xs : ι → Cx} {mg : Gm} {Wx : WX} {pos : Pos}
/-! ### dice -/
theorem Step.dice {W : Wd} {H : Hp} (h : Holds W H) {a : Addr} (t : W.Dc a) {x y z : Int} : Step W H W (upd H a (.lst [.int x, .int y, .int z])) := by
  obtain ⟨ta, x0, y0, z0, ea⟩ := h.tok a t
  obtain ⟨na, _⟩ := h.exm a ta
  refine ⟨Le.refl W, ⟨fun b u e => ?_, fun b tb => ?_, fun b tb => ?_, fun q hq => ?_, fun b ps e => ?_⟩, fun b u e n => ?_, fun _ _ _ => rfl, fun b t => .inl t, fun b u e => ?_⟩
  · rw [upd_ne (ne_of_none e na)]
    exact h.same b u e
  · obtain ⟨h1, u, h2⟩ := h.exm b tb
    by_cases hb : b = a
    · subst hb
      exact ⟨h1, _, upd_same⟩
    · exact ⟨h1, u, by rw [upd_ne hb]; exact h2⟩
  · by_cases hb : b = a
    · subst hb
      exact ⟨ta, x, y, z, upd_same⟩
    · rw [upd_ne hb]
      exact h.tok b tb
  · obtain ⟨h1, ps, h2, h3, h4⟩ := h.tab q hq
    have nq : q.1 ≠ a := fun z => by
      rw [z, ea] at h2
      cases h2
    refine ⟨h1, ps, by rw [upd_ne nq]; exact h2, h3, fun pos cv hc => ?_⟩
    obtain ⟨c, e1, e2⟩ := h4 pos cv hc
    have nc : c ≠ a := fun z => by
      rw [z, ea] at e2
      cases e2
    exact ⟨c, e1, by rw [upd_ne nc]; exact e2⟩
  · by_cases hb : b = a
    · rw [hb, upd_same] at e
      cases e
    · rw [upd_ne hb] at e
      exact h.all b ps e
  · rw [upd_ne fun q => n (by rw [q]; exact ta)]
    exact e
  · by_cases hb : b = a
    · subst hb
      exact ⟨_, upd_same⟩
    · rw [upd_ne hb]
      exact ⟨u, e⟩
/-- x[k] = e, x dice -/
abbrev dTok (i : Nat) (k : Int) (f : DTE) : DTS := fun N ρ => f ρ (fun d => match d, ρ[i]? with
  | .int _, some (.d .tok) => (0 ≤ k ∧ k < 3) ∧ N.nx ρ
  | _, _ => False) (fun x => N.rs x ρ)
theorem ds_tok (i : Nat) {x : Str} {k : Int} {e : Expr} {f : DTE} {p p2 p3 : Pos} {jj : Nat} (h : DE Xs mg Wx e f) (hN : ∀ j, (Xs j).N[i]? = some x := by intro _; rfl) (hv : ∀ j, Vis (Xs j).env.scope x := by intro _; first | exact Or.inl rfl | exact Or.inr (Or.inl rfl) | exact Or.inr (Or.inr rfl))
    (pg : ∀ j t, PE (Xs j) e t → PS (Xs j) (.Assign [.Subscript (.Name x p) (.Constant (.int k) jj p2) p3] e pos) (tAsg t (gSub (tVar i) (tC (.int k)) rSetL))) : DS Xs mg Wx (.Assign [.Subscript (.Name x p) (.Constant (.int k) jj p2) p3] e pos) (dTok i k f) := by
  obtain ⟨t, h1, h2⟩ := h
  refine ⟨_, fun j => pg j t (h1 j), fun W0 B N ρ hf W σ H Ds s e n => ?_⟩
  refine h2 B ρ _ _ hf W σ H _ s.holds e (n.ex s e) fun W1 H1 v d s1 r1 k1 => ?_
  dsimp only at k1
  split at k1
  · rename_i c hr
    obtain ⟨hk, k2⟩ := k1
    have e1 := e.step s1
    obtain ⟨v', g1, g2⟩ := e1.get hr
    cases r1
    cases g2 with
    | @tok a ta =>
      obtain ⟨_, x0, y0, z0, ha⟩ := s1.holds.tok a ta
      have hj : ∃ j u1 u2 u3, ixN 3 k = some j ∧ ([V.int x0, V.int y0, V.int z0].set j (V.int c)) = [V.int u1, V.int u2, V.int u3] := by
        have hi : k = 0 ∨ k = 1 ∨ k = 2 := by omega
        rcases hi with rfl | rfl | rfl
        · exact ⟨0, c, y0, z0, rfl, rfl⟩
        · exact ⟨1, x0, c, z0, rfl, rfl⟩
        · exact ⟨2, x0, y0, c, rfl, rfl⟩
      obtain ⟨j, u1, u2, u3, hj, hs⟩ := hj
      have st := Step.dice s1.holds ta (x := u1) (y := u2) (z := u3)
      refine ⟨_, g1, a, _, k, j, rfl, rfl, ha, hj, ?_⟩
      rw [hs]
      exact n.nx W1 _ σ ρ ((s.trans s1).trans st) (e1.step st) k2
  · exact k1.elim
/-- return [a, b, c]: new dice -/
abbrev dRetTok (g : DTA) : DTS := fun N ρ => g ρ (fun ds => match ds with
  | [.int _, .int _, .int _] => N.rt .tok ρ
  | _ => False) (fun x => N.rs x ρ)
theorem ds_retTok {es : List Expr} {g : DTA} {p : Pos} (h : DA Xs mg Wx es g) : DS Xs mg Wx (.Return (some (.List es p)) pos) (dRetTok g) := by
  obtain ⟨t, h1, h2⟩ := h
  refine ⟨_, fun j => ps_ret (pe_lst (h1 j)), fun W0 B N ρ hf W σ H Ds s e n => ?_⟩
  refine h2 B ρ _ _ hf W σ H _ s.holds e (n.ex s e) fun W1 H1 vs ds s1 r1 k1 => ?_
  split at k1
  · rename_i x y z
    cases r1 with
    | cons r rs =>
      cases r
      cases rs with
      | cons r rs =>
        cases r
        cases rs with
        | cons r rs =>
          cases r
          cases rs
          refine ⟨by show 3 ≤ sizeLine; decide, fun p hp => ?_⟩
          have hh := s1.holds
          have nw := hh.same.free hp
          have h0 := hh.lay (o := .lst [.int x, .int y, .int z]) hp (by intro _ h; cases h)
          have st : Step W1 H1 { W1 with T := fun b => W1.T b ∨ b = p, Dc := fun b => W1.Dc b ∨ b = p } (upd H1 p (.lst [.int x, .int y, .int z])) := by
            refine ⟨⟨Same.refl _, fun _ t => .inl t, fun _ t => .inl t⟩, ⟨h0.same, fun b tb => ?_, fun b tb => ?_, fun q hq => ⟨.inl (h0.tab q hq).1, (h0.tab q hq).2⟩, h0.all⟩, fun b u q _ => ?_, fun _ _ _ => rfl, fun b tb => ?_, fun b u q => ?_⟩
            · rcases tb with tb | rfl
              · exact h0.exm b tb
              · exact ⟨nw, _, upd_same⟩
            · rcases tb with tb | rfl
              · exact ⟨.inl (h0.tok b tb).1, (h0.tok b tb).2⟩
              · exact ⟨.inr rfl, x, y, z, upd_same⟩
            · rw [upd_ne (ne_of_none q hp)]
              exact q
            · rcases tb with tb | rfl
              · exact .inl tb
              · exact .inr hp
            · exact ⟨u, by rw [upd_ne (ne_of_none q hp)]; exact q⟩
          exact n.rt _ _ σ ρ _ _ ((s.trans s1).trans st) (e.step (s1.trans st)) (.tok (.inr rfl)) k1
  · exact k1.elim
/-! ### list(x) as a list of one's own; its length -/
abbrev dListO (g : DTA) : DTA := fun ρ Q E => g ρ (fun ds => match ds with
  | [.lst xs] => Q xs
  | [.tup xs] => Q xs
  | _ => False) E
abbrev dLenO (i : Nat) : DTE := fun ρ Q _ => match ρ[i]? with
  | some (.own xs) => Q (.int xs.length)
  | _ => False
theorem de_lenO (i : Nat) {x : Str} {p p2 : Pos} (hm : mg.mg "len" = none) (hN : ∀ j, (Xs j).N[i]? = some x := by intro _; rfl) (hv : ∀ j, Vis (Xs j).env.scope x := by intro _; first | exact Or.inl rfl | exact Or.inr (Or.inl rfl) | exact Or.inr (Or.inr rfl))
    (hd : (x == ("__debug__" : Str)) = false := by decide) (hcd : (x == ("__classdict__" : Str)) = false := by decide) (hK : ∀ j, (Xs j).K = mg.K := by intro _; rfl) (hM : ∀ j, (Xs j).mg = mg.mg := by intro _; rfl) (hg : ∀ j, Gl (Xs j) "len" := by intro _; rfl)
    (he : ∀ j, starEach [.Name x p2] (Xs j).env = [(false, eval (.Name x p2) (Xs j).env)] := by intro _; rfl) : DE Xs mg Wx (.Call (.Name "len" p) [.Name x p2] [] pos) (dLenO i) := by
  refine ⟨_, fun j => pe_callB (call_lenK (hK j)) (hg j) (by rw [hM j]; exact hm) PySem.boot_len (pa_cons (pe_var (i := i) (hN j) (hv j) hd hcd) pa_nil (he j)) (by decide) (by decide) (he j) rfl, fun B ρ Q E hf W σ H Q' hh e x q => ?_⟩
  unfold dLenO at hf
  split at hf
  · rename_i xs hx
    obtain ⟨o, g1, a, vs, g2, g3, g4, g5, g6, r⟩ := e.sl i _ hx
    subst g2
    refine ⟨_, g1, _, _, rfl, .inl ⟨_, SqL.of g3, rfl⟩, ?_⟩
    rw [r.length]
    exact q W H _ _ (Step.refl hh) (.int _) hf
  · exact hf.elim
/-! ### return [own.pop(index) for .. in ..] -/
theorem EnvR.off {B : Hp} {W : Wd} {H : Hp} {σ : St} {ρ : Env} (e : EnvR mg B W H σ ρ) {A : Addr} {o : HO} (h : ∀ (j : Nat) (t : Sl) (o : Option V), ρ[j]? = some t → σ[j]? = some o → A ∉ t.fp o) : EnvR mg B W (upd H A o) σ ρ := by
  refine ⟨e.len, fun j sl hj => ?_, e.dis⟩
  obtain ⟨o', h1, h2⟩ := e.sl j sl hj
  refine ⟨o', h1, h2.keep (Le.refl W) fun a ha u h5 h6 h7 => ⟨?_, h6, h7⟩⟩
  have ne : a ≠ A := fun q => h j sl o' hj h1 (by rw [← q]; exact ha)
  rw [upd_ne ne]
  exact h5
def popD (T : Tg) (i : Nat) (f : DTE) (ρ : Env) (vs : List Nat) : List D → List D → (List D → Prop) → Prop
  | [], _, Q => Q []
  | d :: ds, xs, Q => ∃ ρ2, T.put d (wipeD (ρ.set i (.own xs)) vs) = some ρ2 ∧ ρ2[i]? = some (.own xs) ∧ f ρ2 (fun z => match z with
    | .int k => ∃ y, (0 ≤ k ∧ k < xs.length ∧ k < 2 ^ 62) ∧ xs[k.toNat]? = some y ∧ popD T i f ρ vs ds (xs.eraseIdx k.toNat) fun rs => Q (y :: rs)
    | _ => False) F0
abbrev dRetPop (w : DTI) (T : Tg) (i : Nat) (f : DTE) (vs : List Nat) : DTS := fun N ρ => match ρ[i]? with
  | some (.own xs) => w ρ (fun ds => ds.length ≤ sizeLine ∧ popD T i f ρ vs ds xs fun rs => N.rt (.lst rs) (noEnv ρ)) (fun x => N.rs x ρ)
  | _ => False
end
end FP
/-! FP8: a def of the text; empty dicts; what the dice helpers promise. -/
namespace FP
open PySem L2
variable [Tabl]
theorem boot_len : bootBuiltins "len" = some (.builtin "len") := by decide +kernel
theorem boot_abs : bootBuiltins "abs" = some (.builtin "abs") := by decide +kernel
theorem boot_max : bootBuiltins "max" = some (.builtin "max") := by decide +kernel
theorem boot_min : bootBuiltins "min" = some (.builtin "min") := by decide +kernel
theorem boot_all : bootBuiltins "all" = some (.builtin "all") := by decide +kernel
theorem boot_isinstance : bootBuiltins "isinstance" = some (.builtin "isinstance") := by decide +kernel
theorem boot_int : bootBuiltins "int" = some (.type "int") := by decide +kernel
theorem boot_str : bootBuiltins "str" = some (.type "str") := by decide +kernel
theorem boot_bool : bootBuiltins "bool" = some (.type "bool") := by decide +kernel
theorem boot_tuple : bootBuiltins "tuple" = some (.type "tuple") := by decide +kernel
section
variable {ι : Type} {Xs : ι → Cx} {mg : Gm} {Wx : WX} {pos : Pos}
theorem mkDef {P : Program} {w : World} {base : Heap} {x : Str} {st : Stmt} {N ps : List Str} {k : Nat} {f : List D → M D} (d : ∃ fa fd, mg.mg x = some (.ref fa) ∧ Fun mg.K x x st fa fd) (S : FnScope N ps (defScope st))
    (hb : ∀ (kV doc pm : Value) (an : Option Addr) (cdv ct : Value) (us : List Value), us.length = ps.length → bindArgs (PySem.W.fnOf x x (defArgs st) (defBody st) (defScope st) .none kV doc pm an cdv ct) ⟨us, []⟩ = pure (ps.zip us))
    (h : ∀ (fa : Addr) (cdv : Value) (A : Around) (outer : List PySem.Env) (s : Shared) (H : Hp) (E : XK), RmG k (A.deeper (PyProof.Rows.envOfC x (defScope st) s.heap.objs.size fa cdv)) →
      ∃ g, DSs (fun _ : Unit => cxOf (L2.CX P w) P w mg.K mg.mg base N x (defScope st) fa cdv A outer s H E) mg (fun cls d _ H' => E cls d H') (defBody st) g ∧
        ∀ ds Q Ex, ds.length = ps.length → f ds Q Ex → g ⟨fun _ => Q .non, fun d _ => Q d, fun _ => False, fun _ => False, fun x _ => Ex x⟩ (startD N.length ds)) :
    DefOk P w mg base (k + 1) x ps.length f := by
  obtain ⟨fa, fd, hm, F⟩ := d
  exact ⟨fa, fd, ps, hm, F.kp, F.binds hb, rfl, def_ok F S (h fa)⟩
abbrev dNewD : DTE := fun _ Q _ => Q (.dct [])
end
/-! ### the dice helpers -/
def f_dice : List D → M D := fun ds Q _ => match ds with
  | [.fz xs, .int k] => (∃ ns : List Int, xs = ns.map D.int) ∧ (0 ≤ k ∧ k < 1000) ∧ Q .tok
  | _ => False
def f_roll : List D → M D := fun ds Q _ => match ds with
  | [.tok, .int n] => (0 < n ∧ n < 1073741824) ∧ ∀ r, 0 ≤ r → r < n → Q (.int r)
  | _ => False
def f_pick : List D → M D := fun ds Q _ => match ds with
  | [.tok, .lst xs] => (0 < xs.length ∧ xs.length < 1073741824) ∧ ∀ d, d ∈ xs → Q d
  | [.tok, .tup xs] => (0 < xs.length ∧ xs.length < 1073741824) ∧ ∀ d, d ∈ xs → Q d
  | _ => False
theorem at_of {α : Type} {xs : List α} {z : Int} {j : Nat} {v : α} (e : z = (j : Int)) (h : xs[j]? = some v) : atI xs z = some v := by
  rw [e]
  exact atI_nat h
theorem atI_mem {xs : List D} {r : Int} (h0 : 0 ≤ r) (h1 : r < xs.length) : ∃ d, atI xs r = some d ∧ d ∈ xs := by
  have hr : r.toNat < xs.length := by omega
  refine ⟨xs[r.toNat], ?_, List.getElem_mem hr⟩
  exact at_of (j := r.toNat) (by omega) (by simp [hr])
theorem atI_ints {ns : List Int} {r : Int} (h0 : 0 ≤ r) (h1 : r < (ns.map D.int).length) : ∃ i, atI (ns.map D.int) r = some (.int i) := by
  obtain ⟨d, h, hm⟩ := atI_mem h0 h1
  obtain ⟨i, _, e⟩ := List.mem_map.mp hm
  exact ⟨i, by rw [h, e]⟩
/-! ### comprehensions in pure words -/
theorem lcD_fm {body : D → (Option D → Prop) → Prop} (F : D → Option D) : ∀ (ds : List D) (Q : List D → Prop), (∀ d ∈ ds, ∀ k : Option D → Prop, k (F d) → body d k) → Q (ds.filterMap F) → lcD body ds Q
  | [], Q, _, h => h
  | d :: ds, Q, hb, h => by
    refine hb d List.mem_cons_self _ ?_
    refine lcD_fm F ds _ (fun e he => hb e (List.mem_cons_of_mem _ he)) ?_
    rw [List.filterMap_cons] at h
    cases q : F d with
    | none =>
      rw [q] at h
      exact h
    | some r =>
      rw [q] at h
      exact h
theorem lcD_map {body : D → (Option D → Prop) → Prop} (F : D → D) (ds : List D) (Q : List D → Prop) (hb : ∀ d ∈ ds, ∀ k : Option D → Prop, k (some (F d)) → body d k) (h : Q (ds.map F)) : lcD body ds Q := by
  refine lcD_fm (fun d => some (F d)) ds Q hb ?_
  rw [List.filterMap_eq_map']
  exact h
/-- a loop by what holds between its turns -/
theorem forD_inv {T : Tg} {f : DTS} {N : Nd} (I : Env → Prop) : ∀ (ds : List D) (ρ : Env), I ρ → (∀ d ∈ ds, ∀ (ρ : Env) (K : Env → Prop), I ρ → (∀ ρ', I ρ' → K ρ') → ∃ ρ1, T.put d ρ = some ρ1 ∧ f { N with nx := K, ct := K, bk := N.nx } ρ1) → (∀ ρ, I ρ → N.nx ρ) → forD T f N ds ρ
  | [], ρ, h, _, he => he ρ h
  | d :: ds, ρ, h, hs, he => hs d List.mem_cons_self ρ _ h fun ρ' h' => forD_inv I ds ρ' h' (fun e h2 => hs e (List.mem_cons_of_mem _ h2)) he
/-- one statement, then the others, by what holds between them -/
theorem seq_by {f g : DTS} {N : Nd} {ρ : Env} (I : Env → Prop) (h1 : ∀ nx : Env → Prop, (∀ ρ', I ρ' → nx ρ') → f { N with nx := nx } ρ) (h2 : ∀ ρ', I ρ' → g N ρ') : dSeq f g N ρ := h1 _ h2
/-- how many spots a law looks at -/
theorem spots (n : Nat) : 1 ≤ (if (if (n : Int) < 8 then (n : Int) else 8) > 1 then (if (n : Int) < 8 then (n : Int) else 8) else 1) ∧ (if (if (n : Int) < 8 then (n : Int) else 8) > 1 then (if (n : Int) < 8 then (n : Int) else 8) else 1) ≤ 8 := by
  split <;> split <;> omega
theorem mem_range {lo : Int} {n : Nat} {d : D} (h : d ∈ rangeD lo n) : ∃ j : Nat, d = .int (lo + j) ∧ j < n := by
  unfold rangeD at h
  obtain ⟨j, hj, e⟩ := List.mem_map.mp h
  exact ⟨j, e.symm, List.mem_range.mp hj⟩
/-! ### texts -/
theorem str_app (a b : Str) : (a ++ b).cps.toList = a.cps.toList ++ b.cps.toList := by
  show (a.cps ++ b.cps).toList = _
  simp
theorem str_len (a : Str) : a.length = a.cps.toList.length := by
  show a.cps.size = _
  simp
theorem txt_join (x : Str) (l : List Str) : Txt.join x l = Str.join x l := by
  show Builtin.Str.glued x l = _
  rw [StrLaws.glued_eq_join]
/-! ### values of the judged kinds -/
def okStr (z : Str) : Prop := z.length ≤ 1000 ∧ ∀ c ∈ z.cps.toList, c < 1114112
def okV : D → Prop
  | .fz _ => False
  | .ins _ _ => False
  | .cl _ => False
  | .fn _ _ => False
  | .str z => okStr z
  | _ => True
def isStr : D → Bool
  | .str _ => true
  | _ => false
theorem isi_str {d : D} (h : okV d) : ∃ n, tyName d = some n ∧ kitB n "str" = some (isStr d) := by
  cases d with
  | fz _ => exact h.elim
  | cl _ => exact h.elim
  | fn _ _ => exact h.elim
  | ins _ _ => exact h.elim
  | non => exact ⟨_, rfl, by decide +kernel⟩
  | bl _ => exact ⟨_, rfl, by show kitB "bool" "str" = some false; decide +kernel⟩
  | int _ => exact ⟨_, rfl, by show kitB "int" "str" = some false; decide +kernel⟩
  | str _ => exact ⟨_, rfl, by show kitB "str" "str" = some true; decide +kernel⟩
  | tup _ => exact ⟨_, rfl, by show kitB "tuple" "str" = some false; decide +kernel⟩
  | lst _ => exact ⟨_, rfl, by show kitB "list" "str" = some false; decide +kernel⟩
  | dct _ => exact ⟨_, rfl, by show kitB "dict" "str" = some false; decide +kernel⟩
  | tok => exact ⟨_, rfl, by decide +kernel⟩
instance (a n : Int) : Decidable (CPowW a n) := by
  unfold CPowW
  exact inferInstance
theorem cmulL {i j : Int} (h : -(2 ^ 64) < i ∧ i < 2 ^ 64) : CMul i j := .inl h
theorem cmulR {i j : Int} (h : -(2 ^ 64) < j ∧ j < 2 ^ 64) : CMul i j := .inr h
end FP
/-! FP9: slices, two names at once, lists joined as one's own. -/
namespace FP
open PySem L2
variable [Tabl]
section
variable {ι : Type} {Xs : ι → Cx} {mg : Gm} {Wx : WX} {pos : Pos}
abbrev DTO := FP.Env → M (Option Int)
def CpP (mg : Gm) (Wx : WX) (t : TO) (f : DTO) : Prop := ∀ B ρ Q E, f ρ Q E → ∀ W σ H Q', Holds W H → EnvR mg B W H σ ρ → ExR mg Wx W H σ E → (∀ W' H' o, Step W H W' H' → Q o → Q' o H') → t σ H Q'
def DP (Xs : ι → Cx) (mg : Gm) (Wx : WX) (e : Option Expr) (f : DTO) : Prop := ∃ t, (∀ i, PO (Xs i) e t) ∧ CpP mg Wx t f
abbrev dONone : DTO := fun _ Q _ => Q none
abbrev dOSome (f : DTE) : DTO := fun ρ Q E => f ρ (fun x => match x with
  | .int i => Q (some i)
  | _ => False) E
theorem do_none : DP Xs mg Wx none dONone := ⟨_, fun _ => po_none, fun B ρ Q E hf W σ H Q' hh e x q => q W H none (Step.refl hh) hf⟩
theorem do_some {e : Expr} {f : DTE} (h : DE Xs mg Wx e f) : DP Xs mg Wx (some e) (dOSome f) := by
  obtain ⟨t, h1, h2⟩ := h
  refine ⟨_, fun i => po_some (h1 i), fun B ρ Q E hf W σ H Q' hh e x q => h2 B ρ _ E hf W σ H _ hh e x fun W1 H1 v d s1 r1 k1 => ?_⟩
  cases r1 with
  | int i => exact ⟨i, rfl, q W1 H1 _ s1 k1⟩
  | _ => exact k1.elim
def cutD (xs : List D) (lo hi : Option Int) : List D := (xs.drop (HT.sIx xs.length 0 lo)).take (HT.sIx xs.length xs.length hi - HT.sIx xs.length 0 lo)
theorem Reps.cut {W : Wd} {vs : List V} {ds : List D} (r : Reps mg W vs ds) (lo hi : Option Int) : Reps mg W (cutV vs lo hi) (cutD ds lo hi) := by
  unfold cutV cutD
  rw [r.length]
  exact (r.drop _).take _
def rdSl (x : D) (lo hi : Option Int) (Q : D → Prop) : Prop := match x with
  | .str z => z.length ≤ sizeLine ∧ Q (.str (cutS z lo hi))
  | .lst xs => Q (.lst (cutD xs lo hi))
  | .tup xs => Q (.tup (cutD xs lo hi))
  | _ => False
abbrev dSl (f : DTE) (l u : DTO) : DTE := fun ρ Q E => f ρ (fun x => l ρ (fun lo => u ρ (fun hi => rdSl x lo hi Q) E) E) E
theorem sl_listK {X : Cx} {K : PySem.W.Frag} (h : X.K = K) : L2.SlR X (rSlL K) := by
  subst h
  exact sl_list
theorem sl_tupK {X : Cx} {K : PySem.W.Frag} (h : X.K = K) : L2.SlR X (rSlA K) := by
  subst h
  exact sl_tupA
theorem de_slice {e : Expr} {lo hi : Option Expr} {f : DTE} {l u : DTO} {p2 : Pos} (h : DE Xs mg Wx e f) (hl : DP Xs mg Wx lo l) (hu : DP Xs mg Wx hi u) (hK : ∀ j, (Xs j).K = mg.K := by intro _; rfl) : DE Xs mg Wx (.Subscript e (.Slice lo hi none p2) pos) (dSl f l u) := by
  obtain ⟨t, h1, h2⟩ := h
  obtain ⟨tl, l1, l2⟩ := hl
  obtain ⟨tu, u1, u2⟩ := hu
  refine ⟨_, fun j => pe_slice (L2.SlR.or (sl_listK (hK j)) (L2.SlR.or sl_str (sl_tupK (hK j)))) (h1 j) (l1 j) (u1 j), fun B ρ Q E hf W σ H Q' hh e x q => ?_⟩
  refine h2 B ρ _ E hf W σ H _ hh e x fun W1 H1 v d s1 r1 k1 => ?_
  refine l2 B ρ _ E k1 W1 σ H1 _ s1.holds (e.step s1) (x.step s1) fun W2 H2 o1 s2 k2 => ?_
  have s12 := s1.trans s2
  refine u2 B ρ _ E k2 W2 σ H2 _ s2.holds (e.step s12) (x.step s12) fun W3 H3 o2 s3 k3 => ?_
  have s13 := s12.trans s3
  have r3 := (r1.mono s2.le).mono s3.le
  have q3 : ToV mg W3 H3 Q Q' := ToV.step q s13
  cases r3 with
  | str z => exact .inr (.inl ⟨z, rfl, k3.1, q3 W3 H3 _ _ (Step.refl s3.holds) (.str _) k3.2⟩)
  | lst ha ra => exact .inl ⟨_, _, rfl, SqL.of (s3.holds.same _ _ ha), to_lst q3 s3.holds (ra.cut o1 o2) k3⟩
  | @tup a vs ds ha ra =>
    refine .inr (.inr ⟨_, _, rfl, SqT.of (s3.holds.same _ _ ha), fun hw => ?_, fun _ => to_tup q3 s3.holds (ra.cut o1 o2) k3⟩)
    have k4 : Q (.tup (cutD ds o1 o2)) := k3
    have e4 : cutD ds o1 o2 = ds := by
      unfold cutD
      rw [← ra.length, hw.1, hw.2, List.drop_zero, Nat.sub_zero, ra.length, List.take_length]
    rw [e4] at k4
    exact q3 W3 H3 _ _ (Step.refl s3.holds) (.tup ha ra) k4
  | _ => exact k3.elim
/-- a, b = e1, e2 -/
abbrev dPar (i j : Nat) (g : DTA) : DTS := fun N ρ => g ρ (fun ds => match ds with
  | [x, y] => N.nx ((ρ.set i (.d x)).set j (.d y))
  | _ => False) (fun x => N.rs x ρ)
theorem ds_par {i j : Nat} {x y : Str} {a b : Expr} {g : DTA} {px py pt : Pos} {kt k2 : Nat} {pt2 : Pos} (h : DA Xs mg Wx [a, b] g) (hN : ∀ l, (Xs l).N.Nodup)
    (hw : ∀ l, swappedStores [.Tuple [.Name x px, .Name y py] kt pt] (.Tuple [a, b] k2 pt2) (Xs l).env = pure (some [x, y]) := by intro _; rfl) (hij : i ≠ j := by decide) (hi : ∀ l, (Xs l).N[i]? = some x := by intro _; rfl) (hj : ∀ l, (Xs l).N[j]? = some y := by intro _; rfl)
    (hx : ∀ l, (Xs l).env.scope.names.lookup x = some .local := by intro _; rfl) (hy : ∀ l, (Xs l).env.scope.names.lookup y = some .local := by intro _; rfl) (hc : ∀ l, (Xs l).calm = true := by intro _; rfl)
    (hs : ∀ l, swapsWithSole [.Tuple [.Name x px, .Name y py] kt pt] (.Tuple [a, b] k2 pt2) pos.line (Xs l).env = pure false := by intro _; rfl) : DS Xs mg Wx (.Assign [.Tuple [.Name x px, .Name y py] kt pt] (.Tuple [a, b] k2 pt2) pos) (dPar i j g) := by
  obtain ⟨t, h1, h2⟩ := h
  refine ⟨_, fun l => ps_par (i := i) (j := j) (hc l) (hN l) (hi l) (hj l) hij (hx l) (hy l) (h1 l) (hw l) (hs l), fun W0 B N ρ hf W σ H Ds s e n => ?_⟩
  refine h2 B ρ _ _ hf W σ H _ s.holds e (n.ex s e) fun W1 H1 vs ds s1 r1 k1 => ?_
  split at k1
  · cases r1 with
    | cons r rs =>
      cases rs with
      | cons r2 rs =>
        cases rs
        exact ⟨_, _, rfl, n.nx W1 H1 _ _ (s.trans s1) (((e.step s1).set r).set r2) k1⟩
  · exact k1.elim
end
/-! ### pure words -/
theorem lc_in (al z : Str) {Q : List D → Prop} (h : Q (z.cps.toList.map fun c => .bl (decide (c ∈ al.cps.toList)))) :
    lcD (fun d k => match inD d (.str al) with | some b => k (some (.bl b)) | none => False) (signsD z) Q := by
  refine lcD_map (fun d => match inD d (.str al) with | some b => .bl b | none => .non) _ _ (fun d hd k hk => ?_) ?_
  · obtain ⟨c, _, rfl⟩ := List.mem_map.mp hd
    exact hk
  · unfold signsD
    rw [List.map_map]
    exact h
theorem blsD_fn {α : Type} (f : α → Bool) (cs : List α) : blsD (cs.map fun c => D.bl (f c)) = some (cs.map f) := by
  have e := blsD_map (cs.map f)
  rw [List.map_map] at e
  exact e
theorem signs_ok {z : Str} (h : okStr z) : (signsD z).length ≤ sizeLine := by
  rw [signsD_len]
  exact Nat.le_trans h.1 (by decide)
theorem len_ok {z : Str} (h : okStr z) : z.length ≤ sizeLine := Nat.le_trans h.1 (by decide)
theorem kit_ss : kitB "str" "str" = some true := by decide +kernel
def isIntT : D → Bool
  | .int _ => true
  | .bl _ => true
  | _ => false
def isBlT : D → Bool
  | .bl _ => true
  | _ => false
theorem isi_ty {d : D} (h : okV d) : ∃ n, tyName d = some n ∧ kitB n "int" = some (isIntT d) ∧ kitB n "bool" = some (isBlT d) := by
  cases d with
  | fz _ => exact h.elim
  | ins _ _ => exact h.elim
  | cl _ => exact h.elim
  | fn _ _ => exact h.elim
  | non => exact ⟨_, rfl, by show kitB "NoneType" "int" = some false; decide +kernel, by show kitB "NoneType" "bool" = some false; decide +kernel⟩
  | bl _ => exact ⟨_, rfl, by show kitB "bool" "int" = some true; decide +kernel, by show kitB "bool" "bool" = some true; decide +kernel⟩
  | int _ => exact ⟨_, rfl, by show kitB "int" "int" = some true; decide +kernel, by show kitB "int" "bool" = some false; decide +kernel⟩
  | str _ => exact ⟨_, rfl, by show kitB "str" "int" = some false; decide +kernel, by show kitB "str" "bool" = some false; decide +kernel⟩
  | tup _ => exact ⟨_, rfl, by show kitB "tuple" "int" = some false; decide +kernel, by show kitB "tuple" "bool" = some false; decide +kernel⟩
  | lst _ => exact ⟨_, rfl, by show kitB "list" "int" = some false; decide +kernel, by show kitB "list" "bool" = some false; decide +kernel⟩
  | dct _ => exact ⟨_, rfl, by show kitB "dict" "int" = some false; decide +kernel, by show kitB "dict" "bool" = some false; decide +kernel⟩
  | tok => exact ⟨_, rfl, by show kitB "list" "int" = some false; decide +kernel, by show kitB "list" "bool" = some false; decide +kernel⟩
def digL : List Nat := ("0123456789" : Str).cps.toList
theorem dig1 : ∀ a ∈ digL, PySem.intText? ⟨#[a]⟩ = some ((a : Int) - 48) ∧ (Str.ofString (toString ((a : Int) - 48))) = ⟨#[a]⟩ := by decide +kernel
theorem dig2 : ∀ a ∈ digL, ∀ b ∈ digL, PySem.intText? ⟨#[a, b]⟩ = some (((a : Int) - 48) * 10 + ((b : Int) - 48)) ∧ decide ((Str.ofString (toString (((a : Int) - 48) * 10 + ((b : Int) - 48)))) = ⟨#[a, b]⟩) = decide (a ≠ 48) := by decide +kernel
theorem dig_small : ∀ a ∈ digL, 48 ≤ a ∧ a < 58 := by decide
theorem log_small {n : Int} (h0 : 0 ≤ n) (h1 : n < 1000) : n.natAbs.log2 < 1920 := by
  refine Nat.lt_of_le_of_lt (Nat.log2_le_self _) ?_
  omega
theorem in23 (n : Int) : inD (.int n) (.tup [.int 2, .int 3]) = some (decide (n = 2 ∨ n = 3)) := by
  show some (((2 : Int) == n) || (((3 : Int) == n) || false)) = _
  congr 1
  by_cases h2 : n = 2
  · subst h2
    rfl
  · by_cases h3 : n = 3
    · subst h3
      rfl
    · rw [decide_eq_false (by omega), beq_eq_false_iff_ne.mpr (Ne.symm h2), beq_eq_false_iff_ne.mpr (Ne.symm h3)]
      rfl
theorem notIn23 (n : Int) {Q : D → Prop} (h1 : ¬ (n = 2 ∨ n = 3) → Q (.bl true)) (h2 : (n = 2 ∨ n = 3) → Q (.bl false)) : rdNotIn (.int n) (.tup [.int 2, .int 3]) Q := by
  unfold rdNotIn
  rw [in23]
  by_cases h : n = 2 ∨ n = 3
  · rw [decide_eq_true h]
    exact h2 h
  · rw [decide_eq_false h]
    exact h1 h
/-- a text of two or three signs -/
theorem str23 {z : Str} (h : (z.length : Int) = 2 ∨ (z.length : Int) = 3) : (∃ x a, z = ⟨#[x, a]⟩) ∨ ∃ x a b, z = ⟨#[x, a, b]⟩ := by
  have key : ∀ l : List Nat, z.cps.toList = l → z = ⟨l.toArray⟩ := fun l e => by
    cases z with
    | mk cps =>
      have e2 : cps = l.toArray := by
        apply Array.ext'
        simpa using e
      rw [e2]
  rw [str_len] at h
  match hz : z.cps.toList with
  | [] =>
    rw [hz] at h
    simp at h
  | [x] =>
    rw [hz] at h
    simp at h
  | [x, a] => exact .inl ⟨x, a, key _ hz⟩
  | [x, a, b] => exact .inr ⟨x, a, b, key _ hz⟩
  | x :: a :: b :: c :: r =>
    rw [hz] at h
    simp at h
    omega
theorem line {n : Nat} (h : Nat.ble n 16777216 = true) : n ≤ sizeLine := Nat.le_of_ble_eq_true h
theorem ne_deep {x y : D} {p q : PyData} {Q : D → Prop} (hx : toPy x = some p) (hy : toPy y = some q) (hn : eqS x y = none) (sp : SeqAt.shaped p = true) (sq : SeqAt.shaped q = true) (e : PyData.eqv p q = true) (h : Q (.bl false)) : rdNe x y Q := by
  unfold rdNe
  rw [hn]
  refine ⟨p, q, hx, hy, sp, sq, ?_⟩
  rw [e]
  exact h
theorem eq_deep {x y : D} {p q : PyData} {Q : D → Prop} (hx : toPy x = some p) (hy : toPy y = some q) (hn : eqS x y = none) (sp : SeqAt.shaped p = true) (sq : SeqAt.shaped q = true) (e : PyData.eqv p q = true) (h : Q (.bl true)) : rdEq x y Q := by
  unfold rdEq
  rw [hn]
  refine ⟨p, q, hx, hy, sp, sq, ?_⟩
  rw [e]
  exact h
/-- x and a number from 0 to 99 -/
def levelS (z : Str) : Option Int := match z.cps.toList with
  | [x, a] => if x = 120 ∧ a ∈ digL then some ((a : Int) - 48) else none
  | [x, a, b] => if x = 120 ∧ a ∈ digL ∧ b ∈ digL ∧ a ≠ 48 then some (((a : Int) - 48) * 10 + ((b : Int) - 48)) else none
  | _ => none
theorem levelS_bad {z : Str} (h : ¬ ((z.length : Int) = 2 ∨ (z.length : Int) = 3)) : levelS z = none := by
  rw [str_len] at h
  unfold levelS
  split
  · rename_i x a e
    rw [e] at h
    exact absurd (.inl rfl) h
  · rename_i x a b e
    rw [e] at h
    exact absurd (.inr rfl) h
  · rfl
def ofO : Option Int → D
  | some n => .int n
  | none => .non
def levelD : D → D
  | .str z => ofO (levelS z)
  | _ => .non
def f_level : List D → M D := fun ds Q _ => match ds with
  | [d] => okV d ∧ Q (levelD d)
  | _ => False
theorem ne_x (x : Nat) {Q : D → Prop} (h1 : x ≠ 120 → Q (.bl true)) (h2 : x = 120 → Q (.bl false)) : rdNe (.str ⟨#[x]⟩) (.str "x") Q := by
  have e : eqS (.str ⟨#[x]⟩) (.str "x") = some (decide ((⟨#[x]⟩ : Str) = "x")) := rfl
  unfold rdNe
  rw [e]
  by_cases hx : x = 120
  · subst hx
    exact h2 rfl
  · have e2 : decide ((⟨#[x]⟩ : Str) = "x") = false := decide_eq_false fun q => by
      have q2 : (⟨#[x]⟩ : Str).cps.toList = ("x" : Str).cps.toList := by rw [q]
      have q3 : [x] = [120] := q2
      exact hx (List.cons.inj q3).1
    rw [e2]
    exact h1 hx
end FP
/-! FP10: classes of one's own: fields, making, methods, properties, isinstance. -/
namespace FP
open PySem L2
variable [Tabl]
theorem RmG.in1 {k : Nat} {A : Around} (m : RmG (k + 1) A) : RmG k A.in1 := ⟨m.r.in1, m.g⟩
/-- a class of the text -/
structure ClsF (mg : Gm) (c : Str) (C : Addr) : Prop where
  nm : mg.mg c = some (.ref C)
  cl : Cls mg.K C
  ha : PySem.W.findIn mg.K (.ref C) "__class__" = some (some (.builtin "object.__class__"))
  hn : PySem.W.specialIn mg.K (.builtin "object.__class__") "__get__" = some (some (.builtin "getset_descriptor.__get__"))
  htk : PySem.W.takesIn mg.K (.builtin "object.__class__") = some true
  hm : PySem.W.mroIn mg.K C (.type "object") = some true
theorem ClsF.eq {mg : Gm} {c : Str} {C C' : Addr} (f : ClsF mg c C) (h : mg.mg c = some (.ref C')) : C' = C := by
  have e := h.symm.trans f.nm
  cases e
  rfl
section
variable {ι : Type} {Xs : ι → Cx} {mg : Gm} {Wx : WX} {pos : Pos}
/-! ### fields -/
theorem lookup_reps {W : Wd} : ∀ {vs : List (Str × V)} {ds : List (Str × D)} {f : Str} {d : D}, vs.map (·.1) = ds.map (·.1) → Reps mg W (vs.map (·.2)) (ds.map (·.2)) → ds.lookup f = some d → ∃ v, vs.lookup f = some v ∧ Rep mg W v d
  | [], [], _, _, _, _, h => by cases h
  | [], _ :: _, _, _, h, _, _ => by cases h
  | _ :: _, [], _, _, h, _, _ => by cases h
  | (a, v) :: vs, (b, e) :: ds, f, d, hk, hr, hl => by
    simp only [List.map_cons, List.cons.injEq] at hk
    obtain ⟨rfl, hk⟩ := hk
    cases hr with
    | cons r rs =>
      rw [List.lookup_cons] at hl ⊢
      split at hl
      · cases hl
        exact ⟨v, rfl, r⟩
      · exact lookup_reps hk rs hl
abbrev dFld (c f : Str) (g : DTE) : DTE := fun ρ Q E => g ρ (fun x => match x with
  | .ins c' fs => c' = c ∧ ∃ d, fs.lookup f = some d ∧ Q d
  | _ => False) E
theorem de_fld {c f : Str} {C : Addr} {e : Expr} {g : DTE} (F : ClsF mg c C) (na : NoAttr mg.K C f) (h : DE Xs mg Wx e g) (hK : ∀ j, (Xs j).K = mg.K := by intro _; rfl) (hb : ∀ j, attributeBase e f (Xs j).env (eval e (Xs j).env) = eval e (Xs j).env := by intro _; rfl) : DE Xs mg Wx (.Attribute e f pos) (dFld c f g) := by
  obtain ⟨t, h1, h2⟩ := h
  refine ⟨tFld mg.K t f, fun j => by
    have z := pe_fld (pos := pos) (h1 j) (hb j)
    rw [hK j] at z
    exact z, fun B ρ Q E hf W σ H Q' hh e x q => ?_⟩
  refine h2 B ρ _ E hf W σ H _ hh e x fun W1 H1 v d s1 r1 k1 => ?_
  cases r1 with
  | @ins a C' dx fs c' ds hc ha hk rs =>
    obtain ⟨rfl, d', hd, hq⟩ := k1
    have ec := F.eq hc
    subst ec
    obtain ⟨v', hv, rv⟩ := lookup_reps hk rs hd
    exact ⟨a, C', dx, fs, v', rfl, s1.holds.same _ _ ha, F.cl, na, hv, q W1 H1 v' d' s1 rv hq⟩
  | _ => exact k1.elim
/-- a field of an object that is being made -/
abbrev dFldO (i : Nat) (c f : Str) : DTE := fun ρ Q _ => match ρ[i]? with
  | some (.ob c' _ fs) => c' = c ∧ ∃ d, fs.lookup f = some d ∧ Q d
  | _ => False
theorem de_fldO (i : Nat) {c x f : Str} {C : Addr} {p : Pos} (F : ClsF mg c C) (na : NoAttr mg.K C f) (hK : ∀ j, (Xs j).K = mg.K := by intro _; rfl) (hN : ∀ j, (Xs j).N[i]? = some x := by intro _; rfl)
    (hv : ∀ j, Vis (Xs j).env.scope x := by intro _; first | exact Or.inl rfl | exact Or.inr (Or.inl rfl) | exact Or.inr (Or.inr rfl)) (hd : (x == ("__debug__" : Str)) = false := by decide) (hcd : (x == ("__classdict__" : Str)) = false := by decide)
    (hb : ∀ j, attributeBase (.Name x p) f (Xs j).env (eval (.Name x p) (Xs j).env) = eval (.Name x p) (Xs j).env := by intro _; rfl) : DE Xs mg Wx (.Attribute (.Name x p) f pos) (dFldO i c f) := by
  refine ⟨tFld mg.K (tVar i) f, fun j => by
    have z := pe_fld (pos := pos) (pe_var (i := i) (pos := p) (hN j) (hv j) hd hcd) (hb j)
    rw [hK j] at z
    exact z, fun B ρ Q E hf W σ H Q' hh e x q => ?_⟩
  unfold dFldO at hf
  split at hf
  · rename_i c' a fs hs
    obtain ⟨rfl, d, hd, hq⟩ := hf
    obtain ⟨o, h1, vs, h2, ⟨C', dx, hc, h3⟩, _, _, _, hk, rs⟩ := e.sl i _ hs
    subst h2
    have ec := F.eq hc
    subst ec
    obtain ⟨v', hv, rv⟩ := lookup_reps hk rs hd
    exact ⟨.ref a, h1, a, C', dx, vs, v', rfl, h3, F.cl, na, hv, q W H v' d (Step.refl hh) rv hq⟩
  · exact hf.elim
/-- an attribute put -/
def putD (f : Str) (d : D) : List (Str × D) → List (Str × D)
  | [] => [(f, d)]
  | (g, e) :: r => if g = f then (f, d) :: r else (g, e) :: putD f d r
theorem putF_reps {W : Wd} {f : Str} {v : V} {d : D} (r : Rep mg W v d) : ∀ {vs : List (Str × V)} {ds : List (Str × D)}, vs.map (·.1) = ds.map (·.1) → Reps mg W (vs.map (·.2)) (ds.map (·.2)) → (putF f v vs).map (·.1) = (putD f d ds).map (·.1) ∧ Reps mg W ((putF f v vs).map (·.2)) ((putD f d ds).map (·.2))
  | [], [], _, _ => ⟨rfl, .cons r .nil⟩
  | [], _ :: _, h, _ => by cases h
  | _ :: _, [], h, _ => by cases h
  | (a, w) :: vs, (b, e) :: ds, hk, hr => by
    simp only [List.map_cons, List.cons.injEq] at hk
    obtain ⟨rfl, hk⟩ := hk
    cases hr with
    | cons r1 rs =>
      unfold putF putD
      by_cases ha : a = f
      · rw [if_pos ha, if_pos ha]
        exact ⟨by simp [hk, ha], .cons r rs⟩
      · rw [if_neg ha, if_neg ha]
        obtain ⟨h1, h2⟩ := putF_reps r hk rs
        exact ⟨by simp [h1], .cons r1 h2⟩
abbrev dSetF (i : Nat) (c f : Str) (g : DTE) : DTS := fun N ρ => g ρ (fun d => match ρ[i]? with
  | some (.ob c' a fs) => c' = c ∧ fs.length < 1000 ∧ N.nx (ρ.set i (.ob c a (putD f d fs)))
  | _ => False) (fun x => N.rs x ρ)
theorem ds_setF (i : Nat) {c x f : Str} {C : Addr} {p p' : Pos} {e : Expr} {g : DTE} (F : ClsF mg c C) (na : NoAttr mg.K C f) (h : DE Xs mg Wx e g) (hK : ∀ j, (Xs j).K = mg.K := by intro _; rfl) (hN : ∀ j, (Xs j).N[i]? = some x := by intro _; rfl)
    (hv : ∀ j, Vis (Xs j).env.scope x := by intro _; first | exact Or.inl rfl | exact Or.inr (Or.inl rfl) | exact Or.inr (Or.inr rfl)) (hd : (x == ("__debug__" : Str)) = false := by decide) (hcd : (x == ("__classdict__" : Str)) = false := by decide)
    (hs : ∀ j, swapsWith e (some (.Attribute (.Name x p) f p')) pos.line (Xs j).env = pure false := by intro _; rfl) : DS Xs mg Wx (.Assign [.Attribute (.Name x p) f p'] e pos) (dSetF i c f g) := by
  obtain ⟨t, h1, h2⟩ := h
  refine ⟨sFld mg.K (tVar i) t f, fun j => by
    have z := ps_fld (pe_var (i := i) (pos := p) (hN j) (hv j) hd hcd) (h1 j) (hs j)
    rw [hK j] at z
    exact z, fun W0 B N ρ hf W σ H Ds s e n => ?_⟩
  refine h2 B ρ _ _ hf W σ H _ s.holds e (n.ex s e) fun W1 H1 v d s1 r1 k1 => ?_
  have e1 := e.step s1
  dsimp only at k1
  split at k1
  · rename_i c' a fs hs'
    obtain ⟨rfl, hl, hq⟩ := k1
    obtain ⟨o, g1, vs, g2, ⟨C', dx, hc, g3⟩, g4, g5, g6, hk, rs⟩ := e1.sl i _ hs'
    subst g2
    have ec := F.eq hc
    subst ec
    have el : vs.length = fs.length := by
      have q := congrArg List.length hk
      simpa using q
    obtain ⟨k2, k3⟩ := putF_reps (f := f) r1 hk rs
    refine ⟨.ref a, g1, a, C', dx, vs, rfl, g3, F.cl, na, by omega, ?_⟩
    refine n.nx W1 _ σ _ ((s.trans s1).own g6 g3 g4 g5) (e1.turn (s' := .ob c' a (putD f d fs)) hs' g1 (List.mem_singleton.mpr rfl) (fun _ h => h) ⟨_, rfl, ⟨C', dx, hc, upd_same⟩, g4, g5, g6, k2, k3⟩) hq
  · exact k1.elim
/-! ### making an object -/
/-- an __init__'s promise: the fields that the object has behind it -/
def spI (mg : Gm) (c : Str) (C : Addr) (n : Nat) (f : List D → ((List (Str × D)) → Prop) → (XD → Prop) → Prop) : Sp := fun vs H Q E => ∃ W ds us H1 x dx Qd Ed, vs = .ref x :: us ∧ H1 x = none ∧ H1 dx = none ∧ dx ≠ x ∧ H = upd (upd H1 dx (.own x)) x (.ins C dx []) ∧ Holds W H1 ∧ Reps mg W us ds ∧ ds.length = n ∧ f ds Qd Ed ∧
  (∀ W' H' gs fs dy, Step W H1 W' H' → H' x = some (.ins C dy gs) → W'.H x = none → ¬ W'.T x → gs.map (·.1) = fs.map (·.1) → Reps mg W' (gs.map (·.2)) (fs.map (·.2)) → Qd fs → Q .non H') ∧ ∀ W' H' cls dd y, Step W H1 W' H' → RepX mg W' H' cls dd y → Ed y → E cls dd H'
structure InitOk (P : Program) (w : World) (mg : Gm) (base : Heap) (k : Nat) (c : Str) (C : Addr) (n : Nat) (f : List D → ((List (Str × D)) → Prop) → (XD → Prop) → Prop) : Prop where
  ex : ∃ fa fd ps, Mk mg.K C fa ∧ Binds mg.K fd ps [] ∧ ps.length = n + 1 ∧ FnG P w mg.K mg.mg base k fa fd ps (spI mg c C n f)
/-- the making, where no repr is under way -/
theorem makeG {X : Cx} {C f : Addr} {k : Nat} {fd : FuncData} {ps : List Str} {sp : Sp} {Ex : XK} {pins : List (Addr × Obj)} {σ : St} {H : Hp} {z : Shared} {Q : VK} {us : List Value} {vs : List V} (M : Mk X.K C f) (F : FnG X.prog X.w X.K X.mg X.base k f fd ps sp) (m : RmG (k + 1) X.A) (hb : Binds X.K fd ps [])
    (hx : PassesAt (L2.CX X.prog X.w) X σ Ex) (I : Inv X pins σ H z) (rv : Vals vs us)
    (h : ∀ x dx, H x = none → H dx = none → dx ≠ x → sp (.ref x :: vs) (upd (upd H dx (.own x)) x (.ins C dx [])) (fun v H2 => v = .non ∧ Q (.ref x) H2) Ex) : wpAny (model X.prog X.w) X.A (call (.ref C) us) (EP X pins σ Q) X.xe z := by
  have fr0 := I.hok.fresh (Nat.le_refl z.heap.objs.size)
  have fr1 := I.hok.fresh (Nat.le_succ z.heap.objs.size)
  have want := h (z.heap.objs.size + 1) z.heap.objs.size fr1 fr0 (Nat.ne_of_lt (Nat.lt_succ_self _))
  have J := Inv.made (C := C) I
  have rv2 : Vals (V.ref (z.heap.objs.size + 1) :: vs) (Value.ref (z.heap.objs.size + 1) :: us) := .cons rfl rv
  have ln : (Value.ref (z.heap.objs.size + 1) :: us ++ []).length = ps.length := by
    rw [List.append_nil, ← rv2.length]
    exact F.ln _ _ _ _ want
  have bd := hb _ (Value.ref (z.heap.objs.size + 1) :: us) J.kIn ln
  rw [List.append_nil] at bd
  have gd : (X.A.under (.builtin "type.__call__" ⟨.ref C :: us, []⟩)).guards = some [] := by
    simp [Around.under, Code.guards, Code.isGuard, guardIds, pushGuards, m.g]
  have cd := F.go _ X.stack _ _ ⟨Value.ref (z.heap.objs.size + 1) :: us, []⟩ _ _ _ Ex ⟨m.r.make C us [], gd⟩ (J.env0.make C us []) bd rv2 want
  refine wpAny_call (make_map (f := f) I.kIn M.makes M.init (beq_iff_eq.mp M.fn) (codeAny_mono cd ?_))
  intro res z' hq
  match res, hq with
  | .error e, hq => exact hx pins _ _ e z' J hq
  | .ok .next, hq => exact hq.elim
  | .ok .brk, hq => exact hq.elim
  | .ok .cont, hq => exact hq.elim
  | .ok (.ret u), hq =>
    obtain ⟨v, H', I3, ru, ev, q3⟩ := J.after hq
    subst ev
    exact ⟨ru, ⟨V.ref (z.heap.objs.size + 1), H', I3, rfl, q3⟩⟩
/-- an __init__ by its body: the object stands in slot 0 -/
theorem mkInit {P : Program} {w : World} {base : Heap} {c : Str} {C : Addr} {qual : Str} {st : Stmt} {N ps : List Str} {k n : Nat} {f : List D → ((List (Str × D)) → Prop) → (XD → Prop) → Prop} (Fc : ClsF mg c C) (d : ∃ fa fd, Mk mg.K C fa ∧ Fun mg.K "__init__" qual st fa fd) (S : FnScope N ps (defScope st)) (hn : ps.length = n + 1)
    (hb : ∀ (kV doc pm : Value) (an : Option Addr) (cdv ct : Value) (us : List Value), us.length = ps.length → bindArgs (PySem.W.fnOf "__init__" qual (defArgs st) (defBody st) (defScope st) .none kV doc pm an cdv ct) ⟨us, []⟩ = pure (ps.zip us))
    (h : ∀ (fa : Addr) (cdv : Value) (A : Around) (outer : List PySem.Env) (s : Shared) (H : Hp) (E : XK), RmG k (A.deeper (PyProof.Rows.envOfC qual (defScope st) s.heap.objs.size fa cdv)) →
      ∃ g, DSs (fun _ : Unit => cxOf (L2.CX P w) P w mg.K mg.mg base N qual (defScope st) fa cdv A outer s H E) mg (fun cls d _ H' => E cls d H') (defBody st) g ∧
        ∀ x ds Q Ex, ds.length = n → f ds Q Ex → g ⟨fun ρ => ∃ fs r, ρ = .ob c x fs :: r ∧ Q fs, fun _ _ => False, fun _ => False, fun _ => False, fun x _ => Ex x⟩ (.ob c x [] :: startD (N.length - 1) ds)) :
    InitOk P w mg base (k + 1) c C n f := by
  obtain ⟨fa, fd, M, F⟩ := d
  refine ⟨fa, fd, ps, M, F.binds hb, hn, ?_⟩
  refine fnG_of F S (fun vs H Q E hs => ?_) (fun cdv A outer s H vs Q E hr hs => ?_)
  · obtain ⟨W, ds, us, H1, x, dx, Qd, Ed, rfl, _, _, _, _, _, r, l, _⟩ := hs
    rw [List.length_cons, r.length, l, hn]
  · obtain ⟨W, ds, us, H1, x, dx, Qd, Ed, rfl, nx, ndx, ne, rfl, hh, r, l, hf, q, ex⟩ := hs
    obtain ⟨g, ⟨t, h1, h2⟩, h3⟩ := h fa cdv A outer s _ E hr
    have lu : us.length = n := by rw [r.length, l]
    have sd : Step W H1 W (upd H1 dx (.own x)) := Step.lay hh ndx
    have nx2 : (upd H1 dx (.own x)) x = none := by
      rw [upd_ne (Ne.symm ne)]
      exact nx
    have sx : Step W H1 W (upd (upd H1 dx (.own x)) x (.ins C dx [])) := sd.trans (Step.lay sd.holds nx2)
    refine ⟨t, h1 (), ?_⟩
    have hN : N.length = (N.length - 1) + 1 := by
      have q1 := congrArg List.length S.pre
      rw [List.length_take, hn] at q1
      omega
    have e0 : EnvR mg H1 W (upd (upd H1 dx (.own x)) x (.ins C dx [])) (L2.start N (.ref x :: us)) (.ob c x [] :: startD (N.length - 1) ds) := by
      have base0 := EnvR.start (N := N.tail) (mg := mg) (H := H1) r
      have lt : N.tail.length = N.length - 1 := List.length_tail
      have es : L2.start N (.ref x :: us) = some (.ref x) :: L2.start N.tail us := by
        unfold L2.start
        rw [List.map_cons, List.cons_append, List.length_cons, lt, Nat.sub_sub, Nat.add_comm 1]
      rw [es, ← lt]
      refine ⟨congrArg (· + 1) base0.len, fun i sl hi => ?_, fun i j s1 s2 o1 o2 a hij q1 q2 q3 q4 m1 m2 => ?_⟩
      · cases i with
        | zero =>
          cases hi
          exact ⟨_, rfl, [], rfl, ⟨C, dx, Fc.nm, upd_same⟩, hh.same.free nx, hh.nT nx, nx, rfl, .nil⟩
        | succ i =>
          obtain ⟨o, g1, g2⟩ := base0.sl i sl hi
          refine ⟨o, g1, g2.keep (Le.refl W) fun a _ u h5 h6 h7 => sx.mine h5 h6 h7⟩
      · have none2 : ∀ (j : Nat) (s : Sl) (o : Option V), (startD N.tail.length ds)[j]? = some s → a ∉ s.fp o := fun j s o hj m => by
          unfold startD at hj
          rcases List.mem_append.mp (List.mem_of_getElem? hj) with z | z
          · obtain ⟨_, _, z⟩ := List.mem_map.mp z
            rw [← z] at m
            cases m
          · have z := List.eq_of_mem_replicate z
            rw [z] at m
            cases m
        cases i with
        | succ i => exact none2 i s1 o1 q1 m1
        | zero =>
          cases j with
          | zero => exact hij rfl
          | succ j => exact none2 j s2 o2 q2 m2
    refine h2 W H1 _ _ (h3 x ds Qd Ed l hf) W _ _ _ sx e0 ⟨fun W' H' σ' ρ' s' e' k => ?_, fun _ _ _ _ _ _ _ _ _ k => k.elim, fun _ _ _ _ _ _ k => k.elim, fun _ _ _ _ _ _ k => k.elim, fun W' H' σ' ρ' cls dd y s' e' r' k => ex W' H' cls dd y s' r' k⟩
    obtain ⟨fs, rr, rfl, hq⟩ := k
    obtain ⟨o, g1, vs, g2, ⟨C', dy, hc, g3⟩, g4, g5, g6, hk, rs⟩ := e'.sl 0 _ rfl
    have ec := Fc.eq hc
    subst ec
    exact q W' H' vs fs dy s' g3 g4 g5 hk rs hq
end
end FP
/-! FP11: methods, properties, isinstance with an own class, len, in, [], str of own objects. -/
namespace FP
open PySem L2
variable [Tabl]
section
variable {ι : Type} {Xs : ι → Cx} {mg : Gm} {Wx : WX} {pos : Pos}
/-! ### methods -/
/-! ### properties -/
structure PropOk (P : Program) (w : World) (mg : Gm) (base : Heap) (k : Nat) (C : Addr) (m : Str) (f : List D → M D) : Prop where
  ex : ∃ p fa fd ps, PropOf mg.K C m p fa ∧ Binds mg.K fd ps [] ∧ ps.length = 1 ∧ FnG P w mg.K mg.mg base k fa fd ps (spD mg 1 f)
theorem mkProp {P : Program} {w : World} {base : Heap} {C : Addr} {m qual : Str} {st : Stmt} {N ps : List Str} {k : Nat} {f : List D → M D} (d : ∃ p fa fd, PropOf mg.K C m p fa ∧ Fun mg.K m qual st fa fd) (S : FnScope N ps (defScope st)) (h1 : ps.length = 1)
    (hb : ∀ (kV doc pm : Value) (an : Option Addr) (cdv ct : Value) (us : List Value), us.length = ps.length → bindArgs (PySem.W.fnOf m qual (defArgs st) (defBody st) (defScope st) .none kV doc pm an cdv ct) ⟨us, []⟩ = pure (ps.zip us))
    (h : ∀ (fa : Addr) (cdv : Value) (A : Around) (outer : List PySem.Env) (s : Shared) (H : Hp) (E : XK), RmG k (A.deeper (PyProof.Rows.envOfC qual (defScope st) s.heap.objs.size fa cdv)) →
      ∃ g, DSs (fun _ : Unit => cxOf (L2.CX P w) P w mg.K mg.mg base N qual (defScope st) fa cdv A outer s H E) mg (fun cls d _ H' => E cls d H') (defBody st) g ∧
        ∀ ds Q Ex, ds.length = ps.length → f ds Q Ex → g ⟨fun _ => Q .non, fun d _ => Q d, fun _ => False, fun _ => False, fun x _ => Ex x⟩ (startD N.length ds)) :
    PropOk P w mg base (k + 1) C m f := by
  obtain ⟨p, fa, fd, hm, F⟩ := d
  have G := def_ok F S (h fa)
  rw [h1] at G
  exact ⟨p, fa, fd, ps, hm, F.binds hb, h1, G⟩
/-- a property that raises nothing -/
abbrev dProp (c : Str) (f : List D → M D) (go : DTE) : DTE := fun ρ Q E => go ρ (fun x => match x with
  | .ins c' fs => c' = c ∧ f [.ins c' fs] Q F0
  | _ => False) E
theorem getpropG {X : Cx} {k : Nat} {C p g a dx : Addr} {fs : List (Str × V)} {f : Str} {fd : FuncData} {ps : List Str} {sp : Sp} {pins : List (Addr × Obj)} {σ : St} {H : Hp} {z : Shared} {Q : VK} {b : Bool} {E' : Value → Shared → Prop} (I : Inv X pins σ H z) (ea : H a = some (.ins C dx fs)) (c : Cls X.K C) (hp : PropOf X.K C f p g)
    (F : FnG X.prog X.w X.K X.mg X.base k g fd ps sp) (m : RmG (k + 1) X.A) (hb : Binds X.K fd ps []) (h : sp [.ref a] H Q E0) : wpAny (model X.prog X.w) X.A (getAttr (.ref a) f b) (EP X pins σ Q) E' z := by
  obtain ⟨mA, O, _⟩ := ins_get I.hok ea
  obtain ⟨od, J, _⟩ := O.look
  obtain ⟨rest, hrec⟩ := hp.rec_
  have I1 := I.tok (z.toks + 1)
  have hc : (PySem.W.clsIn X.K C).isSome = true := by
    obtain ⟨cd, q, _⟩ := PySem.W.any_some c.hd
    rw [q]
    rfl
  have plain := PySem.W.plainGet_of (c.get f)
  refine PySem.W.get_bind I.kIn J plain.1 (PySem.W.findObj_data hc hp.at_ hp.get hp.tak) plain.2 (wpAny_call (PySem.W.prop_get (s := { z with toks := z.toks + 1 }) I.kIn hrec ?_))
  have bd := hb { z with toks := z.toks + 1 } [.ref a] I1.kIn (F.ln _ _ _ _ h)
  rw [List.append_nil] at bd
  have cd := F.go X.A.in1 X.stack { z with toks := z.toks + 1 } H ⟨[.ref a], []⟩ [.ref a] [.ref a] Q E0 m.in1 I1.env0.in1 bd (.cons rfl .nil) h
  refine codeAny_mono cd ?_
  intro res z' hq
  match res, hq with
  | .error e, hq =>
    obtain ⟨_, _, _, _, _, _, _, _, _, _, _, _, w⟩ := hq
    exact w.elim
  | .ok .next, hq => exact hq.elim
  | .ok .brk, hq => exact hq.elim
  | .ok .cont, hq => exact hq.elim
  | .ok (.ret u), hq =>
    obtain ⟨v, H', I3, rv, q3⟩ := I1.after hq
    show wpAny _ _ (handedOut u) _ _ _
    rw [PySem.W.handedOut_of (handed_of rv)]
    exact wpAny_pure ⟨v, H', I3, rv, q3⟩
theorem de_prop {P : Program} {w : World} {base : Heap} {k : Nat} {c m : Str} {C : Addr} {f : List D → M D} {o : Expr} {go : DTE} (Fc : ClsF mg c C) (F : PropOk P w mg base k C m f) (hr : ∀ i, RmG (k + 1) (Xs i).A) (ho : DE Xs mg Wx o go)
    (hP : ∀ j, (Xs j).prog = P ∧ (Xs j).w = w ∧ (Xs j).K = mg.K ∧ (Xs j).mg = mg.mg ∧ (Xs j).base = base := by intro _; exact ⟨rfl, rfl, rfl, rfl, rfl⟩) (hab : ∀ j, attributeBase o m (Xs j).env (eval o (Xs j).env) = eval o (Xs j).env := by intro _; rfl) : DE Xs mg Wx (.Attribute o m pos) (dProp c f go) := by
  obtain ⟨p, fa, fd, ps, hm, hb, hl, G⟩ := F.ex
  obtain ⟨to, o1, o2⟩ := ho
  refine ⟨fun σ H Q => to σ H fun x H1 => ∃ a dx fs, x = .ref a ∧ H1 a = some (.ins C dx fs) ∧ spD mg 1 f [.ref a] H1 Q E0, fun i => ?_, ?_⟩
  · obtain ⟨p1, p2, p3, p4, p5⟩ := hP i
    subst p1 p2 p5
    constructor
    intro pins z σ H Q I hw
    refine attr_of (hab i) (thn ((o1 i).run pins z σ H _ I hw) ?_)
    rintro u z1 ⟨x, H1, I1, rx, a, dx, fs, ex, ea, q⟩
    subst ex
    have eu : u = Value.ref a := rx
    subst eu
    exact getpropG I1 ea (by rw [p3]; exact Fc.cl) (by rw [p3]; exact hm) (by rw [p3, p4]; exact G) (hr i) (by rw [p3]; exact hb) q
  · intro B ρ Q E hf W σ H Q' hh e x q
    refine o2 B ρ _ E hf W σ H _ hh e x fun W1 H1 v d s1 r1 k1 => ?_
    cases r1 with
    | @ins a C' dx fs c' ds hc ha hk rs =>
      obtain ⟨rfl, k2⟩ := k1
      have ec := Fc.eq hc
      subst ec
      exact ⟨a, dx, fs, rfl, s1.holds.same _ _ ha, W1, _, Q, F0, s1.holds, .cons (.ins hc ha hk rs) .nil, rfl, k2, ToV.step q s1, fun _ _ _ _ _ _ _ h => h⟩
    | _ => exact k1.elim
/-! ### isinstance with a class of the text -/
/-- what isinstance says of built-in kinds and of the classes cs -/
structure IsiF (mg : Gm) (C : Addr) (cs : List Str) (yes : Str → Bool) : Prop where
  bn : ∀ n ∈ ["NoneType", "bool", "int", "str", "tuple", "list", "dict"], PySem.W.kitOne mg.K (.type n) (.ref C) = some false
  cl : ∀ c ∈ cs, ∃ C', ClsF mg c C' ∧ PySem.W.kitOne mg.K (.ref C') (.ref C) = some (yes c)
def isiD (cs : List Str) (yes : Str → Bool) : D → Option Bool
  | .ins c _ => if c ∈ cs then some (yes c) else none
  | .fz _ => none
  | .cl _ => none
  | .fn _ _ => none
  | _ => some false
abbrev dIsiO (cs : List Str) (yes : Str → Bool) (f : DTE) : DTE := fun ρ Q E => f ρ (fun x => match isiD cs yes x with
  | some b => Q (.bl b)
  | none => False) E
theorem isiD_v {W : Wd} {H : Hp} {C : Addr} {cs : List Str} {yes : Str → Bool} {x : V} {d : D} {b : Bool} (K : IsiF mg C cs yes) (hh : Holds W H) (r : Rep mg W x d) (h : isiD cs yes d = some b) : ∃ t, TyX mg.K H x t ∧ PySem.W.kitOne mg.K t (.ref C) = some b := by
  cases r with
  | @ins a C0 dx fs c ds hc ha hk rs =>
    have h' : (if c ∈ cs then some (yes c) else none) = some b := h
    by_cases hm : c ∈ cs
    · rw [if_pos hm] at h'
      cases h'
      obtain ⟨C', F, hy⟩ := K.cl _ hm
      have ec := F.eq hc
      subst ec
      exact ⟨_, .base (.ins (hh.same _ _ ha) F.cl F.ha F.hn F.htk F.hm), hy⟩
    · rw [if_neg hm] at h'
      cases h'
  | fz _ _ => cases h
  | cl _ => cases h
  | fn _ => cases h
  | non => cases h; exact ⟨_, tyName_v (mg := mg) hh .non rfl, K.bn _ (by decide)⟩
  | bl k => cases h; exact ⟨_, tyName_v (mg := mg) hh (.bl k) rfl, K.bn _ (by decide)⟩
  | int k => cases h; exact ⟨_, tyName_v (mg := mg) hh (.int k) rfl, K.bn _ (by decide)⟩
  | str k => cases h; exact ⟨_, tyName_v (mg := mg) hh (.str k) rfl, K.bn _ (by decide)⟩
  | tup ha rs => cases h; exact ⟨_, tyName_v (mg := mg) hh (.tup ha rs) rfl, K.bn _ (by decide)⟩
  | lst ha rs => cases h; exact ⟨_, tyName_v (mg := mg) hh (.lst ha rs) rfl, K.bn _ (by decide)⟩
  | dct ha hk rs => cases h; exact ⟨_, tyName_v (mg := mg) hh (.dct ha hk rs) rfl, K.bn _ (by decide)⟩
  | tok t => cases h; exact ⟨_, tyName_v (mg := mg) hh (.tok t) rfl, K.bn _ (by decide)⟩
theorem de_isiO {e : Expr} {f : DTE} {c : Str} {C : Addr} {cs : List Str} {yes : Str → Bool} {p p2 : Pos} (h : DE Xs mg Wx e f) (hm : mg.mg "isinstance" = none) (Fc : mg.mg c = some (.ref C)) (K : IsiF mg C cs yes) (hv : bootBuiltins "isinstance" = some (.builtin "isinstance"))
    (hK : ∀ j, (Xs j).K = mg.K := by intro _; rfl) (hM : ∀ j, (Xs j).mg = mg.mg := by intro _; rfl) (hg : ∀ j, Gl (Xs j) "isinstance" := by intro _; rfl) (hgT : ∀ j, Gl (Xs j) c := by intro _; rfl) (hd : (c == ("__debug__" : Str)) = false := by decide)
    (he : ∀ j, starEach [e, .Name c p2] (Xs j).env = (false, eval e (Xs j).env) :: starEach [.Name c p2] (Xs j).env := by intro _; rfl) (he2 : ∀ j, starEach [.Name c p2] (Xs j).env = [(false, eval (.Name c p2) (Xs j).env)] := by intro _; rfl)
    (hpl : ∀ j, (backTo pos (starEach [.Name c p2] (Xs j).env)).any (·.1) = false := by intro _; rfl) : DE Xs mg Wx (.Call (.Name "isinstance" p) [e, .Name c p2] [] pos) (dIsiO cs yes f) := by
  obtain ⟨t, h1, h2⟩ := h
  refine ⟨tCB (rIsi mg.K) (tCons t (tCons (tC (.ref C)) tNil)), fun j => ?_, ?_⟩
  · exact pe_callB (call_isiK2 (hK j)) (hg j) (by rw [hM j]; exact hm) hv (pa_cons (h1 j) (pa_cons (pe_glob (v := .ref C) (hgT j) (by rw [hM j]; exact Fc) rfl hd) pa_nil (he2 j)) (he j)) (by decide) (by decide) (he j) (hpl j)
  · intro B ρ Q E hf W σ H Q' hh e x q
    refine h2 B ρ _ E hf W σ H _ hh e x fun W1 H1 v d s1 r1 k1 => ?_
    dsimp only at k1
    split at k1
    · rename_i b hb
      obtain ⟨ty, hy, hk⟩ := isiD_v K s1.holds r1 hb
      exact ⟨v, .ref C, ty, .ref C, b, rfl, .own C, hy, hk, q W1 H1 _ _ s1 (.bl b) k1⟩
    · exact k1.elim
end
end FP
/-! FP12: what Python asks of own objects by special methods: len, in, ==, str, []. -/
namespace FP
open PySem L2
variable [Tabl]
theorem CX.none {P : Program} {w : World} {out : List PySem.Env} {H : Hp} {z : Shared} {e : Value} {z' : Shared} (h : L2.CX P w out H z E0 e z') : False := by
  obtain ⟨_, _, _, _, _, _, _, _, _, _, _, _, w⟩ := h
  exact w
section
variable {ι : Type} {Xs : ι → Cx} {mg : Gm} {Wx : WX} {pos : Pos} {P : Program} {w : World} {base : Heap} {k : Nat} {c : Str} {C : Addr} {f : List D → M D}
/-- the contexts are those of the module -/
abbrev HPs (Xs : ι → Cx) (P : Program) (w : World) (mg : Gm) (base : Heap) : Prop := ∀ j, (Xs j).prog = P ∧ (Xs j).w = w ∧ (Xs j).K = mg.K ∧ (Xs j).mg = mg.mg ∧ (Xs j).base = base
/-! ### len -/
/-! ### in -/
/-! ### str -/
/-! ### == -/
/-! ### != by an own == -/
end
end FP
/-! FP13: sets of texts: set(list of texts), sorted(set(..)), len(set(..)). -/
namespace FP
open PySem L2 PySem.Spec PyProof.Rows
variable [Tabl]
def keyS (e : Int × Value) : Str := match e.2 with
  | .str k _ => k
  | _ => Str.empty
def GoodS (w : World) (e : Int × Value) : Prop := ∃ k tk, e.2 = Value.str k tk ∧ e.1 = hashStr w k
/-- the set of texts at a has the members of M; its table can be walked -/
def SetS (w : World) (h : Heap) (a : Addr) (M : List Str) : Prop :=
  ∃ o es ep t, h.get? a = some o ∧ o.ExactSet ∧ o.data = .set es ep t ∧ (∀ e ∈ es.toList, GoodS w e) ∧ (es.toList.map keyS).Nodup ∧ (∀ k, k ∈ M ↔ k ∈ es.toList.map keyS) ∧
    es.size < scanBound ∧ t.fits es.size = true ∧ es.size ≤ M.length ∧ Ris t.place.toList ∧ (w.params.followText "set-order" = true ∨ t.led = true)
section
variable {P : Program} {w : World} {h h' : Heap} {a : Addr} {M : List Str}
theorem SetS.at (R : SetS w h a M) (k : ∀ o, h.get? a = some o → h'.get? a = some o) : SetS w h' a M := by
  obtain ⟨o, es, ep, t, ho, r⟩ := R
  exact ⟨o, es, ep, t, k o ho, r⟩
end
/-! ### set(list of texts) -/
end FP
/-! FP14: the order of texts; sorted(texts), sorted(set(texts)), len(set(texts)). -/
namespace FP
open PySem L2 PySem.Spec PyProof.Rows
variable [Tabl]
/-! ### the order of texts, pure -/
abbrev ltS (a b : Str) : Bool := ltCps a.cps.toList b.cps.toList
theorem ltS_iff {a b : Str} : ltS a b = true ↔ a.cps.toList < b.cps.toList := by
  unfold ltS
  rw [ltCps_eq]
  exact decide_eq_true_iff
theorem ltS_irrefl (a : Str) : ltS a a = false := by
  cases q : ltS a a with
  | false => rfl
  | true => exact (List.lt_irrefl _ (ltS_iff.mp q)).elim
theorem ltS_trans {a b c : Str} (h : ltS a b = true) (g : ltS b c = true) : ltS a c = true := ltS_iff.mpr (List.lt_trans (ltS_iff.mp h) (ltS_iff.mp g))
theorem str_of_list {a b : Str} (h : a.cps.toList = b.cps.toList) : a = b := by
  cases a; cases b
  simp only [Str.mk.injEq]
  exact Array.toList_inj.mp h
theorem ltS_tri {a b : Str} (h : ltS a b = false) (g : ltS b a = false) : a = b := by
  have h1 : ¬ a.cps.toList < b.cps.toList := fun z => by rw [ltS_iff.mpr z] at h; cases h
  have h2 : ¬ b.cps.toList < a.cps.toList := fun z => by rw [ltS_iff.mpr z] at g; cases g
  exact str_of_list (List.le_antisymm (List.not_lt.mp h2) (List.not_lt.mp h1))
theorem ltS_asym {a b : Str} (h : ltS a b = true) : ltS b a = false := by
  cases q : ltS b a with
  | false => rfl
  | true => have := ltS_trans h q; rw [ltS_irrefl] at this; cases this
theorem geS_trans {a b c : Str} (h : ltS b a = false) (g : ltS c b = false) : ltS c a = false := by
  cases q : ltS c a with
  | false => rfl
  | true =>
    by_cases e : a = b
    · rw [e] at q; rw [q] at g; cases g
    · have : ltS a b = true := by
        cases z : ltS a b with
        | true => rfl
        | false => exact (e (ltS_tri z h)).elim
      rw [ltS_trans q this] at g
      cases g
abbrev UpS (l : List Str) : Prop := l.Pairwise (fun a b => ltS b a = false)
def insS (x : Str) : List Str → List Str
  | [] => [x]
  | y :: r => if ltS y x then y :: insS x r else x :: y :: r
def sortS : List Str → List Str
  | [] => []
  | x :: r => insS x (sortS r)
theorem insS_perm (x : Str) : ∀ l, (insS x l).Perm (x :: l)
  | [] => .refl _
  | y :: r => by
    unfold insS
    split
    · exact ((insS_perm x r).cons y).trans (.swap ..)
    · exact .refl _
theorem sortS_perm : ∀ l, (sortS l).Perm l
  | [] => .refl _
  | x :: r => (insS_perm x _).trans ((sortS_perm r).cons x)
theorem insS_up {x : Str} : ∀ {l}, UpS l → UpS (insS x l)
  | [], _ => List.pairwise_singleton _ _
  | y :: r, h => by
    obtain ⟨h1, h2⟩ := List.pairwise_cons.mp h
    unfold insS
    split
    · rename_i q
      refine List.pairwise_cons.mpr ⟨fun z hz => ?_, insS_up h2⟩
      rcases List.mem_cons.mp ((insS_perm x r).mem_iff.mp hz) with e | e
      · rw [e]; exact ltS_asym q
      · exact h1 z e
    · rename_i q
      have q' : ltS y x = false := by simpa using q
      refine List.pairwise_cons.mpr ⟨fun z hz => ?_, h⟩
      rcases List.mem_cons.mp hz with e | e
      · rw [e]; exact q'
      · exact geS_trans q' (h1 z e)
theorem sortS_up : ∀ l, UpS (sortS l)
  | [] => .nil
  | x :: r => insS_up (sortS_up r)
theorem upS_eq {l l' : List Str} (h : UpS l) (h' : UpS l') (p : l.Perm l') : l = l' := List.Perm.eq_of_pairwise (fun a b _ _ x y => ltS_tri y x) h h' p
/-- without what comes twice -/
def nubS : List Str → List Str
  | [] => []
  | x :: r => if x ∈ nubS r then nubS r else x :: nubS r
theorem nubS_mem {k : Str} : ∀ {l}, k ∈ nubS l ↔ k ∈ l
  | [] => Iff.rfl
  | x :: r => by
    unfold nubS
    split
    · rename_i h
      rw [nubS_mem, List.mem_cons]
      exact ⟨.inr, fun z => z.elim (fun e => by rw [e]; exact nubS_mem.mp h) id⟩
    · rw [List.mem_cons, List.mem_cons, nubS_mem]
theorem nubS_nodup : ∀ l, (nubS l).Nodup
  | [] => .nil
  | x :: r => by
    unfold nubS
    split
    · exact nubS_nodup r
    · rename_i h
      exact List.nodup_cons.mpr ⟨h, nubS_nodup r⟩
/-- sorted(set(l)) -/
def sortU (l : List Str) : List Str := sortS (nubS l)
theorem sortU_mem {k : Str} {l : List Str} : k ∈ sortU l ↔ k ∈ l := by
  unfold sortU
  rw [(sortS_perm _).mem_iff, nubS_mem]
theorem sortU_nodup (l : List Str) : (sortU l).Nodup := (sortS_perm _).nodup_iff.mpr (nubS_nodup l)
theorem nodup_perm {l l' : List Str} (h : l.Nodup) (h' : l'.Nodup) (m : ∀ k, k ∈ l ↔ k ∈ l') : l.Perm l' := by
  rw [List.perm_iff_count]
  intro a
  rw [h.count, h'.count]
  by_cases q : a ∈ l
  · rw [if_pos q, if_pos ((m a).mp q)]
  · rw [if_neg q, if_neg fun z => q ((m a).mpr z)]
theorem sortU_congr {l l' : List Str} (m : ∀ k, k ∈ l ↔ k ∈ l') : sortU l = sortU l' :=
  upS_eq (sortS_up _) (sortS_up _) (nodup_perm (sortU_nodup l) (sortU_nodup l') fun k => by rw [sortU_mem, sortU_mem]; exact m k)
/-! ### the rules -/
def SetSO (w : World) (a : Addr) (M : List Str) : HO := .ext fun h => SetS w h a M
section
variable {X : Cx}
def rSetL (K : PySem.W.Frag) (w : World) : List V → Hp → VK → Prop := fun vs H Q => ∃ (l : Addr) (xs : List Str), vs = [V.ref l] ∧ SqL K H l (xs.map V.str) ∧ xs.length + 1 < scanBound ∧ ∀ p, H p = none → Q (.ref p) (upd H p (SetSO w p xs))
end
end FP
/-! FP15: sorted(set(..)), len(set(..)), sorted(..) by data; o[i]; star displays; two-clause comprehensions. -/
namespace FP
open PySem L2
variable [Tabl]
section
variable {ι : Type} {Xs : ι → Cx} {mg : Gm} {Wx : WX} {pos : Pos}
/-! ### *e among arguments and in displays -/
abbrev dStar (f : DTE) (g : DTA) : DTA := fun ρ Q E => f ρ (fun x => match x with
  | .lst xs => g ρ (fun ys => Q (xs ++ ys)) E
  | .fz xs => g ρ (fun ys => Q (xs ++ ys)) E
  | .tup xs => g ρ (fun ys => Q (xs ++ ys)) E
  | _ => False) E
theorem pa_starK {X : Cx} {K : PySem.W.Frag} {e : Expr} {es : List Expr} {te : TE} {t : TA} {p : Pos} (h : X.K = K) (he : PE X e te) (hr : PA X es t) (hs : starEach (.Starred e p :: es) X.env = (true, eval e X.env) :: starEach es X.env) : PA X (.Starred e p :: es) (StX.tStar K te t) := by
  subst h
  exact StX.pa_star he hr hs
theorem da_star {e : Expr} {es : List Expr} {f : DTE} {g : DTA} {p : Pos} (h : DE Xs mg Wx e f) (h' : DA Xs mg Wx es g) (hK : ∀ j, (Xs j).K = mg.K := by intro _; rfl) (hs : ∀ i, starEach (.Starred e p :: es) (Xs i).env = (true, eval e (Xs i).env) :: starEach es (Xs i).env := by intro _; rfl) :
    DA Xs mg Wx (.Starred e p :: es) (dStar f g) := by
  obtain ⟨t, h1, h2⟩ := h
  obtain ⟨u, g1, g2⟩ := h'
  refine ⟨_, fun i => pa_starK (hK i) (h1 i) (g1 i) (hs i), ?_⟩
  intro B ρ Q E hf W σ H Q' hh e x q
  refine h2 B ρ _ E hf W σ H _ hh e x fun W1 H1 v d s1 r1 k1 => ?_
  have fin : ∀ {xs : List V} {ds : List D}, Reps mg W1 xs ds → g ρ (fun ys => Q (ds ++ ys)) E → u σ H1 fun ys H2 => Q' (xs ++ ys) H2 := fun {xs ds} ra k => g2 B ρ _ E k W1 σ H1 _ s1.holds (e.step s1) (x.step s1) fun W2 H2 vs ds2 s2 r2 k2 => q W2 H2 _ _ (s1.trans s2) ((ra.mono s2.le).append r2) k2
  dsimp only at k1
  split at k1
  · cases r1 with
    | lst ha ra => exact ⟨_, _, rfl, .inr (SqL.of (s1.holds.same _ _ ha)), fin ra k1⟩
  · cases r1 with
    | fz ha ra => exact ⟨_, _, rfl, .inr (s1.holds.same.seq ha), fin ra k1⟩
  · cases r1 with
    | tup ha ra => exact ⟨_, _, rfl, .inl (SqT.of (s1.holds.same _ _ ha)), fin ra k1⟩
  · exact k1.elim
/-! ### o[i] of an own class -/
end
end FP
/-! FP16: comprehensions with two clauses. -/
namespace FP
open PySem L2
variable [Tabl]
section
variable {ι : Type} {Xs : ι → Cx} {mg : Gm} {Wx : WX} {pos : Pos}
theorem EnvR.mark {B : Hp} {W : Wd} {H : Hp} {σ : St} {ρ : Env} (e : EnvR mg B W H σ ρ) {A : Addr} {o : HO} (n : H A = none) : EnvR mg (upd B A o) W H σ ρ := by
  refine ⟨e.len, fun i s h => ?_, e.dis⟩
  obtain ⟨v, h1, h2⟩ := e.sl i s h
  refine ⟨v, h1, ?_⟩
  cases s with
  | no => exact True.intro
  | exc => exact h2
  | d x => exact h2
  | own xs =>
    obtain ⟨a, vs, q1, q2, q3, q4, q5, q6⟩ := h2
    exact ⟨a, vs, q1, q2, q3, q4, by rw [upd_ne (ne_of_none q2 n)]; exact q5, q6⟩
  | od xs =>
    obtain ⟨a, vs, q1, q2, q3, q4, q5, q6⟩ := h2
    exact ⟨a, vs, q1, q2, q3, q4, by rw [upd_ne (ne_of_none q2 n)]; exact q5, q6⟩
  | ob c a fs =>
    obtain ⟨vs, q1, ⟨C, dx, q0, q2⟩, q3, q4, q5, q6⟩ := h2
    exact ⟨vs, q1, ⟨C, dx, q0, q2⟩, q3, q4, by rw [upd_ne (ne_of_none q2 n)]; exact q5, q6⟩
  | ow c as fs =>
    obtain ⟨a, as', vs, q0, q1, q2, q3, q4, q5⟩ := h2
    exact ⟨a, as', vs, q0, q1, q2, q3, q4, fun b hb => by
      obtain ⟨⟨u, hu⟩, k2, k3, k4⟩ := q5 b hb
      exact ⟨⟨u, hu⟩, k2, k3, by rw [upd_ne (ne_of_none hu n)]; exact k4⟩⟩
  | o2 as x =>
    obtain ⟨a, Ls, q0, q1, q3, q4, q5⟩ := h2
    exact ⟨a, Ls, q0, q1, q3, q4, fun b hb => by
      obtain ⟨⟨u, hu⟩, k2, k3, k4⟩ := q5 b hb
      exact ⟨⟨u, hu⟩, k2, k3, by rw [upd_ne (ne_of_none hu n)]; exact k4⟩⟩
end
end FP
/-! FP17: f-strings; dicts: d[k], k in d, dict comprehensions. -/
namespace FP
open PySem L2
variable [Tabl]
section
variable {ι : Type} {Xs : ι → Cx} {mg : Gm} {Wx : WX} {pos : Pos}
/-! ### f-strings -/
/-! ### dicts -/
def keyD : D → Option Key
  | .int i => some (.inl i)
  | .str z => some (.inr z)
  | _ => none
def putKD (kvs : List (Key × D)) (k : Key) (v : D) : List (Key × D) :=
  if (kvs.any fun kv => decide (kv.1 = k)) = true then kvs.map (fun kv => if kv.1 = k then (kv.1, v) else kv) else kvs ++ [(k, v)]
theorem keyD_v {W : Wd} {x : V} {d : D} {k : Key} (r : Rep mg W x d) (h : keyD d = some k) : x = kV k := by
  cases r with
  | int i => cases h; rfl
  | str i => cases h; rfl
  | _ => cases h
theorem any_key {k : Key} : ∀ {kvs : List (Key × V)} {ds : List (Key × D)}, kvs.map (·.1) = ds.map (·.1) → (kvs.any fun kv => decide (kv.1 = k)) = (ds.any fun kv => decide (kv.1 = k))
  | [], [], _ => rfl
  | p :: kvs, q :: ds, hk => by
    obtain ⟨h1, h2⟩ := List.cons.inj hk
    have h1 : p.1 = q.1 := h1
    rw [List.any_cons, List.any_cons, h1, any_key h2]
  | [], _ :: _, hk => by cases hk
  | _ :: _, [], hk => by cases hk
theorem put_rep {W : Wd} {k : Key} {v : V} {d : D} {kvs : List (Key × V)} {ds : List (Key × D)} (hk : kvs.map (·.1) = ds.map (·.1)) (hr : Reps mg W (kvs.map (·.2)) (ds.map (·.2))) (r : Rep mg W v d) :
    (putK kvs k v).map (·.1) = (putKD ds k d).map (·.1) ∧ Reps mg W ((putK kvs k v).map (·.2)) ((putKD ds k d).map (·.2)) := by
  unfold putK putKD
  rw [any_key hk]
  split
  · rename_i hq
    clear hq
    induction kvs generalizing ds with
    | nil =>
      cases ds with
      | nil => exact ⟨rfl, .nil⟩
      | cons q ds => cases hk
    | cons p kvs ih =>
      cases ds with
      | nil => cases hk
      | cons q ds =>
        obtain ⟨h1, h2⟩ := List.cons.inj hk
        cases hr with
        | cons r1 rs =>
          obtain ⟨i1, i2⟩ := ih h2 rs
          simp only [List.map_cons]
          by_cases e : q.1 = k
          · have e' : p.1 = k := h1.trans e
            rw [if_pos e, if_pos e']
            exact ⟨by rw [i1]; exact congrArg (· :: _) h1, .cons r i2⟩
          · have e' : ¬ p.1 = k := fun z => e (h1.symm.trans z)
            rw [if_neg e, if_neg e']
            exact ⟨by rw [i1]; exact congrArg (· :: _) h1, .cons r1 i2⟩
  · rw [List.map_append, List.map_append, List.map_append, List.map_append]
    exact ⟨by rw [hk]; rfl, hr.append (.cons r .nil)⟩
end
end FP
/-! FP18: dict comprehensions. -/
namespace FP
open PySem L2
variable [Tabl]
section
variable {ι : Type} {Xs : ι → Cx} {mg : Gm} {Wx : WX} {pos : Pos}
def dcD (body : D → (Option (Key × D) → Prop) → Prop) : List D → List (Key × D) → (List (Key × D) → Prop) → Prop
  | [], acc, Q => Q acc
  | d :: ds, acc, Q => body d fun o => match o with
    | some kv => dcD body ds (putKD acc kv.1 kv.2) Q
    | none => dcD body ds acc Q
abbrev dDc (w : DTI) (T : Tg) (ft : DTT) (fk fv : DTE) (vs : List Nat) : DTE := fun ρ Q E => w ρ (fun ds => ds.length ≤ sizeLine ∧ dcD (fun d k => ∃ ρ2, T.put d (wipeD ρ vs) = some ρ2 ∧ ft ρ2 (fun b => bit b
  (fk ρ2 (fun y => fv ρ2 (fun z => ∃ kk, keyD y = some kk ∧ k (some (kk, z))) F0) F0) (k none)) F0) ds [] fun kvs => Q (.dct kvs)) E
theorem putKD_len (kvs : List (Key × D)) (k : Key) (v : D) : (putKD kvs k v).length ≤ kvs.length + 1 := by
  unfold putKD
  split
  · rw [List.length_map]; omega
  · rw [List.length_append]; exact Nat.le_refl _
theorem Rep.newDct {W : Wd} {kvs : List (Key × V)} {ds : List (Key × D)} {p : Addr} {o : Obj} (hk : kvs.map (·.1) = ds.map (·.1)) (r : Reps mg W (kvs.map (·.2)) (ds.map (·.2))) (n : W.H p = none) : Rep mg (W.put p (.frz o (.dK kvs))) (.ref p) (.dct ds) :=
  .dct (show upd W.H p _ p = _ from upd_same) hk (r.mono (Wd.le_put n))
theorem len_keys {kvs : List (Key × V)} {ds : List (Key × D)} (h : kvs.map (·.1) = ds.map (·.1)) : kvs.length = ds.length := by
  have := congrArg List.length h
  simpa using this
theorem Cp.dc {wi : TI} {g : TG} {tt : TT} {tk tv : TE} {w : DTI} {T : Tg} {ft : DTT} {fk fv : DTE} {vs : List Nat} (hi : CpI mg Wx wi w) (hg : CpG mg g T) (hv : ∀ i ∈ T.slots, i ∈ vs) (ht : CpT mg Wx0 tt ft) (hk : Cp mg Wx0 tk fk) (he : Cp mg Wx0 tv fv) : Cp mg Wx (tLk (tDc wi g tt tk tv vs)) (dDc w T ft fk fv vs) := by
  intro B ρ Q E hf W σ H Q' hh e x q
  refine hi B ρ _ E hf W σ H _ hh e x fun W1 H1 J ds s1 wk k1 => ?_
  obtain ⟨hsz, k1⟩ := k1
  intro A hA
  have e1 := e.step s1
  refine ⟨fun i m H' => m = ds.length - i ∧ i ≤ ds.length ∧ ∃ W' us acc, Step W1 H1 W' H' ∧ H' A = some (.dK us) ∧ W'.H A = none ∧ ¬ W'.T A ∧ us.map (·.1) = acc.map (·.1) ∧ Reps mg W' (us.map (·.2)) (acc.map (·.2)) ∧ acc.length ≤ i ∧ dcD _ (ds.drop i) acc (fun kvs => Q (.dct kvs)),
    ⟨ds.length, by simp, Nat.zero_le _, W1, [], [], Step.lay s1.holds hA, upd_same, s1.holds.same.free hA, s1.holds.nT hA, rfl, .nil, Nat.le_refl _, k1⟩, ?_⟩
  rintro i m H' ⟨rfl, hi, W', us, acc, s', hL, nw, nt, ks, rs, la, k'⟩
  obtain ⟨go, stop, yld⟩ := wk W' H' s'.le s'.holds
  by_cases hlt : i < ds.length
  · refine .inr ⟨go i hlt, fun H2 => ∃ W2 us2 acc2, Step W1 H1 W2 H2 ∧ H2 A = some (.dK us2) ∧ W2.H A = none ∧ ¬ W2.T A ∧ us2.map (·.1) = acc2.map (·.1) ∧ Reps mg W2 (us2.map (·.2)) (acc2.map (·.2)) ∧ acc2.length ≤ i + 1 ∧ dcD _ (ds.drop (i + 1)) acc2 (fun kvs => Q (.dct kvs)), fun H2 q => ⟨ds.length - (i + 1), by omega, rfl, hlt, q⟩, fun y H2 hy => ?_⟩
    obtain ⟨W2, d, s2, hd, r⟩ := yld i y H2 hlt hy
    have ed : ds.drop i = d :: ds.drop (i + 1) := by
      rw [List.drop_eq_getElem_cons hlt]
      have := (List.getElem?_eq_some_iff.mp hd).2
      rw [this]
    rw [ed] at k'
    obtain ⟨ρ1, p1, k2⟩ := k'
    have sA : ∀ {Wa Wb : Wd} {Ha Hb : Hp} {ws : List (Key × V)}, Step Wa Ha Wb Hb → Ha A = some (.dK ws) → Wa.H A = none → ¬ Wa.T A → Hb A = some (.dK ws) ∧ Wb.H A = none ∧ ¬ Wb.T A := fun st a1 a2 a3 => ⟨st.keep A _ a1 a3, by rw [st.fresh A _ a1]; exact a2, fun t => by
      rcases st.freshT A t with t | t
      · exact a3 t
      · rw [a1] at t
        cases t⟩
    refine hg B W2 H2 y d _ _ ρ1 _ s2.holds r ((e1.step s').step s2 |>.wipe vs) p1 fun σ3 e3 w3 => ?_
    refine ⟨(w3 vs hv).trans (wipe_wipe σ vs), ?_⟩
    refine ht B ρ1 _ _ k2 W2 σ3 H2 _ s2.holds e3 ExR.f0 fun W3 H3 b s3 k3 => ?_
    obtain ⟨b1, b2, b3⟩ := sA (s2.trans s3) hL nw nt
    cases b with
    | true =>
      rw [if_pos rfl]
      refine hk B ρ1 _ _ k3 W3 σ3 H3 _ s3.holds (e3.step s3) ExR.f0 fun W4 H4 y dy s4 r4 k4 => ?_
      refine he B ρ1 _ _ k4 W4 σ3 H4 _ s4.holds ((e3.step s3).step s4) ExR.f0 fun W5 H5 z dz s5 r5 k5 => ?_
      obtain ⟨kk, h1, k6⟩ := k5
      have ey := keyD_v r4 h1
      subst ey
      obtain ⟨c1, c2, c3⟩ := sA (s4.trans s5) b1 b2 b3
      have s15 := (s'.trans s2).trans (s3.trans (s4.trans s5))
      have rs5 := rs.mono ((s2.trans s3).trans (s4.trans s5)).le
      obtain ⟨u1, u2⟩ := put_rep (k := kk) ks rs5 r5
      refine ⟨us, kk, rfl, c1, ?_, W5, putK us kk z, putKD acc kk dz, s15.own hA c1 c2 c3, upd_same, c2, c3, u1, u2, ?_, k6⟩
      · rw [len_keys ks]
        omega
      · have := putKD_len acc kk dz
        omega
    | false =>
      rw [if_neg Bool.false_ne_true]
      exact ⟨W3, us, acc, (s'.trans s2).trans s3, b1, b2, b3, ks, rs.mono (s2.trans s3).le, by omega, k3⟩
  · have ei : i = ds.length := by omega
    subst ei
    rw [List.drop_length] at k'
    exact .inl ⟨stop, A, _, rfl, hL, True.intro, fun od => q (W'.put A (.frz od (.dK us))) _ _ _ (s1.trans ((s'.own hA hL nw nt).taken hA upd_same nw nt)) (Rep.newDct ks rs nw) k'⟩
end
end FP
/-! FP19: for x in o, where o's class has an __iter__ that returns iter(self.f), f a tuple. -/
namespace FP
open PySem L2
end FP
/-! FP20: classes as values, classmethods, cls(..). -/
namespace FP
open PySem L2
variable [Tabl]
theorem goGc {X : Cx} {k : Nat} {f : Addr} {fd : FuncData} {ps : List Str} {sp : Sp} {Ex : XK} {pins : List (Addr × Obj)} {σ : St} {H : Hp} {z : Shared} {Q : VK} {us : List Value} {vs : List V} (F : FnG X.prog X.w X.K X.mg X.base k f fd ps sp) (m : RmG k X.A) (hb : Binds X.K fd ps []) (hx : PassesAt (L2.CX X.prog X.w) X σ Ex)
    (I : Inv X pins σ H z) (rv : Vals vs us) (h : sp vs H Q Ex) : codeAny (model X.prog X.w) X.A (.call (.ref f) ⟨us, []⟩) (fun r s' => match r with | .ok (.ret v) => EP X pins σ Q v s' | .ok _ => False | .error e => X.xe e s') z := by
  have hl : (us ++ []).length = ps.length := by
    rw [List.append_nil, ← rv.length]
    exact F.ln _ _ _ _ h
  have bd := hb z us I.kIn hl
  rw [List.append_nil] at bd
  have cd := F.go X.A X.stack z H ⟨us, []⟩ us vs Q Ex m I.env0 bd rv h
  refine codeAny_mono cd ?_
  intro res z' hq
  match res, hq with
  | .error e, hq => exact hx pins H z e z' I hq
  | .ok (.ret u), hq => exact I.after hq
  | .ok .next, hq => exact hq.elim
  | .ok .brk, hq => exact hq.elim
  | .ok .cont, hq => exact hq.elim
section
variable {ι : Type} {Xs : ι → Cx} {mg : Gm} {Wx : WX} {pos : Pos}
structure CMethOk (P : Program) (w : World) (mg : Gm) (base : Heap) (k : Nat) (C : Addr) (m : Str) (n : Nat) (f : List D → M D) : Prop where
  ex : ∃ mc p g fd ps, ClX.CRead mg.K C mc ∧ ClX.CMet mg.K C mc m p g ∧ Binds mg.K fd ps [] ∧ ps.length = n ∧ FnG P w mg.K mg.mg base k g fd ps (spD mg n f)
theorem mkCMeth {P : Program} {w : World} {base : Heap} {C : Addr} {m qual : Str} {st : Stmt} {N ps : List Str} {k : Nat} {f : List D → M D} (d : ∃ mc p fa fd, ClX.CRead mg.K C mc ∧ ClX.CMet mg.K C mc m p fa ∧ Fun mg.K m qual st fa fd) (S : FnScope N ps (defScope st))
    (hb : ∀ (kV doc pm : Value) (an : Option Addr) (cdv ct : Value) (us : List Value), us.length = ps.length → bindArgs (PySem.W.fnOf m qual (defArgs st) (defBody st) (defScope st) .none kV doc pm an cdv ct) ⟨us, []⟩ = pure (ps.zip us))
    (h : ∀ (fa : Addr) (cdv : Value) (A : Around) (outer : List PySem.Env) (s : Shared) (H : Hp) (E : XK), RmG k (A.deeper (PyProof.Rows.envOfC qual (defScope st) s.heap.objs.size fa cdv)) →
      ∃ g, DSs (fun _ : Unit => cxOf (L2.CX P w) P w mg.K mg.mg base N qual (defScope st) fa cdv A outer s H E) mg (fun cls d _ H' => E cls d H') (defBody st) g ∧
        ∀ ds Q Ex, ds.length = ps.length → f ds Q Ex → g ⟨fun _ => Q .non, fun d _ => Q d, fun _ => False, fun _ => False, fun x _ => Ex x⟩ (startD N.length ds)) :
    CMethOk P w mg base (k + 1) C m ps.length f := by
  obtain ⟨mc, p, fa, fd, h1, h2, F⟩ := d
  exact ⟨mc, p, fa, fd, ps, h1, h2, F.binds hb, rfl, def_ok F S (h fa)⟩
abbrev dCMeth (c : Str) (f : List D → M D) (n : Nat) (g : DTA) : DTE := fun ρ Q E => g ρ (fun ds => ds.length + 1 = n ∧ f (.cl c :: ds) Q E) E
theorem de_cmeth {P : Program} {w : World} {base : Heap} {k n : Nat} {c m : Str} {C : Addr} {f : List D → M D} {p apos : Pos} {e : Expr} {es : List Expr} {g : DTA} {pl : ι → Sem Bool} (Fc : ClsF mg c C) (F : CMethOk P w mg base k C m n f) (hr : ∀ i, RmG k (Xs i).A) (tk : ∀ i, Pas (Xs i) Wx) (ha : DA Xs mg Wx (e :: es) g)
    (hP : HPs Xs P w mg base := by intro _; exact ⟨rfl, rfl, rfl, rfl, rfl⟩) (hg : ∀ j, Gl (Xs j) c := by intro _; rfl) (hd : (c == ("__debug__" : Str)) = false := by decide)
    (he : ∀ i, starEach (e :: es) (Xs i).env = (false, eval e (Xs i).env) :: starEach es (Xs i).env := by intro _; rfl) (hpl : ∀ i, (backTo pos (starEach es (Xs i).env)).any (·.1) = false := by intro _; rfl)
    (ht : ∀ i, eval (.Call (.Attribute (.Name c p) m apos) (e :: es) [] pos) (Xs i).env = (do
      let ov ← eval (.Name c p) (Xs i).env
      standAt apos.atName
      let (f, first) ← holding [ov] (getMethod ov m (pl i))
      callWith pos f first (backTo pos (starEach (e :: es) (Xs i).env)) (backToKw pos (keywordEach [] (Xs i).env))) := by intro _; rfl) : DE Xs mg Wx (.Call (.Attribute (.Name c p) m apos) (e :: es) [] pos) (dCMeth c f n g) := by
  obtain ⟨mc, p1, ga, fd, ps, hrd, hcm, hb, hl, G⟩ := F.ex
  obtain ⟨t, h1, h2⟩ := ha
  refine ⟨fun σ H Q => t σ H fun vs H1 => spD mg n f (.ref C :: vs) H1 Q (WE Wx σ), fun i => ?_, ?_⟩
  · obtain ⟨e1, e2, e3, e4, e5⟩ := hP i
    subst e1 e2 e5
    refine ⟨fun pins s σ H Q I h => ?_⟩
    refine PySem.W.methodCall_KW (pl := pl i) (ld_glob I (hg i) (by rw [e4]; exact Fc.nm) ?_ hd) (ht i)
    refine ClX.getmethcm_ok I (by rw [e3]; exact hrd) (by rw [e3]; exact hcm) fun s2 I2 => ?_
    refine ClX.callwith_cm I2 (ClX.base_none I (Nat.le_refl _)) (by rw [e3]; exact hcm.fi) (thn ((h1 i).run pos _ s2 σ H _ I2 h) fun us s3 ⟨vs, H2, I3, rv, q2⟩ => ⟨⟨ClX.pin_at I3, I3.kIn⟩, ?_⟩) (he i) (hpl i)
    have z := wpAny_call (PySem.W.method_call (ClX.pin_at I3) (goGc (us := .ref C :: us) (vs := .ref C :: vs) (by rw [e3, e4]; exact G) (hr i) (by rw [e3]; exact hb) (tk i σ) I3 (.cons rfl rv) q2))
    exact thn z fun _ _ y => ClX.unpinE y
  · intro B ρ Q E hf W σ H Q' hh e x q
    refine h2 B ρ _ E hf W σ H _ hh e x fun W1 H1 vs ds s1 r1 k1 => ?_
    exact ⟨W1, _, Q, E, s1.holds, .cons (.cl Fc.nm) r1, k1.1, k1.2, ToV.step q s1, fun W' H' cls dd y s' r h => x W' H' cls dd y (s1.trans s') r h⟩
/-- cls(..), the class in a local name -/
abbrev dMakeV (i : Nat) (c : Str) (f : List D → ((List (Str × D)) → Prop) → (XD → Prop) → Prop) (n : Nat) (g : DTA) : DTE := fun ρ Q E => ρ[i]? = some (.d (.cl c)) ∧ g ρ (fun ds => ds.length = n ∧ f ds (fun fs => Q (.ins c fs)) E) E
theorem de_makeV (i0 : Nat) {P : Program} {w : World} {base : Heap} {k n : Nat} {c x : Str} {C : Addr} {f : List D → ((List (Str × D)) → Prop) → (XD → Prop) → Prop} {p : Pos} {e : Expr} {es : List Expr} {g : DTA} (Fc : ClsF mg c C) (F : InitOk P w mg base k c C n f) (hr : ∀ i, RmG (k + 1) (Xs i).A) (tk : ∀ i, Pas (Xs i) Wx) (ha : DA Xs mg Wx (e :: es) g)
    (hP : HPs Xs P w mg base := by intro _; exact ⟨rfl, rfl, rfl, rfl, rfl⟩) (hN : ∀ j, (Xs j).N[i0]? = some x := by intro _; rfl)
    (hv : ∀ j, Vis (Xs j).env.scope x := by intro _; first | exact Or.inl rfl | exact Or.inr (Or.inl rfl) | exact Or.inr (Or.inr rfl)) (hd : (x == ("__debug__" : Str)) = false := by decide) (hcd : (x == ("__classdict__" : Str)) = false := by decide)
    (he : ∀ i, starEach (e :: es) (Xs i).env = (false, eval e (Xs i).env) :: starEach es (Xs i).env := by intro _; rfl) (hpl : ∀ i, (backTo pos (starEach es (Xs i).env)).any (·.1) = false := by intro _; rfl) : DE Xs mg Wx (.Call (.Name x p) (e :: es) [] pos) (dMakeV i0 c f n g) := by
  obtain ⟨fa, fd, ps, M, hb, hl, G⟩ := F.ex
  obtain ⟨t, h1, h2⟩ := ha
  refine ⟨fun σ H Q => σ[i0]? = some (some (.ref C)) ∧ t σ H fun vs H1 => ∀ x dx, H1 x = none → H1 dx = none → dx ≠ x → spI mg c C n f (.ref x :: vs) (upd (upd H1 dx (.own x)) x (.ins C dx [])) (fun v H2 => v = .non ∧ Q (.ref x) H2) (WE Wx σ), fun i => ?_, ?_⟩
  · obtain ⟨p1, p2, p3, p4, p5⟩ := hP i
    subst p1 p2 p5
    constructor
    intro pins z σ H Q I hw
    obtain ⟨hs, hw⟩ := hw
    refine wpAny_Call_Name_kw (thn ((pe_var (pos := p) (i := i0) (hN i) (hv i) hd hcd).run pins z σ H (fun v H1 => v = .ref C ∧ H1 = H) I ⟨.ref C, hs, rfl, rfl⟩) fun u s1 ⟨v, H1, I1, r1, ev, eH⟩ => ?_)
    subst ev
    rw [eH] at I1
    cases r1
    apply PySem.W.callWith_K (h₀ := (Xs i).base) I.ok.mod.kin (by rw [p3]; exact M.kp) _ (he i) (hpl i)
    refine thn ((h1 i).run pos pins s1 σ H _ I1 hw) ?_
    rintro us z1 ⟨vs, H2, I2, rv, q⟩
    exact ⟨I2.kIn, makeG (by rw [p3]; exact M) (by rw [p3, p4]; exact G) (hr i) (by rw [p3]; exact hb) (tk i σ) I2 rv q⟩
  · intro B ρ Q E hf W σ H Q' hh e x q
    obtain ⟨hs, hf⟩ := hf
    obtain ⟨o, g1, v, g2, g3⟩ := e.sl i0 _ hs
    subst g2
    cases g3 with
    | @cl C' _ hc =>
      have ec := Fc.eq hc
      subst ec
      refine ⟨g1, h2 B ρ _ E hf W σ H _ hh e x fun W1 H1 vs ds s1 r1 k1 => ?_⟩
      intro a dx na ndx ne
      refine ⟨W1, ds, vs, H1, a, dx, _, E, rfl, na, ndx, ne, rfl, s1.holds, r1, k1.1, k1.2, fun W' H' gs fs dy s' ha' nw nt hk rs hq => ⟨rfl, ?_⟩, fun W' H' cls dd y s' r h => x W' H' cls dd y (s1.trans s') r h⟩
      have st := s'.taken na ha' nw nt
      exact q _ _ _ _ (s1.trans st) (.ins Fc.nm (show upd W'.H a _ a = _ from upd_same) hk (rs.mono (Wd.le_put nw))) hq
end
end FP
/-! FP21: raise X('..'); try .. except X. -/
namespace FP
open PySem L2
variable [Tabl]
section
variable {ι : Type} {Xs : ι → Cx} {mg : Gm} {Wx : WX} {pos : Pos}
abbrev dRaise (x : Str) : DTS := fun N ρ => N.rs ⟨x, []⟩ ρ
/-- an own exception without own __init__ -/
structure ExcF (mg : Gm) (x : Str) (C : Addr) (bmB : List Value) (newId : String) : Prop where
  nm : mg.mg x = some (.ref C)
  ei : PySem.W.excIn mg.K C bmB newId = true
  kp : PySem.W.keepIn mg.K (.ref C) = true
  sb : PySem.W.subIn mg.K (.ref C) (.type "BaseException") = some true
  ty : PySem.W.typeIn mg.K (.ref C) = some (.type "type")
theorem ds_raise {x m : Str} {C : Addr} {bmB : List Value} {B newId initId : String} {j : Nat} {p p2 q : Pos} (F : ExcBaseFacts B newId initId bmB) (X : ExcF mg x C bmB newId) (tk : ∀ i, Takes (Xs i) Wx) (hK : ∀ j, (Xs j).K = mg.K := by intro _; rfl) (hM : ∀ j, (Xs j).mg = mg.mg := by intro _; rfl)
    (hc : ∀ j, (Xs j).calm = true := by intro _; rfl) (hg : ∀ j, Gl (Xs j) x := by intro _; rfl) (hdb : (x == ("__debug__" : Str)) = false := by decide) : DS Xs mg Wx (.Raise (some (.Call (.Name x p) [.Constant (.str m) j p2] [] q)) none pos) (dRaise x) := by
  refine ⟨fun _ σ H => Wx (.ref C) none σ H, fun i => ?_, fun W0 B N ρ hf W σ H Ds s e n => ?_⟩
  · have z := ps_raise (pos := pos) (hc i) (tk i) (pmk_own (m := m) (j := j) (p := p) (p2 := p2) (pos := q) (X := Xs i) F (by rw [hK i]; exact X.ei) (by rw [hM i]; exact X.nm) (by rw [hK i]; exact X.kp) (raises_own (by rw [hK i]; exact X.sb) (by rw [hK i]; exact X.ty)) (hg i) hdb)
    exact z
  · exact n.rs W H σ ρ _ _ _ s e ⟨C, X.nm, rfl, .inl ⟨rfl, rfl⟩⟩ hf
/-- which of the errors cs the clause takes -/
structure CatF (mg : Gm) (c : Value) (cs : List Str) (yes : Str → Bool) : Prop where
  cl : ∀ x ∈ cs, ∃ C, mg.mg x = some (.ref C) ∧ PySem.W.exmOne mg.K (.ref C) c = some (yes x)
abbrev trI (Xs : ι → Cx) (W : WX) : Type := { j : ι × List (Addr × Obj) × (Value → Shared → Prop) // Takes ((Xs j.1).tr j.2.1 j.2.2) W ∧ PassesOwn (model (Xs j.1).prog (Xs j.1).w) (Xs j.1).A (Xs j.1).env j.2.2 }
abbrev trF (Xs : ι → Cx) (W : WX) : trI Xs W → Cx := fun j => (Xs j.1.1).tr j.1.2.1 j.1.2.2
end
end FP
/-! FP22: owned objects: a pure expression reads one as data (view). -/
namespace FP
open PySem L2
variable [Tabl]
def OF.toD : OF → D
  | .d x => x
  | .l xs => .lst xs
  | .ll xss => .lst (xss.map .lst)
def toDs (fs : List (Str × OF)) : List (Str × D) := fs.map fun p => (p.1, p.2.toD)
def plainD : D → Bool
  | .non => true
  | .bl _ => true
  | .int _ => true
  | .str _ => true
  | _ => false
theorem Rep.flat {mg : Gm} {W W' : Wd} {v : V} {d : D} (r : Rep mg W v d) (h : plainD d = true) : Rep mg W' v d := by
  cases r with
  | non => exact .non
  | bl b => exact .bl b
  | int b => exact .int b
  | str b => exact .str b
  | _ => cases h
/-- the world with some addresses as they stand -/
def Wd.seen (W : Wd) (H : Hp) (as : List Addr) : Wd := { W with H := fun b => if b ∈ as then H b else W.H b }
def Wd.cut (W : Wd) (as : List Addr) : Wd := { W with H := fun b => if b ∈ as then none else W.H b }
section
variable {mg : Gm} {B : Hp} {W W' : Wd} {H H' : Hp} {σ : St} {ρ : Env} {as : List Addr}
theorem seen_le (k : ∀ b ∈ as, W.H b = none) : Le W (W.seen H as) := ⟨fun b o e => by
  show (if b ∈ as then H b else W.H b) = some o
  by_cases q : b ∈ as
  · rw [k b q] at e
    cases e
  · rw [if_neg q]
    exact e, fun _ t => t, fun _ t => t⟩
theorem seen_holds (h : Holds W H) (k : ∀ b ∈ as, ¬ W.T b) : Holds (W.seen H as) H := ⟨fun b o e => by
  have e : (if b ∈ as then H b else W.H b) = some o := e
  by_cases q : b ∈ as
  · rw [if_pos q] at e
    exact e
  · rw [if_neg q] at e
    exact h.same b o e, fun a t => by
  obtain ⟨h1, h2⟩ := h.exm a t
  refine ⟨?_, h2⟩
  show (if a ∈ as then H a else W.H a) = none
  rw [if_neg fun q => k a q t]
  exact h1, h.tok, h.tab, h.all⟩
theorem seen_step {W1 : Wd} {H1 : Hp} (s : Step (W.seen H as) H W1 H1) (k : ∀ b ∈ as, W.H b = none) : Step W H (W1.cut as) H1 := by
  refine ⟨⟨fun b o e => ?_, s.le.t, s.le.dc⟩, ⟨fun b o e => ?_, fun a t => ?_, s.holds.tok, s.holds.tab, s.holds.all⟩, s.keep, fun b o e => ?_, s.freshT, s.live⟩
  · show (if b ∈ as then none else W1.H b) = some o
    have q : b ∉ as := fun q => by rw [k b q] at e; cases e
    rw [if_neg q]
    exact s.le.h b o ((seen_le k).h b o e)
  · have e : (if b ∈ as then none else W1.H b) = some o := e
    by_cases q : b ∈ as
    · rw [if_pos q] at e
      cases e
    · rw [if_neg q] at e
      exact s.holds.same b o e
  · obtain ⟨h1, h2⟩ := s.holds.exm a t
    refine ⟨?_, h2⟩
    show (if a ∈ as then none else W1.H a) = none
    by_cases q : a ∈ as
    · rw [if_pos q]
    · rw [if_neg q]
      exact h1
  · show (if b ∈ as then none else W1.H b) = W.H b
    by_cases q : b ∈ as
    · rw [if_pos q, k b q]
    · rw [if_neg q, s.fresh b o e]
      show (if b ∈ as then H b else W.H b) = W.H b
      rw [if_neg q]
theorem seen_in {b : Addr} (h : b ∈ as) : (W.seen H as).H b = H b := if_pos h
theorem Reps.lsts {W : Wd} : ∀ {Ls : List Addr} {xss : List (List D)}, Ls.length = xss.length → (∀ (i : Nat) (l : Addr) (xs : List D), Ls[i]? = some l → xss[i]? = some xs → ∃ vs, W.H l = some (.lst vs) ∧ Reps mg W vs xs) → Reps mg W (Ls.map V.ref) (xss.map D.lst)
  | [], [], _, _ => .nil
  | L :: Ls, xs :: xss, hl, h => by
    obtain ⟨vs, h1, h2⟩ := h 0 L xs rfl rfl
    exact .cons (.lst h1 h2) (Reps.lsts (by simpa using hl) fun i l ys q1 q2 => h (i + 1) l ys q1 q2)
  | [], _ :: _, hl, _ => by cases hl
  | _ :: _, [], hl, _ => by cases hl
theorem OFR.rep {v : V} {x : OF} {bs : List Addr} (h : OFR mg W H v x bs) (l : Le W (W.seen H as)) (k : ∀ b ∈ bs, b ∈ as) : Rep mg (W.seen H as) v x.toD := by
  cases x with
  | d x => exact h.2.mono l
  | l xs =>
    obtain ⟨L, vs, rfl, rfl, h3, h4⟩ := h
    exact .lst (by rw [seen_in (k L (by simp))]; exact h3) (h4.mono l)
  | ll xss =>
    obtain ⟨L, Ls, rfl, rfl, h3, h4, h5⟩ := h
    refine .lst (by rw [seen_in (k L (by simp))]; exact h3) (Reps.lsts h4 fun i b xs q1 q2 => ?_)
    obtain ⟨vs, g1, g2⟩ := h5 i b xs q1 q2
    exact ⟨vs, by rw [seen_in (k b (List.mem_cons_of_mem _ (List.mem_of_getElem? q1)))]; exact g1, g2.mono l⟩
theorem OFs.rep (l : Le W (W.seen H as)) : ∀ {vs : List (Str × V)} {fs : List (Str × OF)} {bs : List Addr}, OFs mg W H vs fs bs → (∀ b ∈ bs, b ∈ as) → vs.map (·.1) = (toDs fs).map (·.1) ∧ Reps mg (W.seen H as) (vs.map (·.2)) ((toDs fs).map (·.2))
  | [], [], _, _, _ => ⟨rfl, .nil⟩
  | (f, v) :: vs, (g, x) :: fs, _, ⟨e, as1, as2, rfl, h1, h2⟩, k => by
    obtain ⟨i1, i2⟩ := OFs.rep l h2 fun b hb => k b (List.mem_append_right _ hb)
    refine ⟨?_, .cons (h1.rep l fun b hb => k b (List.mem_append_left _ hb)) i2⟩
    show f :: vs.map (·.1) = g :: (toDs fs).map (·.1)
    rw [e, i1]
  | [], _ :: _, _, h, _ => h.elim
  | _ :: _, [], _, h, _ => h.elim
/-- the environment seen -/
theorem EnvR.seen (e : EnvR mg B W H σ ρ) {i : Nat} {c : Str} {fs : List (Str × OF)} (hi : ρ[i]? = some (.ow c as fs)) :
    (∀ b ∈ as, W.H b = none ∧ ¬ W.T b) ∧ EnvR mg B (W.seen H as) H σ (ρ.set i (.d (.ins c (toDs fs)))) := by
  obtain ⟨o, h1, a, as', vs, ea, ho, ⟨C, dx, hc, h2⟩, h3, h4, h5⟩ := e.sl i _ hi
  have k : ∀ b ∈ as, W.H b = none ∧ ¬ W.T b := fun b hb => ⟨(h5 b hb).2.1, (h5 b hb).2.2.1⟩
  have l := seen_le (W := W) (H := H) fun b hb => (k b hb).1
  refine ⟨k, by simpa using e.len, fun j sl hj => ?_, fun j m s1 s2 o1 o2 b hjk q1 q2 q3 q4 m1 m2 => ?_⟩
  · rcases get_set hj with ⟨rfl, rfl⟩ | ⟨nj, hj⟩
    · obtain ⟨g1, g2⟩ := OFs.rep (as := as) l h3 fun b hb => by rw [ea]; exact List.mem_cons_of_mem _ hb
      exact ⟨o, h1, _, ho, .ins hc (by rw [seen_in (by rw [ea]; exact List.mem_cons_self)]; exact h2) g1 g2⟩
    · obtain ⟨o', g1, g2⟩ := e.sl j sl hj
      refine ⟨o', g1, g2.keep l fun b hb u h5 h6 h7 => ⟨h5, ?_, h7⟩⟩
      show (if b ∈ as then H b else W.H b) = none
      have nb : b ∉ as := fun q => e.dis i j _ sl o o' b nj hi hj h1 g1 q hb
      rw [if_neg nb]
      exact h6
  · rcases get_set q1 with ⟨_, z⟩ | ⟨n1, q1⟩
    · rw [← z] at m1
      cases m1
    · rcases get_set q2 with ⟨_, z⟩ | ⟨n2, q2⟩
      · rw [← z] at m2
        cases m2
      · exact e.dis j m s1 s2 o1 o2 b hjk q1 q2 q3 q4 m1 m2
end
section
variable {ι : Type} {Xs : ι → Cx} {mg : Gm} {Wx : WX} {pos : Pos}
abbrev dView (i : Nat) (f : DTE) : DTE := fun ρ Q _ => match ρ[i]? with
  | some (.ow c _ fs) => f (ρ.set i (.d (.ins c (toDs fs)))) (fun d => plainD d = true ∧ Q d) F0
  | _ => False
abbrev dViewT (i : Nat) (f : DTT) : DTT := fun ρ Q _ => match ρ[i]? with
  | some (.ow c _ fs) => f (ρ.set i (.d (.ins c (toDs fs)))) Q F0
  | _ => False
theorem de_view (i : Nat) {e : Expr} {f : DTE} (h : DE Xs mg Wx e f) : DE Xs mg Wx e (dView i f) := by
  obtain ⟨t, h1, h2⟩ := h
  refine ⟨t, h1, fun B ρ Q E hf W σ H Q' hh e x q => ?_⟩
  unfold dView at hf
  split at hf
  · rename_i c as fs hi
    obtain ⟨k, e1⟩ := e.seen hi
    refine h2 B _ _ _ hf _ σ H _ (seen_holds hh fun b hb => (k b hb).2) e1 ExR.f0 fun W1 H1 v d s1 r1 k1 => ?_
    exact q _ H1 v d (seen_step s1 fun b hb => (k b hb).1) (r1.flat k1.1) k1.2
  · exact hf.elim
theorem dt_view (i : Nat) {e : Expr} {f : DTT} (h : DT Xs mg Wx e f) : DT Xs mg Wx e (dViewT i f) := by
  obtain ⟨t, h1, h2⟩ := h
  refine ⟨t, h1, fun B ρ Q E hf W σ H Q' hh e x q => ?_⟩
  unfold dViewT at hf
  split at hf
  · rename_i c as fs hi
    obtain ⟨k, e1⟩ := e.seen hi
    refine h2 B _ _ _ hf _ σ H _ (seen_holds hh fun b hb => (k b hb).2) e1 ExR.f0 fun W1 H1 b s1 k1 => ?_
    exact q _ H1 b (seen_step s1 fun b hb => (k b hb).1) k1
  · exact hf.elim
end
end FP
/-! FP23: owned objects: what changes them. -/
namespace FP
open PySem L2
variable [Tabl]
def putO (f : Str) (x : OF) : List (Str × OF) → List (Str × OF)
  | [] => []
  | (g, y) :: r => if f == g then (g, x) :: r else (g, y) :: putO f x r
section
variable {mg : Gm} {B : Hp} {W : Wd} {H : Hp} {σ : St} {ρ : Env} {as : List Addr}
/-- a field is found; another thing is put in its place, its address kept -/
theorem OFs.get {f : Str} {x : OF} : ∀ {vs : List (Str × V)} {fs : List (Str × OF)} {as : List Addr}, OFs mg W H vs fs as → fs.lookup f = some x → as.Nodup →
    ∃ v pre bs post, vs.lookup f = some v ∧ as = pre ++ (bs ++ post) ∧ OFR mg W H v x bs ∧
      ∀ x' bs' H', (∀ b u, H b = some u → b ∉ bs → H' b = some u) → OFR mg W H' v x' bs' → OFs mg W H' vs (putO f x' fs) (pre ++ (bs' ++ post))
  | [], [], _, _, hl, _ => by cases hl
  | (g, v) :: vs, (g', y) :: fs, as, ⟨e, as1, as2, ea, h1, h2⟩, hl, nd => by
    subst e
    rw [List.lookup_cons] at hl
    rw [List.lookup_cons]
    rw [ea] at nd
    by_cases q : (f == g) = true
    · rw [q] at hl ⊢
      cases hl
      refine ⟨v, [], as1, as2, rfl, ea, h1, fun x' bs' H' hH r => ?_⟩
      have ep : putO f x' ((g, x) :: fs) = (g, x') :: fs := by
        show (if (f == g) = true then _ else _) = _
        rw [if_pos q]
      rw [ep]
      refine ⟨rfl, bs', as2, rfl, r, h2.keep (Le.refl W) fun b hb u hu => hH b u hu fun z => ?_⟩
      exact (List.nodup_append.mp nd).2.2 b z b hb rfl
    · have q : (f == g) = false := by simpa using q
      rw [q] at hl ⊢
      obtain ⟨w, pre, bs, post, g1, g2, g3, g4⟩ := OFs.get h2 hl (List.nodup_append.mp nd).2.1
      refine ⟨w, as1 ++ pre, bs, post, g1, by rw [ea, g2, List.append_assoc], g3, fun x' bs' H' hH r => ?_⟩
      have ep : putO f x' ((g, y) :: fs) = (g, y) :: putO f x' fs := by
        show (if (f == g) = true then _ else _) = _
        rw [q, if_neg Bool.false_ne_true]
      rw [ep, List.append_assoc]
      refine ⟨rfl, as1, _, rfl, h1.keep (Le.refl W) fun b hb u hu => hH b u hu fun z => ?_, g4 x' bs' H' hH r⟩
      exact (List.nodup_append.mp nd).2.2 b hb b (by rw [g2]; exact List.mem_append_right _ (List.mem_append_left _ z)) rfl
  | [], _ :: _, _, h, _, _ => h.elim
  | _ :: _, [], _, h, _, _ => h.elim
/-- an owned object's field, and how it may be changed -/
theorem EnvR.field (e : EnvR mg B W H σ ρ) (hh : Holds W H) {i : Nat} {c f : Str} {fs : List (Str × OF)} {x : OF} (hi : ρ[i]? = some (.ow c as fs)) (hf : fs.lookup f = some x) :
    ∃ a C dx vs v pre bs post, σ[i]? = some (some (.ref a)) ∧ mg.mg c = some (.ref C) ∧ H a = some (.ins C dx vs) ∧ vs.lookup f = some v ∧ as = a :: (pre ++ (bs ++ post)) ∧ OFR mg W H v x bs ∧ a ∉ bs ∧ (∀ b ∈ bs, (∃ u, H b = some u) ∧ W.H b = none ∧ ¬ W.T b ∧ B b = none) ∧
      ∀ x' bs' H', (∀ b u, H b = some u → b ∉ bs → H' b = some u) → (∀ b ∈ bs', (∃ u, H' b = some u) ∧ (b ∈ bs ∨ H b = none ∧ B b = none)) → bs'.Nodup → OFR mg W H' v x' bs' →
        EnvR mg B W H' σ (ρ.set i (.ow c (a :: (pre ++ (bs' ++ post))) (putO f x' fs))) := by
  obtain ⟨o, h1, a, as', vs, ea, ho, ⟨C, dx, hc, h2⟩, h3, h4, h5⟩ := e.sl i _ hi
  subst ho
  have nd : as'.Nodup := by rw [ea] at h4; exact (List.nodup_cons.mp h4).2
  have na : a ∉ as' := by rw [ea] at h4; exact (List.nodup_cons.mp h4).1
  obtain ⟨v, pre, bs, post, g1, g2, g3, g4⟩ := OFs.get h3 hf nd
  have inA : ∀ b ∈ pre ++ (bs ++ post), b ∈ as := fun b hb => by rw [ea, g2]; exact List.mem_cons_of_mem _ hb
  have nab : a ∉ bs := fun z => na (by rw [g2]; exact List.mem_append_right _ (List.mem_append_left _ z))
  refine ⟨a, C, dx, vs, v, pre, bs, post, h1, hc, h2, g1, by rw [ea, g2], g3, nab, fun b hb => h5 b (inA b (List.mem_append_right _ (List.mem_append_left _ hb))), fun x' bs' H' hH hb' nd' r => ?_⟩
  rw [g2] at nd na
  obtain ⟨n1, n2, n3⟩ := List.nodup_append.mp nd
  obtain ⟨n4, n5, n6⟩ := List.nodup_append.mp n2
  have mem : ∀ b, b ∈ pre ++ (bs' ++ post) → b ∈ pre ∨ b ∈ bs' ∨ b ∈ post := fun b hb => by
    rcases List.mem_append.mp hb with z | z
    · exact .inl z
    · exact .inr (List.mem_append.mp z)
  have old : ∀ b, b ∈ pre ∨ b ∈ post → b ∈ as ∧ b ∉ bs := fun b hb => by
    rcases hb with z | z
    · exact ⟨inA b (List.mem_append_left _ z), fun y => n3 b z b (List.mem_append_left _ y) rfl⟩
    · exact ⟨inA b (List.mem_append_right _ (List.mem_append_right _ z)), fun y => n6 b y b z rfl⟩
  have dis' : ∀ b, b ∈ bs' → b ∈ as → b ∈ bs := fun b hb ha => by
    rcases (hb' b hb).2 with z | z
    · exact z
    · obtain ⟨⟨u, hu⟩, _⟩ := h5 b ha
      rw [z.1] at hu
      cases hu
  have aas : a ∈ as := by rw [ea]; exact List.mem_cons_self
  have keepA : ∀ b, b ∈ as → b ∉ bs → ∃ u, H' b = some u := fun b hb nb => by
    obtain ⟨⟨u, hu⟩, _⟩ := h5 b hb
    exact ⟨u, hH b u hu nb⟩
  refine e.turns hi h1 (fun b u hu nb => hH b u hu fun z => nb (inA b (List.mem_append_right _ (List.mem_append_left _ z)))) ?_ ?_
  · intro b hb
    rcases List.mem_cons.mp hb with z | z
    · exact .inl (by rw [z]; exact aas)
    · rcases mem b z with z | z | z
      · exact .inl (old b (.inl z)).1
      · rcases (hb' b z).2 with y | y
        · exact .inl (inA b (List.mem_append_right _ (List.mem_append_left _ y)))
        · exact .inr y.1
      · exact .inl (old b (.inr z)).1
  · refine ⟨a, _, vs, rfl, rfl, ⟨C, dx, hc, hH a _ h2 nab⟩, g4 x' bs' H' hH r, ?_, fun b hb => ?_⟩
    · refine List.nodup_cons.mpr ⟨fun z => ?_, List.nodup_append.mpr ⟨n1, List.nodup_append.mpr ⟨nd', n5, fun b hb b' hb' q => ?_⟩, fun b hb b' hb' q => ?_⟩⟩
      · rcases mem a z with z | z | z
        · exact na (List.mem_append_left _ z)
        · exact nab (dis' a z aas)
        · exact na (List.mem_append_right _ (List.mem_append_right _ z))
      · subst q
        exact (old b (.inr hb')).2 (dis' b hb (old b (.inr hb')).1)
      · subst q
        rcases List.mem_append.mp hb' with z | z
        · exact (old b (.inl hb)).2 (dis' b z (old b (.inl hb)).1)
        · exact n3 b hb b (List.mem_append_right _ z) rfl
    · have fin : ∀ b, b ∈ as → b ∉ bs → (∃ u, H' b = some u) ∧ W.H b = none ∧ ¬ W.T b ∧ B b = none := fun b hb nb => ⟨keepA b hb nb, (h5 b hb).2⟩
      rcases List.mem_cons.mp hb with z | z
      · rw [z]
        exact fin a aas nab
      · rcases mem b z with z | z | z
        · exact fin b (old b (.inl z)).1 (old b (.inl z)).2
        · refine ⟨(hb' b z).1, ?_⟩
          rcases (hb' b z).2 with y | y
          · exact (h5 b (inA b (List.mem_append_right _ (List.mem_append_left _ y)))).2
          · exact ⟨hh.same.free y.1, hh.nT y.1, y.2⟩
        · exact fin b (old b (.inr z)).1 (old b (.inr z)).2
end
section
variable {ι : Type} {Xs : ι → Cx} {mg : Gm} {Wx : WX} {pos : Pos}
/-- x.f.append(e), f an owned list of the owned object x -/
abbrev dOwApp (i : Nat) (c f : Str) (g : DTE) : DTS := fun N ρ => match ρ[i]? with
  | some (.ow c' as fs) => c' = c ∧ ∃ xs, fs.lookup f = some (.l xs) ∧ g ρ (fun d => xs.length < sizeLine ∧ N.nx (ρ.set i (.ow c as (putO f (.l (xs ++ [d])) fs)))) (fun x => N.rs x ρ)
  | _ => False
theorem ds_owApp (i : Nat) {c f x : Str} {C : Addr} {e : Expr} {g : DTE} {st : Stmt} (F : ClsF mg c C) (na : NoAttr mg.K C f) (h : DE Xs mg Wx e g)
    (pe : ∀ j t, PE (Xs j) e t → PS (Xs j) st (tDrop (tBM (Xs j).K "list" rAppend (tFld (Xs j).K (tVar i) f) (tCons t tNil)))) (hK : ∀ j, (Xs j).K = mg.K := by intro _; rfl) : DS Xs mg Wx st (dOwApp i c f g) := by
  obtain ⟨t, h1, h2⟩ := h
  refine ⟨tDrop (tBM mg.K "list" rAppend (tFld mg.K (tVar i) f) (tCons t tNil)), fun j => by rw [← hK j]; exact pe j t (h1 j), fun W0 B N ρ hf W σ H Ds s e n => ?_⟩
  unfold dOwApp at hf
  split at hf
  · rename_i c' as fs hi
    obtain ⟨rfl, xs, hl, hf⟩ := hf
    obtain ⟨a, C', dx, vs, v, pre, bs, post, q1, q2, q3, q4, q5, ⟨L, us, rfl, rfl, q7, q8⟩, q9, q10, _⟩ := e.field s.holds hi hl
    have ec := F.eq q2
    subst ec
    refine ⟨.ref a, q1, a, C', dx, vs, .ref L, rfl, q3, F.cl, na, q4, .inl ⟨rfl, _, SqL.of q7⟩, ?_⟩
    refine h2 B ρ _ _ hf W σ H _ s.holds e (n.ex s e) fun W1 H1 y d s1 r1 k1 => ?_
    have e1 := e.step s1
    obtain ⟨a2, C2, dx2, vs2, v2, pre2, bs2, post2, p1, p2, p3, p4, p5, ⟨L2, us2, rfl, rfl, p7, p8⟩, p9, p10, p11⟩ := e1.field s1.holds hi hl
    rw [q1] at p1
    cases p1
    have ha := (e.sl i _ hi)
    have hka : H1 a = some (.ins C' dx vs) := by
      obtain ⟨o, g1, g2⟩ := ha
      obtain ⟨u, _, g3, g4, _⟩ := g2.at (a := a) (by rw [q5]; exact List.mem_cons_self)
      exact s1.keep a _ q3 g4
    rw [hka] at p3
    cases p3
    rw [q4] at p4
    cases p4
    refine ⟨L, us2, y, rfl, rfl, p7, by rw [p8.length]; exact k1.1, ?_⟩
    obtain ⟨_, g3, g4, g6⟩ := p10 L (List.mem_singleton.mpr rfl)
    have e2 := p11 (.l (xs ++ [d])) [L] (upd H1 L (.lst (us2 ++ [y]))) (fun b u hb nb => by
      have ne : b ≠ L := fun z => nb (by rw [z]; exact List.mem_singleton.mpr rfl)
      rw [upd_ne ne]
      exact hb) (fun b hb => by
      obtain rfl := List.mem_singleton.mp hb
      exact ⟨⟨_, upd_same⟩, .inl hb⟩) (by simp) ⟨L, _, rfl, rfl, upd_same, p8.snoc r1⟩
    rw [← p5] at e2
    exact n.nx W1 _ σ _ ((s.trans s1).own g6 p7 g3 g4) e2 k1.2
  · exact hf.elim
end
end FP
/-! FP24: owned objects: fields stored. -/
namespace FP
open PySem L2
variable [Tabl]
/-- a field is put, at the end if it is new -/
def setO (f : Str) (x : OF) : List (Str × OF) → List (Str × OF)
  | [] => [(f, x)]
  | (g, y) :: r => if g = f then (f, x) :: r else (g, y) :: setO f x r
section
variable {mg : Gm} {B : Hp} {W : Wd} {H : Hp} {σ : St} {ρ : Env} {as : List Addr}
theorem OFs.length : ∀ {vs : List (Str × V)} {fs : List (Str × OF)} {as : List Addr}, OFs mg W H vs fs as → vs.length = fs.length
  | [], [], _, _ => rfl
  | _ :: _, _ :: _, _, ⟨_, _, _, _, _, h⟩ => congrArg (· + 1) (OFs.length h)
  | [], _ :: _, _, h => h.elim
  | _ :: _, [], _, h => h.elim
/-- a datum's field may be stored -/
def datF (f : Str) (fs : List (Str × OF)) : Bool := match fs.lookup f with
  | none => true
  | some (.d _) => true
  | _ => false
theorem OFs.put {f : Str} {v : V} {d : D} (r : Rep mg W v d) : ∀ {vs : List (Str × V)} {fs : List (Str × OF)} {as : List Addr}, OFs mg W H vs fs as → datF f fs = true → OFs mg W H (putF f v vs) (setO f (.d d) fs) as
  | [], [], as, h, _ => by
    have h : as = [] := h
    subst h
    exact ⟨rfl, [], [], rfl, ⟨rfl, r⟩, rfl⟩
  | (g, w) :: vs, (g', y) :: fs, as, ⟨e, as1, as2, ea, h1, h2⟩, hd => by
    subst e
    unfold putF setO
    by_cases q : g = f
    · rw [if_pos q, if_pos q]
      have hy : ∃ d0, y = .d d0 := by
        unfold datF at hd
        rw [List.lookup_cons, show (f == g) = true from by rw [q]; exact beq_self_eq_true f] at hd
        cases y with
        | d d0 => exact ⟨d0, rfl⟩
        | l _ => cases hd
        | ll _ => cases hd
      obtain ⟨d0, rfl⟩ := hy
      obtain ⟨z, _⟩ := h1
      subst z
      exact ⟨q, [], as2, ea, ⟨rfl, r⟩, h2⟩
    · rw [if_neg q, if_neg q]
      refine ⟨rfl, as1, as2, ea, h1, OFs.put r h2 ?_⟩
      unfold datF at hd ⊢
      rw [List.lookup_cons, show (f == g) = false from by simpa using fun z => q z.symm] at hd
      exact hd
  | [], _ :: _, _, h, _ => h.elim
  | _ :: _, [], _, h, _ => h.elim
end
section
variable {ι : Type} {Xs : ι → Cx} {mg : Gm} {Wx : WX} {pos : Pos}
abbrev dOwSet (i : Nat) (c f : Str) (g : DTE) : DTS := fun N ρ => g ρ (fun d => match ρ[i]? with
  | some (.ow c' as fs) => c' = c ∧ fs.length < 1000 ∧ datF f fs = true ∧ N.nx (ρ.set i (.ow c as (setO f (.d d) fs)))
  | _ => False) (fun x => N.rs x ρ)
theorem ds_owSet (i : Nat) {c x f : Str} {C : Addr} {p p' : Pos} {e : Expr} {g : DTE} (F : ClsF mg c C) (na : NoAttr mg.K C f) (h : DE Xs mg Wx e g) (hK : ∀ j, (Xs j).K = mg.K := by intro _; rfl) (hN : ∀ j, (Xs j).N[i]? = some x := by intro _; rfl)
    (hv : ∀ j, Vis (Xs j).env.scope x := by intro _; first | exact Or.inl rfl | exact Or.inr (Or.inl rfl) | exact Or.inr (Or.inr rfl)) (hd : (x == ("__debug__" : Str)) = false := by decide) (hcd : (x == ("__classdict__" : Str)) = false := by decide)
    (hs : ∀ j, swapsWith e (some (.Attribute (.Name x p) f p')) pos.line (Xs j).env = pure false := by intro _; rfl) : DS Xs mg Wx (.Assign [.Attribute (.Name x p) f p'] e pos) (dOwSet i c f g) := by
  obtain ⟨t, h1, h2⟩ := h
  refine ⟨sFld mg.K (tVar i) t f, fun j => by
    have z := ps_fld (pe_var (i := i) (pos := p) (hN j) (hv j) hd hcd) (h1 j) (hs j)
    rw [hK j] at z
    exact z, fun W0 B N ρ hf W σ H Ds s e n => ?_⟩
  refine h2 B ρ _ _ hf W σ H _ s.holds e (n.ex s e) fun W1 H1 v d s1 r1 k1 => ?_
  have e1 := e.step s1
  dsimp only at k1
  split at k1
  · rename_i c' as fs hs'
    obtain ⟨rfl, hl, hdf, hq⟩ := k1
    obtain ⟨o, g1, a, as', vs, ea, rfl, ⟨C', dx, hc, g3⟩, hof, hnd, hk⟩ := e1.sl i _ hs'
    have ec := F.eq hc
    subst ec
    have el := hof.length
    have aas : a ∈ as := by rw [ea]; exact List.mem_cons_self
    obtain ⟨_, g4, g5, g6⟩ := hk a aas
    refine ⟨.ref a, g1, a, C', dx, vs, rfl, g3, F.cl, na, by omega, ?_⟩
    have na' : a ∉ as' := by rw [ea] at hnd; exact (List.nodup_cons.mp hnd).1
    refine n.nx W1 _ σ _ ((s.trans s1).own g6 g3 g4 g5) (e1.turn (s' := .ow c' as (setO f (.d d) fs)) hs' g1 aas (fun _ h => h) ⟨a, as', _, ea, rfl, ⟨C', dx, hc, upd_same⟩, (OFs.put r1 hof hdf).keep (Le.refl _) fun b hb u hu => ?_, hnd, fun b hb => ?_⟩) hq
    · have ne : b ≠ a := fun z => na' (by rw [← z]; exact hb)
      rw [upd_ne ne]
      exact hu
    · obtain ⟨⟨u, hu⟩, k2⟩ := hk b hb
      refine ⟨?_, k2⟩
      by_cases z : b = a
      · rw [z]
        exact ⟨_, upd_same⟩
      · rw [upd_ne z]
        exact ⟨u, hu⟩
  · exact k1.elim
end
end FP
/-! FP25: owned objects: a new field that holds a new list (x.f = []), or a new list of new lists (x.f = [[]]). -/
namespace FP
open PySem L2
variable [Tabl]
section
variable {mg : Gm} {B : Hp} {W : Wd} {H : Hp} {σ : St} {ρ : Env}
theorem OFs.snoc {f : Str} {v : V} {x : OF} {bs : List Addr} (r : OFR mg W H v x bs) : ∀ {vs : List (Str × V)} {fs : List (Str × OF)} {as : List Addr}, OFs mg W H vs fs as → fs.lookup f = none → OFs mg W H (putF f v vs) (fs ++ [(f, x)]) (as ++ bs)
  | [], [], as, h, _ => by
    have h : as = [] := h
    subst h
    exact ⟨rfl, bs, [], by simp, r, rfl⟩
  | (g, w) :: vs, (g', y) :: fs, as, ⟨e, as1, as2, ea, h1, h2⟩, hl => by
    subst e
    rw [List.lookup_cons] at hl
    have q : (f == g) = false := by
      cases z : f == g with
      | false => rfl
      | true => rw [z] at hl; cases hl
    rw [q] at hl
    unfold putF
    rw [if_neg fun z => by rw [z, beq_self_eq_true] at q; cases q]
    exact ⟨rfl, as1, as2 ++ bs, by rw [ea, List.append_assoc], h1, OFs.snoc r h2 hl⟩
  | [], _ :: _, _, h, _ => h.elim
  | _ :: _, [], _, h, _ => h.elim
/-- an owned object gets a field whose addresses are new -/
theorem EnvR.addF (e : EnvR mg B W H σ ρ) (hh : Holds W H) {i : Nat} {c f : Str} {as : List Addr} {fs : List (Str × OF)} {x : OF} {v : V} {bs : List Addr} {H2 : Hp} (hi : ρ[i]? = some (.ow c as fs)) (hl : fs.lookup f = none)
    (nb : ∀ b ∈ bs, H b = none ∧ B b = none) (nd : bs.Nodup) (hH : ∀ b u, H b = some u → H2 b = some u) (hbs : ∀ b ∈ bs, ∃ u, H2 b = some u) (r : OFR mg W H2 v x bs) :
    ∃ a C dx vs, σ[i]? = some (some (.ref a)) ∧ mg.mg c = some (.ref C) ∧ H2 a = some (.ins C dx vs) ∧ vs.length = fs.length ∧ W.H a = none ∧ ¬ W.T a ∧ B a = none ∧
      EnvR mg B W (upd H2 a (.ins C dx (putF f v vs))) σ (ρ.set i (.ow c (as ++ bs) (fs ++ [(f, x)]))) := by
  obtain ⟨o, g1, a, as', vs, ea, rfl, ⟨C, dx, hc, g3⟩, hof, hnd, hk⟩ := e.sl i _ hi
  have aas : a ∈ as := by rw [ea]; exact List.mem_cons_self
  obtain ⟨_, g4, g5, g6⟩ := hk a aas
  have apart : ∀ b, b ∈ as → b ∈ bs → False := fun b h1 h2 => by
    obtain ⟨⟨u, hu⟩, _⟩ := hk b h1
    rw [(nb b h2).1] at hu
    cases hu
  have na' : a ∉ as' := by rw [ea] at hnd; exact (List.nodup_cons.mp hnd).1
  have neA : ∀ b, b ∈ as' ++ bs → b ≠ a := fun b hb z => by
    rcases List.mem_append.mp hb with q | q
    · exact na' (by rw [← z]; exact q)
    · exact apart a aas (by rw [← z]; exact q)
  refine ⟨a, C, dx, vs, g1, hc, hH a _ g3, hof.length, g4, g5, g6, ?_⟩
  refine e.turns hi g1 (fun b u hu nf => ?_) (fun b hb => ?_) ⟨a, as' ++ bs, putF f v vs, by rw [ea]; rfl, rfl, ⟨C, dx, hc, upd_same⟩, ?_, ?_, fun b hb => ?_⟩
  · have ne : b ≠ a := fun z => nf (by rw [z]; exact aas)
    rw [upd_ne ne]
    exact hH b u hu
  · rcases List.mem_append.mp hb with q | q
    · exact .inl q
    · exact .inr (nb b q).1
  · have h2 := OFs.snoc r (hof.keep (Le.refl W) fun b _ u hu => hH b u hu) hl
    exact h2.keep (Le.refl W) fun b hb u hu => by
      rw [upd_ne (neA b hb)]
      exact hu
  · exact List.nodup_append.mpr ⟨hnd, nd, fun b h1 b' h2 q => apart b h1 (by rw [q]; exact h2)⟩
  · rcases List.mem_append.mp hb with q | q
    · obtain ⟨⟨u, hu⟩, k2⟩ := hk b q
      refine ⟨?_, k2⟩
      by_cases z : b = a
      · rw [z]
        exact ⟨_, upd_same⟩
      · rw [upd_ne z]
        exact ⟨u, hH b u hu⟩
    · obtain ⟨u, hu⟩ := hbs b q
      refine ⟨⟨u, ?_⟩, hh.same.free (nb b q).1, hh.nT (nb b q).1, (nb b q).2⟩
      rw [upd_ne (neA b (List.mem_append_right _ q))]
      exact hu
end
section
variable {ι : Type} {Xs : ι → Cx} {mg : Gm} {Wx : WX} {pos : Pos}
theorem Step.noB {W0 W : Wd} {B H : Hp} (s : Step W0 B W H) {p : Addr} (h : H p = none) : B p = none := by
  cases q : B p with
  | none => rfl
  | some o =>
    obtain ⟨o', e'⟩ := s.live p o q
    rw [e'] at h
    cases h
abbrev dOwNewL (i : Nat) (c f : Str) (g : DTA) : DTS := fun N ρ => g ρ (fun ds => match ρ[i]? with
  | some (.ow c' as fs) => c' = c ∧ fs.length < 1000 ∧ fs.lookup f = none ∧ ∀ p, N.nx (ρ.set i (.ow c (as ++ [p]) (fs ++ [(f, .l ds)])))
  | _ => False) (fun x => N.rs x ρ)
theorem ds_owNewL (i : Nat) {c x f : Str} {C : Addr} {p p' : Pos} {e : Expr} {g : DTA} (F : ClsF mg c C) (na : NoAttr mg.K C f) (h : DO Xs mg Wx e g) (hK : ∀ j, (Xs j).K = mg.K := by intro _; rfl) (hN : ∀ j, (Xs j).N[i]? = some x := by intro _; rfl)
    (hv : ∀ j, Vis (Xs j).env.scope x := by intro _; first | exact Or.inl rfl | exact Or.inr (Or.inl rfl) | exact Or.inr (Or.inr rfl)) (hd : (x == ("__debug__" : Str)) = false := by decide) (hcd : (x == ("__classdict__" : Str)) = false := by decide)
    (hs : ∀ j, swapsWith e (some (.Attribute (.Name x p) f p')) pos.line (Xs j).env = pure false := by intro _; rfl) : DS Xs mg Wx (.Assign [.Attribute (.Name x p) f p'] e pos) (dOwNewL i c f g) := by
  obtain ⟨t, h1, h2⟩ := h
  refine ⟨sFld mg.K (tVar i) t f, fun j => by
    have z := ps_fld (pe_var (i := i) (pos := p) (hN j) (hv j) hd hcd) (h1 j) (hs j)
    rw [hK j] at z
    exact z, fun W0 B N ρ hf W σ H Ds s e n => ?_⟩
  refine h2 B ρ _ _ hf W σ H _ s.holds e (n.ex s e) fun W1 H1 q vs ds s1 hq r1 k1 => ?_
  have e1 := e.step s1
  have s01 := s.trans s1
  split at k1
  · rename_i c' as fs hs'
    obtain ⟨rfl, hl, hlk, hq2⟩ := k1
    obtain ⟨a, C', dx, us, g1, hc, g3, gl, g4, g5, g6, e2⟩ := e1.addF (x := .l ds) (v := .ref q) (bs := [q]) (H2 := upd H1 q (.lst vs)) s01.holds hs' hlk (fun b hb => by
      obtain rfl := List.mem_singleton.mp hb
      exact ⟨hq, s01.noB hq⟩) (by simp) (fun b u hb => by rw [upd_ne (ne_of_none hb hq)]; exact hb) (fun b hb => by
      obtain rfl := List.mem_singleton.mp hb
      exact ⟨_, upd_same⟩) ⟨q, vs, rfl, rfl, upd_same, r1⟩
    have ec := F.eq hc
    subst ec
    refine ⟨.ref a, g1, a, C', dx, us, rfl, g3, F.cl, na, by omega, ?_⟩
    exact n.nx W1 _ σ _ ((s01.trans (Step.lay s01.holds hq)).own g6 g3 g4 g5) e2 (hq2 q)
  · exact k1.elim
end
end FP
/-! FP26: owned lists of owned lists: x.f.append([]), x.f[-1].append(e), y = x.f.pop(). -/
namespace FP
open PySem L2
end FP
/-! FP27: x.f[-1].append(e). -/
namespace FP
open PySem L2
variable [Tabl]
theorem atI_last {α : Type} {xs : List α} {n : Nat} {x : α} (h : xs.length = n + 1) (hx : xs[n]? = some x) : atI xs (-1) = some x := by
  unfold atI ixN
  rw [if_neg (by omega), if_pos (by omega), h]
  show xs[((-1 : Int) + ((n + 1 : Nat) : Int)).toNat]? = some x
  rw [show ((-1 : Int) + ((n + 1 : Nat) : Int)).toNat = n by omega]
  exact hx
end FP
/-! FP28: y = x.f.pop() of an owned list of owned lists. -/
namespace FP
open PySem L2
variable [Tabl]
section
variable {mg : Gm} {B : Hp} {W : Wd} {H : Hp} {σ : St} {ρ : Env}
/-- a place gets what no place has -/
theorem EnvR.move (e : EnvR mg B W H σ ρ) {k : Nat} {o : Option V} {s : Sl} (n : ∀ (j : Nat) (t : Sl) (o' : Option V) (b : Addr), j ≠ k → ρ[j]? = some t → σ[j]? = some o' → b ∈ t.fp o' → b ∈ s.fp o → False) (r : SlR mg B W H o s) : EnvR mg B W H (σ.set k o) (ρ.set k s) := by
  refine ⟨by simpa using e.len, fun j sl hj => ?_, fun j m s1 s2 o1 o2 a hjk h1 h2 h3 h4 m1 m2 => ?_⟩
  · rcases get_set hj with ⟨rfl, rfl⟩ | ⟨nj, hj⟩
    · have hl : k < ρ.length := by simpa using (List.getElem?_eq_some_iff.mp hj).1
      exact ⟨o, by rw [List.getElem?_set_self (by rw [e.len]; exact hl)], r⟩
    · obtain ⟨o', h1, h2⟩ := e.sl j sl hj
      exact ⟨o', by rw [List.getElem?_set_ne nj]; exact h1, h2⟩
  · rcases get_set h1 with ⟨e1, z1⟩ | ⟨n1, h1⟩
    · rcases get_set h2 with ⟨q, _⟩ | ⟨n2, h2⟩
      · exact hjk (e1.symm.trans q)
      · rw [List.getElem?_set_ne n2] at h4
        rcases get_set h3 with ⟨_, q⟩ | ⟨q, _⟩
        · rw [← z1, ← q] at m1
          exact n m s2 o2 a (Ne.symm n2) h2 h4 m2 m1
        · exact q e1
    · rcases get_set h2 with ⟨e2, z2⟩ | ⟨n2, h2⟩
      · rw [List.getElem?_set_ne n1] at h3
        rcases get_set h4 with ⟨_, q⟩ | ⟨q, _⟩
        · rw [← z2, ← q] at m2
          exact n j s1 o1 a (Ne.symm n1) h1 h3 m1 m2
        · exact q e2
      · rw [List.getElem?_set_ne n1] at h3
        rw [List.getElem?_set_ne n2] at h4
        exact e.dis j m s1 s2 o1 o2 a hjk h1 h2 h3 h4 m1 m2
end
end FP
/-! FP29: methods that change an owned object; making an owned object; handing it to the world. -/
namespace FP
open PySem L2
variable [Tabl]
/-- the heap without some addresses -/
def offH (H : Hp) (as : List Addr) : Hp := fun b => if b ∈ as then none else H b
theorem offH_in {H : Hp} {as : List Addr} {b : Addr} (h : b ∈ as) : offH H as b = none := if_pos h
theorem offH_out {H : Hp} {as : List Addr} {b : Addr} (h : b ∉ as) : offH H as b = H b := if_neg h
theorem offH_some {H : Hp} {as : List Addr} {b : Addr} {o : HO} (h : offH H as b = some o) : b ∉ as ∧ H b = some o := by
  by_cases q : b ∈ as
  · rw [offH_in q] at h
    cases h
  · rw [offH_out q] at h
    exact ⟨q, h⟩
theorem offH_none {H : Hp} {as : List Addr} {b : Addr} (h : offH H as b = none) : b ∈ as ∨ H b = none := by
  by_cases q : b ∈ as
  · exact .inl q
  · rw [offH_out q] at h
    exact .inr h
theorem Step.off {W : Wd} {H : Hp} {as : List Addr} (h : Holds W H) : Step W (offH H as) W H :=
  ⟨Le.refl W, h, fun _ _ e _ => (offH_some e).2, fun _ _ _ => rfl, fun _ t => .inl t, fun _ o e => ⟨o, (offH_some e).2⟩⟩
theorem Step.over {W0 W W' : Wd} {B H H' : Hp} {as : List Addr} (a : Step W0 B W H) (k : ∀ b ∈ as, B b = none) (b : Step W (offH H as) W' H') : Step W0 B W' H' where
  le := a.le.trans b.le
  holds := b.holds
  keep := fun c o e n => by
    have nc : c ∉ as := fun z => by rw [k c z] at e; cases e
    refine b.keep c o (by rw [offH_out nc]; exact a.keep c o e n) fun t => ?_
    rcases a.freshT c t with t | t
    · exact n t
    · rw [e] at t
      cases t
  fresh := fun c o e => by
    have nc : c ∉ as := fun z => by rw [k c z] at e; cases e
    obtain ⟨o', e'⟩ := a.live c o e
    rw [b.fresh c o' (by rw [offH_out nc]; exact e'), a.fresh c o e]
  freshT := fun c t => by
    rcases b.freshT c t with t | t
    · exact a.freshT c t
    · refine .inr ?_
      cases q : B c with
      | none => rfl
      | some o =>
        have nc : c ∉ as := fun z => by rw [k c z] at q; cases q
        obtain ⟨o', e'⟩ := a.live c o q
        rw [offH_out nc, e'] at t
        cases t
  live := fun c o e => by
    have nc : c ∉ as := fun z => by rw [k c z] at e; cases e
    obtain ⟨o', e'⟩ := a.live c o e
    exact b.live c o' (by rw [offH_out nc]; exact e')
section
variable {mg : Gm} {B B' : Hp} {W W' : Wd} {H H' : Hp} {σ : St} {ρ : Env} {as : List Addr}
theorem SlR.rebase {o : Option V} {s : Sl} (h : SlR mg B W H o s) (k : ∀ a ∈ s.fp o, B a = none → B' a = none) : SlR mg B' W H o s := by
  cases s with
  | no => exact h
  | exc => exact h
  | d x => exact h
  | own xs =>
    obtain ⟨a, vs, h1, h2, h3, h4, h5, r⟩ := h
    subst h1
    exact ⟨a, vs, rfl, h2, h3, h4, k a (List.mem_singleton.mpr rfl) h5, r⟩
  | od xs =>
    obtain ⟨a, vs, h1, h2, h3, h4, h5, r⟩ := h
    subst h1
    exact ⟨a, vs, rfl, h2, h3, h4, k a (List.mem_singleton.mpr rfl) h5, r⟩
  | ob c a fs =>
    obtain ⟨vs, h1, h2, h3, h4, h5, r⟩ := h
    exact ⟨vs, h1, h2, h3, h4, k a (List.mem_singleton.mpr rfl) h5, r⟩
  | ow c as fs =>
    obtain ⟨a, as', vs, h1, h2, h3, h4, h5, h6⟩ := h
    exact ⟨a, as', vs, h1, h2, h3, h4, h5, fun b hb => ⟨(h6 b hb).1, (h6 b hb).2.1, (h6 b hb).2.2.1, k b hb (h6 b hb).2.2.2⟩⟩
  | o2 as x =>
    obtain ⟨a, Ls, h1, h2, h3, h4, h6⟩ := h
    exact ⟨a, Ls, h1, h2, h3, h4, fun b hb => ⟨(h6 b hb).1, (h6 b hb).2.1, (h6 b hb).2.2.1, k b hb (h6 b hb).2.2.2⟩⟩
/-- what is mine at a place was changed by a callee -/
theorem EnvR.over (e : EnvR mg B W H σ ρ) {i : Nat} {o : Option V} {s s' : Sl} (hi : ρ[i]? = some s) (hs : σ[i]? = some o) (st : Step W (offH H (s.fp o)) W' H') (hn : ∀ a ∈ s'.fp o, a ∈ s.fp o ∨ H a = none) (r : SlR mg B W' H' o s') : EnvR mg B W' H' σ (ρ.set i s') := by
  have off : ∀ (j : Nat) (t : Sl) (o' : Option V) (b : Addr), j ≠ i → ρ[j]? = some t → σ[j]? = some o' → b ∈ t.fp o' → b ∈ s'.fp o → False := fun j t o' b nj h1 h2 m m' => by
    rcases hn b m' with z | z
    · exact e.dis j i t s o' o b nj h1 hi h2 hs m z
    · obtain ⟨o2, h3, h4⟩ := e.sl j _ h1
      rw [h2] at h3
      cases h3
      obtain ⟨u', h6, _⟩ := h4.at m
      rw [z] at h6
      cases h6
  refine ⟨by simpa using e.len, fun j sl hj => ?_, fun j k s1 s2 o1 o2 a hjk h1 h2 h3 h4 m1 m2 => ?_⟩
  · rcases get_set hj with ⟨rfl, rfl⟩ | ⟨nj, hj⟩
    · exact ⟨_, hs, r⟩
    · obtain ⟨o', h1, h2⟩ := e.sl j sl hj
      exact ⟨o', h1, h2.keep st.le fun a ha u h5 h6 h7 => st.mine (by rw [offH_out fun z => e.dis i j s sl o o' a nj hi hj hs h1 z ha]; exact h5) h6 h7⟩
  · rcases get_set h1 with ⟨e1, z1⟩ | ⟨n1, h1⟩
    · rcases get_set h2 with ⟨q, _⟩ | ⟨n2, h2⟩
      · exact hjk (e1.symm.trans q)
      · subst e1
        rw [hs] at h3
        cases h3
        rw [← z1] at m1
        exact off k s2 o2 a (Ne.symm n2) h2 h4 m2 m1
    · rcases get_set h2 with ⟨e2, z2⟩ | ⟨n2, h2⟩
      · subst e2
        rw [hs] at h4
        cases h4
        rw [← z2] at m2
        exact off j s1 o1 a (Ne.symm n1) h1 h3 m1 m2
      · exact e.dis j k s1 s2 o1 o2 a hjk h1 h2 h3 h4 m1 m2
/-- new things of one's own at a place, made by a callee -/
theorem EnvR.newsW (e : EnvR mg B W H σ ρ) {i : Nat} {o : Option V} {s : Sl} (st : Step W H W' H') (n : ∀ a ∈ s.fp o, H a = none) (r : SlR mg B W' H' o s) : EnvR mg B W' H' (σ.set i o) (ρ.set i s) := by
  have e1 := e.step st
  have old : ∀ (j : Nat) (t : Sl) (o' : Option V) (b : Addr), ρ[j]? = some t → σ[j]? = some o' → b ∈ t.fp o' → b ∈ s.fp o → False := fun j t o' b h1 h2 m m' => by
    obtain ⟨o2, h3, h4⟩ := e.sl j _ h1
    rw [h2] at h3
    cases h3
    obtain ⟨u', h6, _⟩ := h4.at m
    rw [n b m'] at h6
    cases h6
  refine ⟨by simpa using e.len, fun j sl hj => ?_, fun j k s1 s2 o1 o2 a hjk h1 h2 h3 h4 m1 m2 => ?_⟩
  · rcases get_set hj with ⟨rfl, rfl⟩ | ⟨nj, hj⟩
    · have hl : i < ρ.length := by simpa using (List.getElem?_eq_some_iff.mp hj).1
      exact ⟨o, by rw [List.getElem?_set_self (by rw [e.len]; exact hl)], r⟩
    · obtain ⟨o', h1, h2⟩ := e1.sl j sl hj
      exact ⟨o', by rw [List.getElem?_set_ne nj]; exact h1, h2⟩
  · rcases get_set h1 with ⟨e1, z1⟩ | ⟨n1, h1⟩
    · rcases get_set h2 with ⟨q, _⟩ | ⟨n2, h2⟩
      · exact hjk (e1.symm.trans q)
      · rw [List.getElem?_set_ne n2] at h4
        rcases get_set h3 with ⟨_, q⟩ | ⟨q, _⟩
        · rw [← z1, ← q] at m1
          exact old k s2 o2 a h2 h4 m2 m1
        · exact q e1
    · rcases get_set h2 with ⟨e2, z2⟩ | ⟨n2, h2⟩
      · rw [List.getElem?_set_ne n1] at h3
        rcases get_set h4 with ⟨_, q⟩ | ⟨q, _⟩
        · rw [← z2, ← q] at m2
          exact old j s1 o1 a h1 h3 m1 m2
        · exact q e2
      · rw [List.getElem?_set_ne n1] at h3
        rw [List.getElem?_set_ne n2] at h4
        exact e.dis j k s1 s2 o1 o2 a hjk h1 h2 h3 h4 m1 m2
/-- a start with an owned object in slot 0 -/
theorem EnvR.startO {N : List Str} {o : Option V} {s : Sl} {vs : List V} {ds : List D} {v : V} (hN : N.length = (N.length - 1) + 1) (ho : o = some v) (r : Reps mg W vs ds) (r0 : SlR mg B W H o s) : EnvR mg B W H (L2.start N (v :: vs)) (s :: startD (N.length - 1) ds) := by
  subst ho
  have lt : N.tail.length = N.length - 1 := List.length_tail
  have es : L2.start N (v :: vs) = some v :: L2.start N.tail vs := by
    unfold L2.start
    rw [List.map_cons, List.cons_append, List.length_cons, lt, Nat.sub_sub, Nat.add_comm 1]
  have base0 := EnvR.start (N := N.tail) (mg := mg) (H := H) r
  rw [es, ← lt]
  have none2 : ∀ (j : Nat) (s : Sl) (o : Option V) (a : Addr), (startD N.tail.length ds)[j]? = some s → a ∉ s.fp o := fun j s o a hj m => by
    unfold startD at hj
    rcases List.mem_append.mp (List.mem_of_getElem? hj) with z | z
    · obtain ⟨_, _, z⟩ := List.mem_map.mp z
      rw [← z] at m
      cases m
    · have z := List.eq_of_mem_replicate z
      rw [z] at m
      cases m
  refine ⟨congrArg (· + 1) base0.len, fun i sl hi => ?_, fun i j s1 s2 o1 o2 a hij q1 q2 q3 q4 m1 m2 => ?_⟩
  · cases i with
    | zero =>
      cases hi
      exact ⟨_, rfl, r0⟩
    | succ i =>
      obtain ⟨o, g1, g2⟩ := base0.sl i sl hi
      exact ⟨o, g1, g2.rebase fun a ha _ => (none2 i sl o a hi ha).elim⟩
  · cases i with
    | succ i => exact none2 i s1 o1 a q1 m1
    | zero =>
      cases j with
      | zero => exact hij rfl
      | succ j => exact none2 j s2 o2 a q2 m2
theorem OFs.noField {m : Str} : ∀ {vs : List (Str × V)} {fs : List (Str × OF)} {as : List Addr}, OFs mg W H vs fs as → fs.lookup m = none → vs.lookup m = none
  | [], [], _, _, _ => rfl
  | (g, v) :: vs, (g', y) :: fs, as, ⟨e, as1, as2, ea, h1, h2⟩, hl => by
    subst e
    rw [List.lookup_cons] at hl ⊢
    split at hl
    · cases hl
    · exact OFs.noField h2 hl
  | [], _ :: _, _, h, _ => h.elim
  | _ :: _, [], _, h, _ => h.elim
end
/-! ### the promise of a method that changes its object -/
abbrev FO := List (Str × OF)
abbrev MO := (D → FO → Prop) → (XD → FO → Prop) → Prop
def spO (mg : Gm) (c : Str) (n : Nat) (f : FO → List D → MO) : Sp := fun vs H Q E => ∃ W a us ds as fs Qd Ed, vs = .ref a :: us ∧ Holds W H ∧ SlR mg (offH H as) W H (some (.ref a)) (.ow c as fs) ∧ Reps mg W us ds ∧ ds.length = n ∧ f fs ds Qd Ed ∧
  (∀ W' H' v d as' fs', Step W (offH H as) W' H' → Rep mg W' v d → SlR mg (offH H as) W' H' (some (.ref a)) (.ow c as' fs') → Qd d fs' → Q v H') ∧
  ∀ W' H' cls dd x as' fs', Step W (offH H as) W' H' → RepX mg W' H' cls dd x → SlR mg (offH H as) W' H' (some (.ref a)) (.ow c as' fs') → Ed x fs' → E cls dd H'
structure MethO (P : Program) (w : World) (mg : Gm) (base : Heap) (k : Nat) (c : Str) (C : Addr) (m : Str) (n : Nat) (f : FO → List D → MO) : Prop where
  ex : ∃ fa fd ps, Meth mg.K C m fa ∧ Binds mg.K fd ps [] ∧ ps.length = n + 1 ∧ FnG P w mg.K mg.mg base k fa fd ps (spO mg c n f)
section
variable {ι : Type} {Xs : ι → Cx} {mg : Gm} {Wx : WX} {pos : Pos}
/-- a method by its body: its own object stands in slot 0 -/
theorem mkMethO {P : Program} {w : World} {base : Heap} {c : Str} {C : Addr} {m qual : Str} {st : Stmt} {N ps : List Str} {k n : Nat} {f : FO → List D → MO} (d : ∃ fa fd, Meth mg.K C m fa ∧ Fun mg.K m qual st fa fd) (S : FnScope N ps (defScope st)) (hn : ps.length = n + 1)
    (hb : ∀ (kV doc pm : Value) (an : Option Addr) (cdv ct : Value) (us : List Value), us.length = ps.length → bindArgs (PySem.W.fnOf m qual (defArgs st) (defBody st) (defScope st) .none kV doc pm an cdv ct) ⟨us, []⟩ = pure (ps.zip us))
    (h : ∀ (fa : Addr) (cdv : Value) (A : Around) (outer : List PySem.Env) (s : Shared) (H : Hp) (E : XK), RmG k (A.deeper (PyProof.Rows.envOfC qual (defScope st) s.heap.objs.size fa cdv)) →
      ∃ g, DSs (fun _ : Unit => cxOf (L2.CX P w) P w mg.K mg.mg base N qual (defScope st) fa cdv A outer s H E) mg (fun cls d _ H' => E cls d H') (defBody st) g ∧
        ∀ as fs ds Q Ex, ds.length = n → f fs ds Q Ex → g ⟨fun ρ => ∃ as' fs' r, ρ = .ow c as' fs' :: r ∧ as'.head? = as.head? ∧ Q .non fs', fun d ρ => ∃ as' fs' r, ρ = .ow c as' fs' :: r ∧ as'.head? = as.head? ∧ Q d fs', fun _ => False, fun _ => False, fun x ρ => ∃ as' fs' r, ρ = .ow c as' fs' :: r ∧ as'.head? = as.head? ∧ Ex x fs'⟩ (.ow c as fs :: startD (N.length - 1) ds)) :
    MethO P w mg base (k + 1) c C m n f := by
  obtain ⟨fa, fd, hm, F⟩ := d
  refine ⟨fa, fd, ps, hm, F.binds hb, hn, ?_⟩
  refine fnG_of F S (fun vs H Q E hs => ?_) (fun cdv A outer s H vs Q E hr hs => ?_)
  · obtain ⟨W, a, us, ds, as, fs, Qd, Ed, rfl, _, _, r, l, _⟩ := hs
    rw [List.length_cons, r.length, l, hn]
  · obtain ⟨W, a, us, ds, as, fs, Qd, Ed, rfl, hh, r0, r, l, hf, q, ex⟩ := hs
    obtain ⟨g, ⟨t, h1, h2⟩, h3⟩ := h fa cdv A outer s H E hr
    refine ⟨t, h1 (), ?_⟩
    have hN : N.length = (N.length - 1) + 1 := by
      have q1 := congrArg List.length S.pre
      rw [List.length_take, hn] at q1
      omega
    have hda : as.head? = some a := by
      obtain ⟨a', as', vs, ea, ho, _⟩ := r0
      cases ho
      rw [ea]
      rfl
    have back : ∀ W' H' σ' ρ' as' fs' rr, EnvR mg (offH H as) W' H' σ' ρ' → ρ' = .ow c as' fs' :: rr → as'.head? = as.head? → SlR mg (offH H as) W' H' (some (.ref a)) (.ow c as' fs') := by
      intro W' H' σ' ρ' as' fs' rr e' er eh
      subst er
      obtain ⟨o, g1, g2⟩ := e'.sl 0 _ rfl
      obtain ⟨a', as2, vs, ea, ho, g3⟩ := id g2
      rw [ea, hda] at eh
      cases eh
      rw [ho] at g2
      exact g2
    refine h2 W (offH H as) _ _ (h3 as fs ds Qd Ed l hf) W _ H _ (Step.off hh) (EnvR.startO hN rfl r r0) ⟨fun W' H' σ' ρ' s' e' k => ?_, fun W' H' σ' ρ' v d s' e' rv k => ?_, fun _ _ _ _ _ _ k => k.elim, fun _ _ _ _ _ _ k => k.elim, fun W' H' σ' ρ' cls dd y s' e' ry k => ?_⟩
    · obtain ⟨as', fs', rr, er, eh, hq⟩ := k
      exact q W' H' _ _ as' fs' s' .non (back W' H' σ' ρ' as' fs' rr e' er eh) hq
    · obtain ⟨as', fs', rr, er, eh, hq⟩ := k
      exact q W' H' _ _ as' fs' s' rv (back W' H' σ' ρ' as' fs' rr e' er eh) hq
    · obtain ⟨as', fs', rr, er, eh, hq⟩ := k
      exact ex W' H' _ _ _ as' fs' s' ry (back W' H' σ' ρ' as' fs' rr e' er eh) hq
/-! ### expressions that change what is mine -/
abbrev DTX := Env → (D → Env → Prop) → (XD → Env → Prop) → Prop
def CpX (mg : Gm) (Wx : WX) (t : TE) (f : DTX) : Prop := ∀ W0 B ρ Q E, f ρ Q E → ∀ W σ H Q', Step W0 B W H → EnvR mg B W H σ ρ → (∀ W' H' cls dd x ρ', Step W0 B W' H' → EnvR mg B W' H' σ ρ' → RepX mg W' H' cls dd x → E x ρ' → Wx cls dd σ H') →
  (∀ W' H' v d ρ', Step W0 B W' H' → EnvR mg B W' H' σ ρ' → Rep mg W' v d → Q d ρ' → Q' v H') → t σ H Q'
def DX (Xs : ι → Cx) (mg : Gm) (Wx : WX) (e : Expr) (f : DTX) : Prop := ∃ t, (∀ i, PE (Xs i) e t) ∧ CpX mg Wx t f
abbrev dxMeth (i : Nat) (c m : Str) (n : Nat) (f : FO → List D → MO) (g : DTA) : DTX := fun ρ Q E => match ρ[i]? with
  | some (.ow c' as fs) => c' = c ∧ fs.lookup m = none ∧ g ρ (fun ds => ds.length = n ∧ f fs ds (fun d fs' => ∀ as', as'.head? = as.head? → Q d (ρ.set i (.ow c as' fs'))) (fun x fs' => ∀ as', as'.head? = as.head? → E x (ρ.set i (.ow c as' fs')))) (fun x => E x ρ)
  | _ => False
theorem dx_meth (i0 : Nat) {P : Program} {w : World} {base : Heap} {k n : Nat} {c m x : Str} {C : Addr} {f : FO → List D → MO} {p apos : Pos} {e : Expr} {es : List Expr} {g : DTA} {pl : ι → Sem Bool} (Fc : ClsF mg c C) (F : MethO P w mg base k c C m n f) (hr : ∀ i, RmG k (Xs i).A) (tk : ∀ i, Pas (Xs i) Wx) (ha : DA Xs mg Wx (e :: es) g)
    (hP : ∀ j, (Xs j).prog = P ∧ (Xs j).w = w ∧ (Xs j).K = mg.K ∧ (Xs j).mg = mg.mg ∧ (Xs j).base = base := by intro _; exact ⟨rfl, rfl, rfl, rfl, rfl⟩) (hN : ∀ j, (Xs j).N[i0]? = some x := by intro _; rfl)
    (hv : ∀ j, Vis (Xs j).env.scope x := by intro _; first | exact Or.inl rfl | exact Or.inr (Or.inl rfl) | exact Or.inr (Or.inr rfl)) (hd : (x == ("__debug__" : Str)) = false := by decide) (hcd : (x == ("__classdict__" : Str)) = false := by decide)
    (he : ∀ i, starEach (e :: es) (Xs i).env = (false, eval e (Xs i).env) :: starEach es (Xs i).env := by intro _; rfl) (hpl : ∀ i, (backTo pos (starEach es (Xs i).env)).any (·.1) = false := by intro _; rfl)
    (ht : ∀ i, eval (.Call (.Attribute (.Name x p) m apos) (e :: es) [] pos) (Xs i).env = (do
      let ov ← eval (.Name x p) (Xs i).env
      standAt apos.atName
      let (fn, first) ← holding [ov] (getMethod ov m (pl i))
      callWith pos fn first (backTo pos (starEach (e :: es) (Xs i).env)) (backToKw pos (keywordEach [] (Xs i).env))) := by intro _; rfl) : DX Xs mg Wx (.Call (.Attribute (.Name x p) m apos) (e :: es) [] pos) (dxMeth i0 c m n f g) := by
  obtain ⟨fa, fd, ps, hm, hb, hl, G⟩ := F.ex
  obtain ⟨t, h1, h2⟩ := ha
  refine ⟨fun σ H Q => tVar i0 σ H fun x H1 => ∃ a dx fs, x = .ref a ∧ H1 a = some (.ins C dx fs) ∧ fs.lookup m = none ∧ t σ H1 fun vs H2 => spO mg c n f (x :: vs) H2 Q (WE Wx σ), fun i => ?_, ?_⟩
  · obtain ⟨p1, p2, p3, p4, p5⟩ := hP i
    subst p1 p2 p5
    constructor
    intro pins z σ H Q I hw
    refine PySem.W.methodCall_KW (pl := pl i) (thn ((pe_var (i := i0) (pos := p) (hN i) (hv i) hd hcd).run pins z σ H _ I hw) ?_) (ht i)
    rintro u z1 ⟨x, H1, I1, rx, a, dx, fs, ex, ea, l, q⟩
    subst ex
    have eu : u = Value.ref a := rx
    subst eu
    apply getmeth_ok I1 ea (by rw [p3]; exact Fc.cl) (by rw [p3]; exact hm) l
    apply PySem.W.callWith_K (first := [.ref a]) (h₀ := (Xs i).base) I.ok.mod.kin (by rw [p3]; exact hm.kp) _ (he i) (hpl i)
    refine thn ((h1 i).run pos pins z1 σ H1 _ I1 q) ?_
    rintro us z2 ⟨vs, H2, I2, rv, q2⟩
    exact ⟨I2.kIn, goG (Ew := WE Wx) (us := .ref a :: us) (vs := .ref a :: vs) (by rw [p3, p4]; exact G) (hr i) (by rw [p3]; exact hb) (tk i σ) I2 (.cons rfl rv) q2⟩
  · intro W0 B ρ Q E hf W σ H Q' s e ex q
    unfold dxMeth at hf
    split at hf
    · rename_i c' as fs hi
      obtain ⟨rfl, hno, hf⟩ := hf
      obtain ⟨o, g1, g2⟩ := e.sl i0 _ hi
      obtain ⟨a, as', vs, ea, ho, ⟨C', dx, hc, h3⟩, h4, h5, h6⟩ := id g2
      subst ho
      have ec := Fc.eq hc
      subst ec
      refine ⟨.ref a, g1, a, dx, vs, rfl, h3, OFs.noField h4 hno, ?_⟩
      refine h2 B ρ _ _ hf W σ H _ s.holds e (fun W' H' cls dd y s' ry hy => ex W' H' cls dd y ρ (s.trans s') (e.step s') ry hy) fun W1 H1 us ds s1 r1 k1 => ?_
      have e1 := e.step s1
      have s01 := s.trans s1
      obtain ⟨o2, g3, g4⟩ := e1.sl i0 _ hi
      rw [g1] at g3
      cases g3
      have kb : ∀ b ∈ as, B b = none := fun b hb => (h6 b hb).2.2.2
      have fin : ∀ (W' : Wd) (H' : Hp) (as2 : List Addr) (fs2 : FO), Step W1 (offH H1 as) W' H' → SlR mg (offH H1 as) W' H' (some (.ref a)) (.ow c' as2 fs2) → as2.head? = as.head? ∧ EnvR mg B W' H' σ (ρ.set i0 (.ow c' as2 fs2)) := fun W' H' as2 fs2 s' r' => by
        have hn : ∀ b ∈ as2, b ∈ as ∨ H1 b = none := fun b hb => by
          obtain ⟨_, _, _, _, _, _, _, _, h7⟩ := id r'
          exact offH_none (h7 b hb).2.2.2
        refine ⟨?_, e1.over (s := .ow c' as fs) hi g1 s' hn (r'.rebase fun b hb _ => ?_)⟩
        · obtain ⟨a2, _, _, ea2, ho2, _⟩ := id r'
          cases ho2
          rw [ea, ea2]
          rfl
        · rcases hn b hb with z | z
          · exact kb b z
          · exact s01.noB z
      refine ⟨W1, a, us, ds, as, fs, _, _, rfl, s1.holds, g4.rebase fun b hb _ => offH_in hb, r1, k1.1, k1.2, fun W' H' v d as2 fs2 s' rv r' hq => ?_, fun W' H' cls dd y as2 fs2 s' ry r' hq => ?_⟩
      · obtain ⟨f1, f2⟩ := fin W' H' as2 fs2 s' r'
        exact q W' H' v d _ (s01.over kb s') f2 rv (hq as2 f1)
      · obtain ⟨f1, f2⟩ := fin W' H' as2 fs2 s' r'
        exact ex W' H' cls dd y _ (s01.over kb s') f2 ry (hq as2 f1)
    · exact hf.elim
abbrev dRetX (f : DTX) : DTS := fun N ρ => f ρ (fun d ρ' => N.rt d ρ') (fun x ρ' => N.rs x ρ')
theorem ds_retX {e : Expr} {f : DTX} (h : DX Xs mg Wx e f) : DS Xs mg Wx (.Return (some e) pos) (dRetX f) := by
  obtain ⟨t, h1, h2⟩ := h
  refine ⟨_, fun i => ps_ret (h1 i), fun W0 B N ρ hf W σ H Ds s e n => ?_⟩
  exact h2 W0 B ρ _ _ hf W σ H _ s e (fun W' H' cls dd x ρ' s' e' r k => n.rs W' H' σ ρ' cls dd x s' e' r k) fun W1 H1 v d ρ' s1 e1 r1 k1 => n.rt W1 H1 σ ρ' v d s1 e1 r1 k1
/-- tests that change what is mine -/
abbrev DTTX := Env → (Bool → Env → Prop) → (XD → Env → Prop) → Prop
def CpTX (mg : Gm) (Wx : WX) (t : TT) (f : DTTX) : Prop := ∀ W0 B ρ Q E, f ρ Q E → ∀ W σ H Q', Step W0 B W H → EnvR mg B W H σ ρ → (∀ W' H' cls dd x ρ', Step W0 B W' H' → EnvR mg B W' H' σ ρ' → RepX mg W' H' cls dd x → E x ρ' → Wx cls dd σ H') →
  (∀ W' H' b ρ', Step W0 B W' H' → EnvR mg B W' H' σ ρ' → Q b ρ' → Q' b H') → t σ H Q'
def DTX' (Xs : ι → Cx) (mg : Gm) (Wx : WX) (e : Expr) (f : DTTX) : Prop := ∃ t, (∀ i, PT (Xs i) e t) ∧ CpTX mg Wx t f
abbrev dBX (f : DTX) : DTTX := fun ρ Q E => f ρ (fun d ρ' => blc d fun b => Q b ρ') E
theorem dtx_val {e : Expr} {f : DTX} (h : DX Xs mg Wx e f) (he : ∀ i whole, isTrue e (Xs i).env whole = (do let v ← whole; standAt e.pos; holding [v] (truthy v)) := by intro _ _; rfl) : DTX' Xs mg Wx e (dBX f) := by
  obtain ⟨t, h1, h2⟩ := h
  refine ⟨_, fun i => pt_val (h1 i) (he i), fun W0 B ρ Q E hf W σ H Q' s e ex q => ?_⟩
  refine h2 W0 B ρ _ _ hf W σ H _ s e ex fun W1 H1 v d ρ' s1 e1 r1 k1 => ?_
  cases r1 with
  | bl b => exact ⟨b, rfl, q W1 H1 b ρ' s1 e1 k1⟩
  | _ => exact k1.elim
abbrev dNotX (f : DTTX) : DTTX := fun ρ Q E => f ρ (fun b ρ' => Q (!b) ρ') E
theorem dtx_not {e : Expr} {f : DTTX} (h : DTX' Xs mg Wx e f) : DTX' Xs mg Wx (.UnaryOp .Not e pos) (dNotX f) := by
  obtain ⟨t, h1, h2⟩ := h
  exact ⟨_, fun i => pt_not (h1 i), fun W0 B ρ Q E hf W σ H Q' s e ex q => h2 W0 B ρ _ _ hf W σ H _ s e ex fun W1 H1 b ρ' s1 e1 k1 => q W1 H1 _ ρ' s1 e1 k1⟩
abbrev dIfX (c : DTTX) (f g : DTS) : DTS := fun N ρ => c ρ (fun b ρ' => bit b (f N ρ') (g N ρ')) (fun x ρ' => N.rs x ρ')
theorem ds_ifX {c : Expr} {a b : List Stmt} {fc : DTTX} {f g : DTS} (hc : DTX' Xs mg Wx c fc) (ha : DSs Xs mg Wx a f) (hb : DSs Xs mg Wx b g) : DS Xs mg Wx (.If c a b pos) (dIfX fc f g) := by
  obtain ⟨tc, c1, c2⟩ := hc
  obtain ⟨ta, a1, a2⟩ := ha
  obtain ⟨tb, b1, b2⟩ := hb
  refine ⟨_, fun i => ps_if (c1 i) (a1 i) (b1 i), fun W0 B N ρ hf W σ H Ds s e n => ?_⟩
  refine c2 W0 B ρ _ _ hf W σ H _ s e (fun W' H' cls dd x ρ' s' e' r k => n.rs W' H' σ ρ' cls dd x s' e' r k) fun W1 H1 k ρ' s1 e1 k1 => ?_
  cases k with
  | true =>
    rw [if_pos rfl]
    exact a2 W0 B N ρ' k1 W1 σ H1 Ds s1 e1 n
  | false =>
    rw [if_neg Bool.false_ne_true]
    exact b2 W0 B N ρ' k1 W1 σ H1 Ds s1 e1 n
/-! ### making an owned object -/
def spIO (mg : Gm) (c : Str) (C : Addr) (n : Nat) (f : List D → (FO → Prop) → Prop) : Sp := fun vs H Q E => ∃ W ds us H1 x dx Qd, vs = .ref x :: us ∧ H1 x = none ∧ H1 dx = none ∧ dx ≠ x ∧ H = upd (upd H1 dx (.own x)) x (.ins C dx []) ∧ Holds W H1 ∧ Reps mg W us ds ∧ ds.length = n ∧ f ds Qd ∧
  ∀ W' H' as fs, Step W H1 W' H' → SlR mg H1 W' H' (some (.ref x)) (.ow c as fs) → Qd fs → Q .non H'
structure InitO (P : Program) (w : World) (mg : Gm) (base : Heap) (k : Nat) (c : Str) (C : Addr) (n : Nat) (f : List D → (FO → Prop) → Prop) : Prop where
  ex : ∃ fa fd ps, Mk mg.K C fa ∧ Binds mg.K fd ps [] ∧ ps.length = n + 1 ∧ FnG P w mg.K mg.mg base k fa fd ps (spIO mg c C n f)
theorem mkInitO {P : Program} {w : World} {base : Heap} {c : Str} {C : Addr} {qual : Str} {st : Stmt} {N ps : List Str} {k n : Nat} {f : List D → (FO → Prop) → Prop} (Fc : ClsF mg c C) (d : ∃ fa fd, Mk mg.K C fa ∧ Fun mg.K "__init__" qual st fa fd) (S : FnScope N ps (defScope st)) (hn : ps.length = n + 1)
    (hb : ∀ (kV doc pm : Value) (an : Option Addr) (cdv ct : Value) (us : List Value), us.length = ps.length → bindArgs (PySem.W.fnOf "__init__" qual (defArgs st) (defBody st) (defScope st) .none kV doc pm an cdv ct) ⟨us, []⟩ = pure (ps.zip us))
    (h : ∀ (fa : Addr) (cdv : Value) (A : Around) (outer : List PySem.Env) (s : Shared) (H : Hp) (E : XK), RmG k (A.deeper (PyProof.Rows.envOfC qual (defScope st) s.heap.objs.size fa cdv)) →
      ∃ g, DSs (fun _ : Unit => cxOf (L2.CX P w) P w mg.K mg.mg base N qual (defScope st) fa cdv A outer s H E) mg (fun cls d _ H' => E cls d H') (defBody st) g ∧
        ∀ x ds Q, ds.length = n → f ds Q → g ⟨fun ρ => ∃ as fs r, ρ = .ow c as fs :: r ∧ as.head? = some x ∧ Q fs, fun _ _ => False, fun _ => False, fun _ => False, fun _ _ => False⟩ (.ow c [x] [] :: startD (N.length - 1) ds)) :
    InitO P w mg base (k + 1) c C n f := by
  obtain ⟨fa, fd, M, F⟩ := d
  refine ⟨fa, fd, ps, M, F.binds hb, hn, ?_⟩
  refine fnG_of F S (fun vs H Q E hs => ?_) (fun cdv A outer s H vs Q E hr hs => ?_)
  · obtain ⟨W, ds, us, H1, x, dx, Qd, rfl, _, _, _, _, _, r, l, _⟩ := hs
    rw [List.length_cons, r.length, l, hn]
  · obtain ⟨W, ds, us, H1, x, dx, Qd, rfl, nx, ndx, ne, rfl, hh, r, l, hf, q⟩ := hs
    obtain ⟨g, ⟨t, h1, h2⟩, h3⟩ := h fa cdv A outer s _ E hr
    have sd : Step W H1 W (upd H1 dx (.own x)) := Step.lay hh ndx
    have nx2 : (upd H1 dx (.own x)) x = none := by
      rw [upd_ne (Ne.symm ne)]
      exact nx
    have sx : Step W H1 W (upd (upd H1 dx (.own x)) x (.ins C dx [])) := sd.trans (Step.lay sd.holds nx2)
    refine ⟨t, h1 (), ?_⟩
    have hN : N.length = (N.length - 1) + 1 := by
      have q1 := congrArg List.length S.pre
      rw [List.length_take, hn] at q1
      omega
    have r0 : SlR mg H1 W (upd (upd H1 dx (.own x)) x (.ins C dx [])) (some (.ref x)) (.ow c [x] []) := by
      refine ⟨x, [], [], rfl, rfl, ⟨C, dx, Fc.nm, upd_same⟩, rfl, by simp, fun b hb => ?_⟩
      obtain rfl := List.mem_singleton.mp hb
      exact ⟨⟨_, upd_same⟩, hh.same.free nx, hh.nT nx, nx⟩
    refine h2 W H1 _ _ (h3 x ds Qd l hf) W _ _ _ sx (EnvR.startO hN rfl r r0) ⟨fun W' H' σ' ρ' s' e' k => ?_, fun _ _ _ _ _ _ _ _ _ k => k.elim, fun _ _ _ _ _ _ k => k.elim, fun _ _ _ _ _ _ k => k.elim, fun _ _ _ _ _ _ _ _ _ _ k => k.elim⟩
    obtain ⟨as, fs, rr, rfl, eh, hq⟩ := k
    obtain ⟨o, g1, g2⟩ := e'.sl 0 _ rfl
    obtain ⟨a', as2, vs, ea, ho, _⟩ := id g2
    rw [ea] at eh
    cases eh
    rw [ho] at g2
    exact q W' H' as fs s' g2 hq
/-- an owned object is handed to the world ahead of a statement -/
abbrev dFrzO (i : Nat) (f : DTS) : DTS := fun N ρ => match ρ[i]? with
  | some (.ow c _ fs) => f N (ρ.set i (.d (.ins c (toDs fs))))
  | _ => False
theorem ds_frzO (i : Nat) {st : Stmt} {f : DTS} (h : DS Xs mg Wx st f) : DS Xs mg Wx st (dFrzO i f) := by
  obtain ⟨t, h1, h2⟩ := h
  refine ⟨t, h1, fun W0 B N ρ hf W σ H Ds s e n => ?_⟩
  unfold dFrzO at hf
  split at hf
  · rename_i c as fs hi
    obtain ⟨k, e1⟩ := e.seen hi
    have kb : ∀ b ∈ as, B b = none := fun b hb => by
      obtain ⟨_, _, _, _, _, _, _, _, _, _, h7⟩ := e.sl i _ hi
      exact (h7 b hb).2.2.2
    have l := seen_le (W := W) (H := H) fun b hb => (k b hb).1
    have s2 : Step W0 B (W.seen H as) H := ⟨s.le.trans l, seen_holds s.holds fun b hb => (k b hb).2, s.keep, fun b o q => by
      show (if b ∈ as then H b else W.H b) = _
      rw [if_neg fun z => by rw [kb b z] at q; cases q]
      exact s.fresh b o q, s.freshT, s.live⟩
    exact h2 W0 B N _ hf _ σ H Ds s2 e1 n
  · exact hf.elim
end
end FP
/-! FP30: t == (), t != (); max of a list; x, y = [], e; a def that is not called. -/
namespace FP
open PySem L2
variable [Tabl]
section
variable {ι : Type} {Xs : ι → Cx} {mg : Gm} {Wx : WX} {pos : Pos}
def rT0 (K : PySem.W.Frag) (neg : Bool) : R2 := fun x y H Q => ∃ a b xs, x = .ref a ∧ y = .ref b ∧ SqT K H a xs ∧ SqT K H b [] ∧ Q (.bl (if neg then !xs.isEmpty else xs.isEmpty)) H
theorem op_eqT0 {X : Cx} (hu : X.A.units + 64 < cLine) : OpR X (compareOp .Eq) (rT0 X.K false) := by
  intro pins s σ H x y v u Q I rx ry h
  obtain ⟨a, b, xs, rfl, rfl, h1, h2, q⟩ := h
  cases rx
  cases ry
  obtain ⟨its, rv, pl, hz⟩ := I.tuple h1
  obtain ⟨its2, rv2, pl2, hz2⟩ := I.tuple h2
  have e2 : its2 = [] := by
    have := rv2.length
    cases its2 with
    | nil => rfl
    | cons => cases this
  subst e2
  refine SeqAt.rcIn_tuples (e := fun _ => true) (show s.heap.IsTuple a its.toArray from pl) (show s.heap.IsTuple b #[] from pl2) (by omega) (fun j _ h2 => absurd h2 (Nat.not_lt_zero j)) ⟨.bl xs.isEmpty, H, I, ?_, q⟩
  show Value.bool _ = Value.bool _
  congr 1
  have el := rv.length
  cases xs with
  | nil =>
    cases its with
    | nil => rfl
    | cons => cases el
  | cons =>
    cases its with
    | nil => cases el
    | cons => rfl
theorem op_neT0 {X : Cx} (hu : X.A.units + 64 < cLine) : OpR X (compareOp .NotEq) (rT0 X.K true) := by
  intro pins s σ H x y v u Q I rx ry h
  obtain ⟨a, b, xs, rfl, rfl, h1, h2, q⟩ := h
  cases rx
  cases ry
  obtain ⟨its, rv, pl, hz⟩ := I.tuple h1
  obtain ⟨its2, rv2, pl2, hz2⟩ := I.tuple h2
  have e2 : its2 = [] := by
    have := rv2.length
    cases its2 with
    | nil => rfl
    | cons => cases this
  subst e2
  have hl : s.heap.IsTuple a its.toArray := pl
  have hb : s.heap.IsTuple b #[] := pl2
  obtain ⟨⟨cls, dd, data, sl⟩, ho, hc, n, hd⟩ := id hl
  obtain ⟨⟨cls2, dd2, data2, sl2⟩, ho2, hc2, n2, hd2⟩ := id hb
  simp only at hc hd hc2 hd2
  subst hc hd hc2 hd2
  refine wpAny_richCompare_same_room (T := "tuple") (op := .NotEq) ⟨_, ho, rfl⟩ ⟨_, ho2, rfl⟩ F.slot_tuple_ne (call_meets F.slot_tuple_ne ⟨_, ho, rfl⟩ F.entry_tuple_ne (F.args_tuple_ne_2 _ _) (SeqAt.tuple_neAt a b its.toArray #[] n n2 dd dd2 sl sl2 (fun _ => true))
    ⟨ho, ho2, fun j _ h2 => absurd h2 (Nat.not_lt_zero j), (fun x => nomatch x), .bl (!xs.isEmpty), H, I, ?_, q⟩) (by omega)
  show Value.bool _ = Value.bool _
  congr 1
  have el := rv.length
  cases xs with
  | nil =>
    cases its with
    | nil => rfl
    | cons => cases el
  | cons =>
    cases its with
    | nil => cases el
    | cons => rfl
/-- a tuple of anything beside () -/
def rdT0 (neg : Bool) : RD2 := fun x y Q => match x, y with
  | .tup xs, .tup [] => Q (.bl (if neg then !xs.isEmpty else xs.isEmpty))
  | _, _ => False
theorem ok_T0 {neg : Bool} {W : Wd} {H : Hp} {x y : V} {dx dy : D} {Q : D → Prop} {Q' : VK} (hh : Holds W H) (rx : Rep mg W x dx) (ry : Rep mg W y dy) (h : rdT0 neg dx dy Q) (q : ToV mg W H Q Q') : rT0 mg.K neg x y H Q' := by
  unfold rdT0 at h
  split at h
  · rename_i xs
    cases rx with
    | @tup a vs ds ha rs =>
      cases ry with
      | @tup b vs2 ds2 hb rs2 =>
        cases rs2
        have e : vs.isEmpty = xs.isEmpty := by
          cases rs <;> rfl
        refine ⟨a, b, vs, rfl, rfl, SqT.of (hh.same _ _ ha), SqT.of (hh.same _ _ hb), ?_⟩
        rw [e]
        exact q W H _ _ (Step.refl hh) (.bl _) h
  · exact h.elim
theorem ok_eqT0 (hu : ∀ j, (Xs j).A.units + 64 < cLine) (hK : ∀ j, (Xs j).K = mg.K := by intro _; rfl) : OpOk Xs mg (compareOp .Eq) (rdT0 false) :=
  ⟨_, fun j => by rw [← hK j]; exact op_eqT0 (hu j), fun W H x y dx dy Q Q' hh rx ry h q => ok_T0 hh rx ry h q⟩
theorem ok_neT0 (hu : ∀ j, (Xs j).A.units + 64 < cLine) (hK : ∀ j, (Xs j).K = mg.K := by intro _; rfl) : OpOk Xs mg (compareOp .NotEq) (rdT0 true) :=
  ⟨_, fun j => by rw [← hK j]; exact op_neT0 (hu j), fun W H x y dx dy Q Q' hh rx ry h q => ok_T0 hh rx ry h q⟩
/-! ### max of a list of ints -/
/-! ### x, y = [..], e -/
/-- a def that is not called -/
theorem DefOk.never {P : Program} {w : World} {mg : Gm} {base : Heap} {x qual : Str} {st : Stmt} {ps : List Str} {k : Nat} (d : ∃ fa fd, mg.mg x = some (.ref fa) ∧ Fun mg.K x qual st fa fd)
    (hb : ∀ (kV doc pm : Value) (an : Option Addr) (cdv ct : Value) (us : List Value), us.length = ps.length → bindArgs (PySem.W.fnOf x qual (defArgs st) (defBody st) (defScope st) .none kV doc pm an cdv ct) ⟨us, []⟩ = pure (ps.zip us)) : DefOk P w mg base k x ps.length (fun _ _ _ => False) := by
  obtain ⟨fa, fd, h1, F⟩ := d
  refine ⟨fa, fd, ps, h1, F.kp, F.binds hb, rfl, fun vs H Q E hs => ?_, fun A out z H ag us vs Q E _ _ _ _ hs => ?_⟩
  · obtain ⟨W, ds, Qd, Ed, _, _, _, h, _⟩ := hs
    exact h.elim
  · obtain ⟨W, ds, Qd, Ed, _, _, _, h, _⟩ := hs
    exact h.elim
end
end FP
/-! FP31: class facts put together; special methods by their bodies. -/
namespace FP
open PySem L2
variable [Tabl]
section
variable {mg : Gm}
theorem kit_no {n : String} {C : Addr} (ic : PySem.W.isClsIn mg.K C = true) (ty : PySem.W.typeIn mg.K (.ref C) = some (.type "type")) (h : PySem.W.subIn mg.K (.type n) (.ref C) = some false) : PySem.W.kitOne mg.K (.type n) (.ref C) = some false := by
  have e : (Value.type n == Value.ref C) = false := rfl
  unfold PySem.W.kitOne
  rw [e, if_neg Bool.false_ne_true]
  show (if ((PySem.W.clsIn mg.K C).isSome && PySem.W.typeIn mg.K (.ref C) == some (.type "type")) = true then PySem.W.subIn mg.K (.type n) (.ref C) else none) = _
  have ic : (PySem.W.clsIn mg.K C).isSome = true := ic
  rw [ic, ty, h]
  rfl
theorem isi_mk {c : Str} {C : Addr} (F : ClsF mg c C) (ic : PySem.W.isClsIn mg.K C = true) (ty : PySem.W.typeIn mg.K (.ref C) = some (.type "type")) (h0 : PySem.W.subIn mg.K (.type "NoneType") (.ref C) = some false) (h1 : PySem.W.subIn mg.K (.type "bool") (.ref C) = some false) (h2 : PySem.W.subIn mg.K (.type "int") (.ref C) = some false) (h3 : PySem.W.subIn mg.K (.type "str") (.ref C) = some false)
    (h4 : PySem.W.subIn mg.K (.type "tuple") (.ref C) = some false) (h5 : PySem.W.subIn mg.K (.type "list") (.ref C) = some false) (h6 : PySem.W.subIn mg.K (.type "dict") (.ref C) = some false) : IsiF mg C [c] (fun _ => true) := by
  refine ⟨fun n hn => kit_no ic ty ?_, fun x hx => ?_⟩
  · simp only [List.mem_cons, List.not_mem_nil, or_false] at hn
    rcases hn with rfl | rfl | rfl | rfl | rfl | rfl | rfl <;> assumption
  · rw [List.mem_singleton.mp hx]
    exact ⟨C, F, if_pos (beq_self_eq_true _)⟩
theorem FnG.imp {P : Program} {w : World} {K : PySem.W.Frag} {mg : Str → Option Value} {base : Heap} {k : Nat} {f : Addr} {fd : FuncData} {ps : List Str} {sp sp' : Sp} (F : FnG P w K mg base k f fd ps sp) (h : ∀ vs H Q E, sp' vs H Q E → sp vs H Q E) : FnG P w K mg base k f fd ps sp' :=
  ⟨fun vs H Q E hs => F.ln vs H Q E (h vs H Q E hs), fun A out z H ag us vs Q E m e0 bd rv hs => F.go A out z H ag us vs Q E m e0 bd rv (h vs H Q E hs)⟩
theorem spD_imp {n : Nat} {f f' : List D → M D} (h : ∀ ds Q E, f' ds Q E → f ds Q E) : ∀ vs H Q E, spD mg n f' vs H Q E → spD mg n f vs H Q E := by
  rintro vs H Q E ⟨W, ds, Qd, Ed, h1, h2, h3, h4, h5⟩
  exact ⟨W, ds, Qd, Ed, h1, h2, h3, h ds Qd Ed h4, h5⟩
theorem DefOk.mono {P : Program} {w : World} {base : Heap} {k k' n : Nat} {x : Str} {f f' : List D → M D} (F : DefOk P w mg base k x n f) (hk : k ≤ k') (h : ∀ ds Q E, f' ds Q E → f ds Q E) : DefOk P w mg base k' x n f' := by
  obtain ⟨fa, fd, ps, h1, h2, h3, h4, G⟩ := F.ex
  exact ⟨fa, fd, ps, h1, h2, h3, h4, (G.up hk).imp (spD_imp h)⟩
/-- nothing is caught -/
theorem CatF.nil {c : Value} {yes : Str → Bool} : CatF mg c [] yes := ⟨fun _ h => absurd h List.not_mem_nil⟩
end
end FP
/-! FP32: max(e, default=d) of whole numbers. -/
namespace FP
open PySem PyProof.Rows L2
end FP
/-! FP33: binary operators of own objects. -/
namespace FP
open PySem PyProof.Rows L2
end FP
/-! FP34: dicts walked (keys, values, items), d.get(k, x), dict(rows of pairs). -/
namespace FP
open PySem L2
end FP
/-! FP35: a list comprehension whose element raises. -/
namespace FP
open PySem L2
/-! ### the comprehension: what is wanted of an error, with the frame known -/
/-! ### the block's context, with a wish about errors -/
end FP
/-! FP36: the list comprehension whose element raises, by data. -/
namespace FP
open PySem L2
end FP
/-! FP37: a lambda without parameters is made: the heap behind it, told exactly. -/
namespace FP
open PySem L2 LamX
variable [Tabl]
/-- the heap behind the making: the same, or with one entry more in the table and a new code object -/
def Made (H : Hp) (P : Addr) (q : Str) (H1 : Hp) : Prop := H1 = H ∨ ∃ ps more c, H P = some (.tbl ps) ∧ H c = none ∧ H1 = upd (upd H P (.tbl (ps ++ more))) c (CodeO c q)
/-- the world is borne behind the making -/
theorem Made.step {W : Wd} {H H1 : Hp} {P : Addr} {q : Str} (hh : Holds W H) (mem : (P, q) ∈ Tabl.B) (m : Made H P q H1) (tabs : Tabs Tabl.B H1) : Step W H W H1 := by
  rcases m with rfl | ⟨ps, more, c, hP, nC, rfl⟩
  · exact Step.refl hh
  have tP : W.T P := (hh.tab _ mem).1
  have at' : ∀ b, b ≠ P → b ≠ c → upd (upd H P (.tbl (ps ++ more))) c (CodeO c q) b = H b := fun b h1 h2 => by rw [upd_ne h2, upd_ne h1]
  have atP : upd (upd H P (.tbl (ps ++ more))) c (CodeO c q) P = some (.tbl (ps ++ more)) := by rw [upd_ne (ne_of_none hP nC), upd_same]
  have nc : ∀ {b u}, H b = some u → b ≠ c := fun e => ne_of_none e nC
  have live : ∀ b o, H b = some o → ∃ o', upd (upd H P (.tbl (ps ++ more))) c (CodeO c q) b = some o' := fun b o e => by
    by_cases hb : b = P
    · rw [hb, atP]
      exact ⟨_, rfl⟩
    · rw [at' b hb (nc e)]
      exact ⟨o, e⟩
  have nP : ∀ b o, W.H b = some o → b ≠ P := fun b o e k => by
    rw [k, (hh.exm P tP).1] at e
    cases e
  refine ⟨Le.refl W, ⟨fun b o e => ?_, fun a t => ?_, fun a t => ?_, fun p hp => ⟨(hh.tab p hp).1, tabs p hp⟩, fun b qs e => ?_⟩, fun b o e nt => ?_, fun _ _ _ => rfl, fun _ t => .inl t, live⟩
  · rw [at' b (nP b o e) (nc (hh.same b o e))]
    exact hh.same b o e
  · obtain ⟨h1, o, h2⟩ := hh.exm a t
    exact ⟨h1, live a o h2⟩
  · obtain ⟨h1, x, y, z, h2⟩ := hh.tok a t
    have ne : a ≠ P := fun k => by
      rw [k, hP] at h2
      cases h2
    exact ⟨h1, x, y, z, by rw [at' a ne (nc h2)]; exact h2⟩
  · by_cases hb : b = P
    · exact ⟨q, by rw [hb]; exact mem⟩
    · by_cases hc : b = c
      · rw [hc, upd_same] at e
        exact absurd (Option.some.inj e) (codeO_ne _)
      · rw [at' b hb hc] at e
        exact hh.all b qs e
  · have ne : b ≠ P := fun k => nt (by rw [k]; exact tP)
    rw [at' b ne (nc e)]
    exact e
end FP
/-! FP38: x(lambda: e), where x calls what it got. -/
namespace FP
open PySem L2 LamX
variable [Tabl]
/-- the data of an environment alone -/
def Sl.only : Sl → Sl
  | .d x => .d x
  | _ => .no
abbrev dataE (ρ : Env) : Env := ρ.map Sl.only
theorem EnvR.data {mg : Gm} {B B' : Hp} {W W' : Wd} {H H' : Hp} {σ : St} {ρ : Env} (e : EnvR mg B W H σ ρ) (l : Le W W') : EnvR mg B' W' H' σ (dataE ρ) := by
  refine ⟨by simpa using e.len, fun i s h => ?_, fun i j xs ys o1 o2 a _ h1 _ _ _ m1 _ => ?_⟩
  · rw [List.getElem?_map] at h
    cases q : ρ[i]? with
    | none =>
      rw [q] at h
      cases h
    | some s0 =>
      rw [q] at h
      cases h
      obtain ⟨o, h1, h2⟩ := e.sl _ _ q
      refine ⟨o, h1, ?_⟩
      cases s0 with
      | d x =>
        obtain ⟨v, h3, h4⟩ := h2
        exact ⟨v, h3, h4.mono l⟩
      | _ => exact True.intro
  · rw [List.getElem?_map] at h1
    cases q : ρ[i]? with
    | none =>
      rw [q] at h1
      cases h1
    | some s0 =>
      rw [q] at h1
      cases h1
      cases s0 <;> cases m1
/-! ### what was got is called -/
/-! ### a def that calls what it got -/
end FP
/-! FP39: the end of a law whose defs make lambdas. -/
namespace FP
open PySem PySem.Spec PyProof.Rows L2 LamX
end FP
/-! FP40: dict(list of pairs); facts of operators and of exceptions. -/
namespace FP
open PySem L2
variable [Tabl]
section
variable {ι : Type} {Xs : ι → Cx} {mg : Gm} {Wx : WX} {pos : Pos}
/-- one of two readings of an operator -/
theorem OpOk.or {f : Value → Value → Sem Value} {rd rd' : RD2} (a : OpOk Xs mg f rd) (b : OpOk Xs mg f rd') : OpOk Xs mg f (fun x y Q => rd x y Q ∨ rd' x y Q) := by
  obtain ⟨r, a1, a2⟩ := a
  obtain ⟨r', b1, b2⟩ := b
  refine ⟨fun x y H Q => r x y H Q ∨ r' x y H Q, fun i pins s σ H x y v u Q I rx ry h => ?_, fun W H x y dx dy Q Q' hh rx ry h q => ?_⟩
  · rcases h with h | h
    · exact a1 i pins s σ H x y v u Q I rx ry h
    · exact b1 i pins s σ H x y v u Q I rx ry h
  · rcases h with h | h
    · exact .inl (a2 W H x y dx dy Q Q' hh rx ry h q)
    · exact .inr (b2 W H x y dx dy Q Q' hh rx ry h q)
/-! ### facts of operators -/
end
/-! ### facts of exceptions -/
abbrev veBm : List Value := [.type "ValueError", .type "Exception", .type "BaseException", .type "object"]
theorem veB : ExcBaseFacts "ValueError" "ValueError.__new__" "ValueError.__init__" veBm := PySem.F.excBase_ValueError
theorem InitOk.imp {P : Program} {w : World} {mg : Gm} {base : Heap} {k n : Nat} {c : Str} {C : Addr} {f f' : List D → ((List (Str × D)) → Prop) → (XD → Prop) → Prop} (G : InitOk P w mg base k c C n f) (h : ∀ ds Q E, f' ds Q E → f ds Q E) : InitOk P w mg base k c C n f' := by
  obtain ⟨fa, fd, ps, h1, h2, h3, F⟩ := G.ex
  refine ⟨fa, fd, ps, h1, h2, h3, F.imp ?_⟩
  rintro vs H Q E ⟨W, ds, us, H1, x, dx, Qd, Ed, g1, g2, g3, g4, g5, g6, g7, g8, g9, g10⟩
  exact ⟨W, ds, us, H1, x, dx, Qd, Ed, g1, g2, g3, g4, g5, g6, g7, g8, h _ _ _ g9, g10⟩
end FP
/-! FP41: displays of dicts. -/
namespace FP
open PySem L2
variable [Tabl]
section
variable {ι : Type} {Xs : ι → Cx} {mg : Gm} {Wx : WX} {pos : Pos}
abbrev DTP := Env → M (List (Key × D))
abbrev dPn : DTP := fun _ Q _ => Q []
end
end FP
/-! FP42: own exceptions with one field: made and raised; several except clauses, with and without a name; the field read. -/
namespace PySem
namespace XcM
open PySem.W PySem.Calls PyProof.Rows PySem.HandSPX Builtin Builtin.ObjectAttr
/-! ### the text of the __init__ -/
def initA (f : Str) (p1 p2 : Pos) : Arguments := { posonlyargs := [], args := [{ arg := "self", annotation := none, pos := p1 }, { arg := f, annotation := none, pos := p2 }], vararg := none, kwonlyargs := [], kw_defaults := [], kwarg := none, defaults := [] }
def initB (f : Str) (q1 q2 q3 q4 : Pos) : List Stmt := [.Assign [.Attribute (.Name "self" q1) f q2] (.Name f q3) q4]
def initS (f : Str) : Scope := { kind := .function, names := [("self", .local), (f, .local)], isGenerator := false, isCoroutine := false, more := [] }
/-- a def of this text -/
structure IsInit (f : Str) (A : Arguments) (b : List Stmt) (sc : Scope) : Prop where
  ne : f ≠ "self"
  nd : (f == ("__debug__" : Str)) = false
  a : ∃ p1 p2, A = initA f p1 p2
  b : ∃ q1 q2 q3 q4, b = initB f q1 q2 q3 q4
  s : sc = initS f
/-- what the written part says of an own exception class over a built-in one, at C, and of its __init__, at fI, that keeps its one argument -/
structure XcT (K : Frag) (C fI : Addr) (f : Str) (bmB : List Value) (newId : String) : Prop where
  ei : excInitIn K C bmB newId = true
  ov : excOver K C bmB = true
  sa : findIn K (.ref C) "__setattr__" = some (some (.builtin "object.__setattr__"))
  no : findIn K (.ref C) f = some none
  hd : hasDictIn K C = true
  iC : findIn K (.ref C) "__init__" = some (some (.ref fI))
  iF : isFn K (.ref fI) = true
  fn : ∃ (nm qual : Str) (A : Arguments) (b : List Stmt) (sc : Scope) (oc : Value) (od : Option Addr) (dV kV doc pm : Value) (an : Option Addr) (cdv ct : Value) (osl : Array (Option Value)),
    K.lookup fI = some ⟨oc, od, .func (fnOf nm qual A b sc dV kV doc pm an cdv ct), osl⟩ ∧ codeIn K cdv qual = true ∧ IsInit f A b sc ∧
      ∀ x v, bindArgs (fnOf nm qual A b sc dV kV doc pm an cdv ct) ⟨[x, v], []⟩ = pure [(("self" : Str), x), (f, v)]
section
variable {prog : Program} {w : World} {A : Around} {E : Value → Shared → Prop} {R : Result → Shared → Prop} {K : Frag} {C fI : Addr} {f : Str} {B newId initId : String} {bmB : List Value}
/-- the first field of an exception without a dict -/
theorem osa_one {hp : Heap} {g : Array GenState} {d : Drawn} {t : Nat} {os : OsState} {tk : Tok} {v : Value} {x : Addr} {fv : Array Value} (SF : StoreFacts B bmB "object.__setattr__" "object") (X : K.In hp) (T : XcT K C fI f bmB newId) (hx : hp.get? x = some { cls := .ref C, data := .fields fv })
    (hq : ∀ h' tk' dx, (∀ b o, b ≠ x → hp.get? b = some o → h'.get? b = some o) → hp.objs.size ≤ dx → dx ≠ x → h'.get? x = some { cls := .ref C, dict := some dx, data := .fields fv } →
      h'.Ns1 dx (fun y => if y = f then some v else none) → R (.ok (.ret .none)) ⟨h', g, d, tk', os⟩) :
    codeAny (model prog w) A (.call (.builtin "object.__setattr__") ⟨[.ref x, .str f tk, v], []⟩) R ⟨hp, g, d, t, os⟩ := by
  have J : InstAt hp x { cls := .ref C, data := .fields fv } C none := ⟨hx, rfl, rfl, trivial⟩
  have ht : takerIn K C f = some none := by
    unfold takerIn
    rw [T.no]
    rfl
  refine osa_openX SF X J T.ov ht fun b => ?_
  obtain ⟨cd, hc, -⟩ := any_some T.ov
  have hh : cd.hasDict = true := by
    have q := T.hd
    unfold hasDictIn at q
    rw [hc] at q
    exact q
  have hcls : Looks (model prog w) hp (classData C) cd := looks_clsIn X hc
  have hxs : x ≠ hp.objs.size := Nat.ne_of_lt (Heap.lt_size hx)
  show wpAny _ _ (storeInOwnDict (.ref x) (.ref C) (.str f tk) f v b) _ _ _
  obtain ⟨nm, bs, mro, ns, qn, hd, sn, sb, ab, col, del⟩ := cd
  dsimp only at hh
  subst hh
  unfold storeInOwnDict ownDictForStores
  repeat (first | with_reducible refine store_in_new ?_ ?_ | with_reducible refine wpAny_loadPart_at hx ?_ | with_reducible refine hcls.at ?_ | wp_step)
  · exact ⟨_, #[], _, (Heap.get?_update_ne _ _ _ _ hxs.symm).trans (Heap.get?_push_at rfl rfl), rfl, fun e he => absurd he (by simp), fun _ => rfl⟩
  · intro h' tk' hn' hs
    refine hq h' tk' hp.objs.size (fun b o hb ho => ?_) (Nat.le_refl _) hxs.symm ?_ hn'
    · exact (hs.2 b (Nat.ne_of_lt (Heap.lt_size ho))).trans ((Heap.get?_update_ne _ _ _ _ hb).trans (Heap.get?_push_of_some _ ho))
    · exact (hs.2 x hxs).trans (Heap.get?_update_self _ (Heap.get?_push_of_some _ hx) rfl)
/-- what the making leaves: the exception at e, its dict at dd -/
structure XMade (h h' : Heap) (e C dd : Addr) (f : Str) (v : Value) : Prop where
  up : ∀ b o, h.get? b = some o → h'.get? b = some o
  ge : h.objs.size ≤ e
  ob : ∃ oe vs, h'.get? e = some oe ∧ oe.cls = .ref C ∧ oe.dict = some dd ∧ oe.data = .fields vs ∧ vs[1]? = some .none
  gd : h.objs.size ≤ dd
  ne : dd ≠ e
  ns : h'.Ns1 dd (fun y => if y = f then some v else none)
theorem init_run {s : Shared} (SF : StoreFacts B bmB "object.__setattr__" "object") (T : XcT K C fI f bmB newId) {x t0 : Addr} {v : Value} (X : K.In s.heap) (hlim : s.heap.NoLimit) (hx : s.heap.get? x = some (excO C t0)) (hroom : A.depth < recursionLimit)
    (hq : ∀ h' tk dx, (∀ b o, b ≠ x → s.heap.get? b = some o → h'.get? b = some o) → h'.get? x = some { cls := .ref C, dict := some dx, data := .fields #[.ref t0, .none, .none, .none, .bool false, .none] } → s.heap.objs.size ≤ dx → dx ≠ x → h'.Ns1 dx (fun y => if y = f then some v else none) →
      R (.ok (.ret .none)) { s with heap := h', toks := tk }) :
    codeAny (model prog w) A (.call (.ref fI) ⟨[.ref x, v], []⟩) R s := by
  obtain ⟨nm, qual, A', b', sc, oc, od, dV, kV, doc, pm, an, cdv, ct, osl, ho, hcd, ⟨hne, hnd, ⟨p1, p2, rfl⟩, ⟨q1, q2, q3, q4, rfl⟩, rfl⟩, hb⟩ := T.fn
  have lk1 : (initS f).names.lookup ("self" : Str) = some NameKind.local := rfl
  have lk2 : (initS f).names.lookup f = some NameKind.local := by
    have e : (f == ("self" : Str)) = false := by simpa using hne
    simp [initS, List.lookup, e]
  refine Att.call_fn (binds := [(("self" : Str), .ref x), (f, v)]) X hlim ho hcd hroom (BindsTo.of_eq (hb _ _)) (by simp [lk1, lk2]) (fun s₁ IC => ?_) rfl rfl rfl
  obtain ⟨h₁, tk₁, rfl⟩ := IC.toInCall.same
  have k := IC.toInCall.keep
  have hn := IC.toInCall.ns
  have hx₁ := k _ _ hx
  have m1 : bindL (envOfC qual (initS f) s.heap.objs.size fI cdv).kindOf [(("self" : Str), .ref x), (f, v)] (fun _ => none) "self" = some (.ref x) := by
    have z1 : (envOfC qual (initS f) s.heap.objs.size fI cdv).kindOf "self" = some .local := lk1
    have z2 : (envOfC qual (initS f) s.heap.objs.size fI cdv).kindOf f = some .local := lk2
    simp only [bindL, z1, z2, if_pos]
    rw [if_neg (Ne.symm hne)]
  have m2 : bindL (envOfC qual (initS f) s.heap.objs.size fI cdv).kindOf [(("self" : Str), .ref x), (f, v)] (fun _ => none) f = some v := by
    have z2 : (envOfC qual (initS f) s.heap.objs.size fI cdv).kindOf f = some .local := lk2
    simp only [bindL, z2, if_pos]
  show wpAny _ _ (execs _ _) _ _ _
  refine wpAny_execs_cons (plainObj_wpAny_Assign_Attribute ?_)
  refine wpAny_Name (wpAny_loadName_local rfl lk2 hn m2 ?_) hnd
  refine wpAny_Name (wpAny_loadName_local rfl lk1 hn m1 ?_) (by decide)
  refine set_plain (X.keeps k) (ox := excO C t0) (od := none) ⟨hx₁, rfl, rfl, trivial⟩ T.sa ?_
  refine osa_one SF (X.keeps k) T hx₁ fun h₃ tk₃ dx k₃ dn dne hx₃ hn₃ => ?_
  show wpAny _ _ (execs _ _) _ _ _
  exact wpAny_execs_nil (hq h₃ tk₃ dx (fun b o hb e => k₃ b o hb (k b o e)) hx₃ (Nat.le_of_lt (Nat.lt_of_lt_of_le hn.lt dn)) dne hn₃)
theorem made_run {s : Shared} (FB : ExcBaseFacts B newId initId bmB) (SF : StoreFacts B bmB "object.__setattr__" "object") (T : XcT K C fI f bmB newId) {v : Value} (X : K.In s.heap) (hlim : s.heap.NoLimit) (hroom : A.depth + 1 < recursionLimit)
    (hq : ∀ h' tk e d, XMade s.heap h' e C d f v → R (.ok (.ret (.ref e))) { s with heap := h', toks := tk }) : codeAny (model prog w) A (.call (.ref C) ⟨[v], []⟩) R s := by
  obtain ⟨nm, N, qn, bs, bm, hdct, sn, sub, ab, col, dd, k0, k1, k2, k3, k5, hC, hT⟩ := excInit_of X T.ei
  obtain ⟨oI, hoI, hcI⟩ : ∃ oI, s.heap.get? fI = some oI ∧ oI.cls = .type "function" := by
    obtain ⟨o, z1, z2⟩ := Option.map_eq_some_iff.mp (show (K.lookup fI).map (·.cls) = some (.type "function") from beq_iff_eq.mp T.iF)
    exact ⟨o, X _ _ z1, z2⟩
  have hfind : Looks (model prog w) s.heap (typeLookup (.ref C) "__init__") (some (.ref fI)) := looks_findIn X T.iC
  obtain ⟨hp, g, dr, tk, os⟩ := s
  have up : ∀ b o, hp.get? b = some o → ((hp.push (kdv_tup [v])).push (excO C hp.objs.size)).get? b = some o := fun b o e => Heap.get?_push_of_some _ (Heap.get?_push_of_some _ e)
  have new : ((hp.push (kdv_tup [v])).push (excO C hp.objs.size)).get? (hp.objs.size + 1) = some (excO C hp.objs.size) := by heap_get
  refine call_own FB hT hC hfind (fun self => exc_bind hoI hcI self) (by rw [sizeLine_eq]; exact (by decide : 1 ≤ 16777216)) ?_
  refine init_run (s := ⟨(hp.push (kdv_tup [v])).push (excO C hp.objs.size), g, dr, tk, os⟩) SF T (X.keeps up) (hlim.keeps up) new hroom fun h' tk' dx k' hx dn dne hns => ⟨rfl, hq h' tk' (hp.objs.size + 1) dx ⟨fun b o e => ?_, Nat.le_succ _, ⟨_, _, hx, rfl, rfl, rfl, rfl⟩, ?_, dne, hns⟩⟩
  · exact k' b o (Nat.ne_of_lt (Nat.lt_succ_of_lt (Heap.lt_size e))) (up b o e)
  · have q : ((hp.push (kdv_tup [v])).push (excO C hp.objs.size)).objs.size ≤ dx := dn
    rw [Heap.size_push, Heap.size_push] at q
    exact Nat.le_trans (Nat.le_add_right hp.objs.size 2) q
end
end XcM
end PySem
namespace FP
open PySem L2
variable [Tabl]
/-- an own exception class with one field, of the text -/
structure XcF (mg : Gm) (x : Str) (C : Addr) (f : Str) (bmB : List Value) (newId : String) : Prop where
  nm : mg.mg x = some (.ref C)
  t : ∃ fI, PySem.XcM.XcT mg.K C fI f bmB newId
  kp : PySem.W.keepIn mg.K (.ref C) = true
  sb : PySem.W.subIn mg.K (.ref C) (.type "BaseException") = some true
  ty : PySem.W.typeIn mg.K (.ref C) = some (.type "type")
  ga : PySem.W.findIn mg.K (.ref C) "__getattribute__" = some (some (.builtin "BaseException.__getattribute__"))
  gg : PySem.W.findIn mg.K (.ref C) "__getattr__" = some none
section
variable {X : Cx} {C fI : Addr} {f : Str} {B newId initId : String} {bmB : List Value}
theorem relO_one {v : V} {v' : Value} (r : RelV v v') (g : Str) : RelO (List.lookup g [(f, v)]) (if g = f then some v' else none) := by
  by_cases h : g = f
  · subst h
    have q : List.lookup g [(g, v)] = some v := by simp [List.lookup]
    rw [q, if_pos rfl]
    exact r
  · have e : (g == f) = false := by simpa using h
    have q : List.lookup g [(f, v)] = none := by simp [List.lookup, e]
    rw [q, if_neg h]
    exact True.intro
/-- X(e): the exception, its dict -/
theorem pmk_one {a : Expr} {x : Str} {ta : TE} {p pos : Pos} {k : Nat} (FB : ExcBaseFacts B newId initId bmB) (SF : StoreFacts B bmB "object.__setattr__" "object") (T : PySem.XcM.XcT X.K C fI f bmB newId) (gC : X.mg x = some (.ref C)) (kC : PySem.W.keepIn X.K (.ref C) = true) (r : Raises X (.ref C)) (hr : Room k X.A) (ha : PE X a ta) (hg : Gl X x)
    (hdb : (x == ("__debug__" : Str)) = false) (hs : starEach [a] X.env = (false, eval a X.env) :: starEach [] X.env) :
    PMk X (.Call (.Name x p) [a] [] pos) (fun σ H Q => ta σ H fun v H1 => ∀ d, H1 d = none → Q (.ref C) (some d) (upd H1 d (.xd [(f, v)]))) := by
  intro pins s σ H Q I h
  refine wpAny_Call_Name_kw (ld_glob I hg gC ?_ hdb)
  refine PySem.W.callWith_K (h₀ := X.base) I.ok.mod.kin kC ?_ hs (by rfl)
  rw [hs]
  show wpAny _ _ (spliced ((false, eval a X.env) :: backTo pos (starEach [] X.env))) _ _ s
  refine Calls.spliced_cons (thn (ha.run pins s σ H _ I h) fun u s1 ⟨v, H1, I1, rv, q1⟩ => ?_)
  refine Calls.spliced_nil ⟨I1.kIn, ?_⟩
  show wpAny _ _ (call (.ref C) [u]) _ _ _
  have hlim := I1.nolimit
  obtain ⟨hp, g, dr, tk, os⟩ := s1
  refine wpAny_call (PySem.XcM.made_run FB SF T I1.kIn hlim (by have := hr.dp; omega) fun h' tk' e d M => ?_)
  show MkP X pins σ Q (.ref e) ⟨h', g, dr, tk', os⟩
  obtain ⟨oe, fv, hoe, hc, hd, hdat, h1⟩ := M.ob
  obtain ⟨G, g1, g2⟩ := restrict h' fun b => decide (b ≠ e)
  have gk : ∀ b, b ≠ e → G.get? b = h'.get? b := fun b hb => g1 b (decide_eq_true hb)
  have ge : G.get? e = none := g2 e (by simp)
  have ob : ObjOk X.prog X.w (upd H1 d (.xd [(f, v)])) G d (.xd [(f, v)]) := ⟨_, M.ns.at (fun o q => (gk d M.ne).trans q), fun y => relO_one rv y⟩
  have J : Inv X pins σ (upd H1 d (.xd [(f, v)])) ⟨G, g, dr, tk', os⟩ :=
    I1.laid (t' := tk') (fun b o q => (gk b (Nat.ne_of_lt (Nat.lt_of_lt_of_le (Heap.lt_size q) M.ge))).trans (M.up b o q)) M.gd ob
  refine ⟨e, oe, fv, ⟨G, g, dr, tk', os⟩, _, .ref C, some d, rfl, J, fun b o q => ?_, ge, hoe, ⟨hc, hd⟩, hdat, h1, ?_, rfl, I1.bare, r, q1 d (I1.hok.fresh M.gd)⟩
  · by_cases hb : b = e
    · rw [hb] at q
      exact absurd (ge.symm.trans q) (by simp)
    · exact (gk b hb).symm.trans q
  · rw [upd_ne (Ne.symm M.ne)]
    exact I1.hok.fresh M.ge
end
section
variable {ι : Type} {Xs : ι → Cx} {mg : Gm} {Wx : WX} {pos : Pos}
abbrev dRaiseA (x f : Str) (g : DTE) : DTS := fun N ρ => g ρ (fun d => N.rs ⟨x, [(f, d)]⟩ ρ) (fun y => N.rs y ρ)
theorem ds_raiseA {x f : Str} {C : Addr} {bmB : List Value} {B newId initId : String} {e : Expr} {fe : DTE} {p q : Pos} {k : Nat} (FB : ExcBaseFacts B newId initId bmB) (SF : StoreFacts B bmB "object.__setattr__" "object") (X : XcF mg x C f bmB newId) (hr : ∀ i, RmG k (Xs i).A) (tk : ∀ i, Takes (Xs i) Wx) (he : DE Xs mg Wx e fe)
    (hK : ∀ j, (Xs j).K = mg.K := by intro _; rfl) (hM : ∀ j, (Xs j).mg = mg.mg := by intro _; rfl) (hc : ∀ j, (Xs j).calm = true := by intro _; rfl) (hg : ∀ j, Gl (Xs j) x := by intro _; rfl) (hdb : (x == ("__debug__" : Str)) = false := by decide)
    (hs : ∀ j, starEach [e] (Xs j).env = (false, eval e (Xs j).env) :: starEach [] (Xs j).env := by intro _; rfl) : DS Xs mg Wx (.Raise (some (.Call (.Name x p) [e] [] q)) none pos) (dRaiseA x f fe) := by
  obtain ⟨te, e1, e2⟩ := he
  obtain ⟨fI, T⟩ := X.t
  refine ⟨_, fun i => ps_raise (pos := pos) (hc i) (tk i) (pmk_one (p := p) (pos := q) FB SF (by rw [hK i]; exact T) (by rw [hM i]; exact X.nm) (by rw [hK i]; exact X.kp) (raises_own (by rw [hK i]; exact X.sb) (by rw [hK i]; exact X.ty)) (hr i).r (e1 i) (hg i) hdb (hs i)), fun W0 B N ρ hf W σ H Ds s e n => ?_⟩
  refine e2 B ρ _ _ hf W σ H _ s.holds e (n.ex s e) fun W1 H1 v d s1 r1 k1 p hp => ?_
  have st := Step.alloc (o := .xd [(f, v)]) s1.holds hp
  refine n.rs _ _ σ ρ _ _ ⟨x, [(f, d)]⟩ ((s.trans s1).trans st) ((e.step s1).step st) ⟨C, X.nm, rfl, .inr ⟨p, [(f, v)], rfl, upd_same, rfl, .cons (r1.mono st.le) .nil⟩⟩ k1
end
end FP
/-! FP43: try with several except clauses, with and without a name; the field of the error read. -/
namespace FP
open PySem PySem.Spec PyProof.Rows L2
/-- a clause: its class, its name's place, its suite's reading -/
structure Cl where
  c : Value
  i : Option Nat
  ts : Addr → Value → Option Addr → TS
def Cl.ends (k : Cl) (D : Ends) : Ends := match k.i with
  | none => D
  | some i => { nx := fun σ H => D.nx (σ.set i none) H, rt := D.rt, bk := fun σ H => D.bk (σ.set i none) H, ct := fun σ H => D.ct (σ.set i none) H }
def Cl.slots (k : Cl) (a : Addr) (σ : L2.St) : L2.St := match k.i with
  | none => σ
  | some i => σ.set i (some (.ref a))
/-- what the clauses ask of an error, one after the other -/
def wCls (K : PySem.W.Frag) (Wout : WX) (D : Ends) : List Cl → WX
  | [] => Wout
  | k :: r => fun cls d σ H => ∃ b, PySem.W.exmOne K cls k.c = some b ∧ (b = true → ∀ a, H a = none → k.ts a cls d (k.ends D) (k.slots a σ) H) ∧ (b = false → wCls K Wout D r cls d σ H)
/-- a suite's rule, for every error that it may hold -/
def SuOk (X : Cx) (su : List Stmt) (ts : Addr → Value → Option Addr → TS) : Prop :=
  ∀ (a : Addr) (oe : Obj) (cls : Value) (d : Option Addr) (pn : List (Addr × Obj)), Zc cls d oe → (∃ vs, oe.data = .fields vs) → PSs (X.suite a ((a, oe) :: pn)) su (ts a cls d)
inductive ClsOk (X : Cx) : List ExceptHandler → List Cl → Prop
  | nil : ClsOk X [] []
  | cons {x : Str} {c : Value} {ts : Addr → Value → Option Addr → TS} {b₀ : Stmt} {su : List Stmt} {np p : Pos} {hds : List ExceptHandler} {l : List Cl} (hc : Names X x c) (hsu : SuOk X (b₀ :: su) ts) (r : ClsOk X hds l) :
      ClsOk X (.ExceptHandler (some (.Name x np)) none (b₀ :: su) p :: hds) (⟨c, none, ts⟩ :: l)
  | conA {x n : Str} {i : Nat} {c : Value} {ts : Addr → Value → Option Addr → TS} {b₀ : Stmt} {su : List Stmt} {np p : Pos} {hds : List ExceptHandler} {l : List Cl} (hc : Names X x c) (hi : X.N[i]? = some n) (hl : X.env.kindOf n = some .local) (hsu : SuOk X (b₀ :: su) ts) (r : ClsOk X hds l) :
      ClsOk X (.ExceptHandler (some (.Name x np)) (some n) (b₀ :: su) p :: hds) (⟨c, some i, ts⟩ :: l)
section
variable {X : Cx} {body : List Stmt} {h₀ : ExceptHandler} {hds : List ExceptHandler} {l : List Cl} {pos : Pos} {tb : WX → TS} {Wout : WX}
theorem ps_try_cls (hs : X.stack = X.env :: X.outer) (hf : X.env.frame = some X.env.locals) (hN : X.N.Nodup) (tk : Takes X Wout)
    (hb : ∀ (W : WX) (pn : List (Addr × Obj)) (xe : Value → Shared → Prop), Takes (X.tr pn xe) W → PassesOwn (model X.prog X.w) X.A X.env xe → PSs (X.tr pn xe) body (tb W))
    (hh : ClsOk X (h₀ :: hds) l) : PS X (.Try body (h₀ :: hds) [] [] pos) (fun D σ H => tb (wCls X.K Wout D l) D σ H) := by
  constructor
  intro pins s σ H D I h
  have ok := I.ok
  have hfr : X.A.frames = some (X.env :: X.outer) := by rw [ok.frames, hs]
  apply wpAny_Try_except
  let catch_ : Value → Shared → Prop := fun e s₁ => wpAny (model X.prog X.w) X.A (noteFrame e X.env) (fun _ s₂ => wpAny (model X.prog X.w) X.A (setFlight e none) (fun _ s₃ =>
    wpAny (model X.prog X.w) X.A (handleBy e X.env (h₀ :: hds)) (SP X pins D) X.xe s₃) X.xe s₂) X.xe s₁
  have taken : Takes (X.tr (X.pn ++ pins) catch_) (wCls X.K Wout D l) := by
    intro u s' xx
    obtain ⟨a, B, sI, pins', σ', H', cls, d, rfl, J', nb, up, sky, na, os, ag, w⟩ := xx
    have J : Inv X pins σ' H' sI := J'.ofTry ok
    have sky' : Sky B (X.env :: X.outer) a (Zc cls d) X.env.locals s'.heap := by rw [← hs]; exact sky
    show wpAny (model X.prog X.w) X.A (noteFrame (.ref a) X.env) _ _ _
    refine Sky.land Zc.steady hfr hf sky' fun h3 fl3 up3 => ?_
    have J3 : Inv X pins σ' H' { s' with heap := h3 } := J.landed nb fl3.1 (up.trans up3) os ag
    obtain ⟨oe3, vs3, he3, hz3, hd3⟩ := fl3.there
    have off : a ∉ frs (X.env :: X.outer) := fun hm => by
      obtain ⟨_, o', e', hnf⟩ := (show h3.FunFrames B (X.env :: X.outer) from fl3.2.2.1).mem hm
      rw [he3] at e'
      cases e'
      exact hnf _ hd3
    have nL : a ≠ X.env.locals := fun z => off (List.mem_filterMap.mpr ⟨X.env, List.mem_cons_self, by rw [hf, z]⟩)
    have nF : a ∉ X.fs := fun hm => by
      obtain ⟨e, he, q⟩ := List.mem_filterMap.mp hm
      exact off (List.mem_filterMap.mpr ⟨e, List.mem_cons_of_mem _ he, q⟩)
    have S3 := J3.suite he3 hd3 na nL nF
    have LT : PySem.W.Looks (model X.prog X.w) h3 (typeOf (.ref a)) cls := fun A Q E s k q => wpAny_typeOf_ref (k _ _ he3) (by rw [hz3.1]; exact q)
    have named : ∀ {x : Str} {c : Value} {np : Pos} {Q E : Value → Shared → Prop}, Names X x c → Q c { s' with heap := h3 } → wpAny (model X.prog X.w) (X.A.mark (some (.ref a))) (eval (.Name x np) X.env) Q E { s' with heap := h3 } := fun {x c np Q E} hc q => by
      rcases hc with ⟨hg, hdbg, hm | ⟨hm, hv, hnn⟩⟩
      · exact ld_glob (X := X.suite a ((a, oe3) :: (X.pn ++ pins))) S3 hg hm q hdbg
      · exact ld_blt (X := X.suite a ((a, oe3) :: (X.pn ++ pins))) S3 hg hm hv q hnn hdbg
    -- one clause's suite, where it is taken
    have landS : ∀ {A : Around} {E : Value → Shared → Prop} {Q : Unit → Shared → Prop}, (∀ h4 oe4, Inv X pins σ' H' { s' with heap := h4 } → Inv (X.suite a ((a, oe4) :: (X.pn ++ pins))) [] σ' H' { s' with heap := h4 } → Zc cls d oe4 → (∃ vs, oe4.data = .fields vs) → Q () { s' with heap := h4 }) →
        wpAny (model X.prog X.w) A (setFlight (.ref a) none) Q E { s' with heap := h3 } := fun {A E Q} hq => by
      refine HandSPX.lands_againZ fl3 fun h4 fl4 up4 => ?_
      have J4 : Inv X pins σ' H' { s' with heap := h4 } := J.landed nb fl4.1 ((up.trans up3).trans up4) os ag
      obtain ⟨oe4, vs4, he4, hz4, hd4⟩ := fl4.there
      exact hq h4 oe4 J4 (J4.suite he4 hd4 na nL nF) hz4 ⟨_, hd4⟩
    have go : ∀ {hs' : List ExceptHandler} {l' : List Cl}, ClsOk X hs' l' → wCls X.K Wout D l' cls d σ' H' →
        wpAny (model X.prog X.w) X.A (handleBy (.ref a) X.env hs') (SP X pins D) X.xe { s' with heap := h3 } := by
      intro hs' l' hk
      induction hk with
      | nil =>
        intro w
        apply wpAny_handleBy_nil
        obtain ⟨k1, k2, k3, oe, vs, T, oT, ts', he, hz, hd, h1, hr⟩ := id fl3
        unfold PySem.passOn
        refine wpAny_bind (wpAny_field he hd h1 ?_)
        rw [if_neg (show ¬ ((Value.ref T == Value.none) = true) from by simp)]
        have out : wpAny (model X.prog X.w) X.A (setFlight (.ref a) X.env.frame) (fun _ s4 => wpAny (model X.prog X.w) X.A (throw (.ref a) : Sem Flow) (SP X pins D) X.xe s4) X.xe { s' with heap := h3 } := by
          rw [hf]
          refine HandSPX.setFlight_upZ fl3 fun h4 hh4 up4 => wpAny_throw (tk _ _ ?_)
          exact ⟨a, B, sI, pins, σ', H', cls, d, rfl, J, nb, (up.trans up3).trans up4, .inr (.inr (by rw [hs]; exact hh4)), na, os, ag, w⟩
        first
          | exact wpAny_bind (wpAny_pure (wpAny_bind out))
          | exact wpAny_bind out
      | @cons x c ts b₀ su np p hds2 l2 hc hsu r ih =>
        rintro ⟨b, hb1, hyes, hno⟩
        refine wpAny_handleBy_cons (codeAny_handlers_test ?_) (by intro q; cases q)
        refine named hc ((PySem.W.exm_one (M := model X.prog X.w) J3.kIn LT hb1).here ?_)
        cases b with
        | false =>
          show wpAny _ X.A (handleBy (.ref a) X.env hds2) _ _ _
          exact ih (hno rfl)
        | true =>
          refine codeAny_handlers_suite (landS fun h4 oe4 J4 S4 hz4 hd4 => ?_)
          refine wpAny_mono ((hsu a oe4 cls d (X.pn ++ pins) hz4 hd4).run [] _ _ H' _ S4 (hyes rfl a na)) (fun f s6 hsp => ?_) fun _ _ z => z.elim
          cases f with
          | next => exact hsp.elim fun σ6 ⟨H6, S6, q6⟩ => ⟨_, _, S6.unsuite ok, q6⟩
          | brk => exact hsp.elim fun σ6 ⟨H6, S6, q6⟩ => ⟨_, _, S6.unsuite ok, q6⟩
          | cont => exact hsp.elim fun σ6 ⟨H6, S6, q6⟩ => ⟨_, _, S6.unsuite ok, q6⟩
          | ret u => exact hsp.elim fun v6 ⟨σ6, H6, S6, r6, q6⟩ => ⟨_, _, _, S6.unsuite ok, r6, q6⟩
      | @conA x n i c ts b₀ su np p hds2 l2 hc hi hln hsu r ih =>
        rintro ⟨b, hb1, hyes, hno⟩
        refine wpAny_handleBy_cons (codeAny_handlers_test ?_) (by intro q; cases q)
        refine named hc ((PySem.W.exm_one (M := model X.prog X.w) J3.kIn LT hb1).here ?_)
        cases b with
        | false =>
          show wpAny _ X.A (handleBy (.ref a) X.env hds2) _ _ _
          exact ih (hno rfl)
        | true =>
          refine codeAny_handlers_suite_as (landS fun h4 oe4 J4 S4 hz4 hd4 => ?_)
          refine store_ok (X := X.suite a ((a, oe4) :: (X.pn ++ pins))) (v := .ref a) S4 hN hi (.inl hln) rfl (fun s5 S5 => ?_) (.inr hln)
          refine wpAny_mono ((hsu a oe4 cls d (X.pn ++ pins) hz4 hd4).run [] s5 _ H' _ S5 (hyes rfl a na)) (fun f s6 hsp => ?_) fun _ _ z => z.elim
          have gone : ∀ {σ6 : L2.St} {H6 : Hp} {Q : Shared → Prop}, Inv (X.suite a ((a, oe4) :: (X.pn ++ pins))) [] σ6 H6 s6 → (∀ s7, Inv X pins (σ6.set i none) H6 s7 → Q s7) →
              wpAny (model X.prog X.w) X.A (do bindName X.env n .none; unbindBehindTheSuite X.env n p) (fun _ s7 => Q s7) X.xe s6 := fun {σ6 H6 Q} S6 hq => gone_ok (S6.unsuite ok) hN hi hln hq
          cases f with
          | next => exact hsp.elim fun σ6 ⟨H6, S6, q6⟩ => gone S6 fun s7 J7 => ⟨_, _, J7, q6⟩
          | brk => exact hsp.elim fun σ6 ⟨H6, S6, q6⟩ => gone S6 fun s7 J7 => ⟨_, _, J7, q6⟩
          | cont => exact hsp.elim fun σ6 ⟨H6, S6, q6⟩ => gone S6 fun s7 J7 => ⟨_, _, J7, q6⟩
          | ret u => exact hsp.elim fun v6 ⟨σ6, H6, S6, r6, q6⟩ => gone S6 fun s7 J7 => ⟨_, _, _, J7, r6, q6⟩
    exact go hh w
  refine wpAny_mono ((hb (wCls X.K Wout D l) (X.pn ++ pins) catch_ taken PassesOwn.looking).run [] s σ H D (I.toTry _) h) (fun f s1 hsp => ?_) fun e s1 he => he
  cases f with
  | next => exact hsp.elim fun σ' ⟨H', J', q⟩ => wpAny_execs_nil ⟨σ', H', J'.ofTry ok, q⟩
  | brk => exact hsp.elim fun σ' ⟨H', J', q⟩ => ⟨σ', H', J'.ofTry ok, q⟩
  | cont => exact hsp.elim fun σ' ⟨H', J', q⟩ => ⟨σ', H', J'.ofTry ok, q⟩
  | ret u => exact hsp.elim fun v ⟨σ', H', J', r, q⟩ => ⟨v, σ', H', J'.ofTry ok, r, q⟩
end
variable [Tabl]
/-! ### by data -/
/-- a clause by data: which errors it takes; what its suite does with one -/
structure ClD where
  yes : Str → Bool
  run : XD → DTS
def dCls (N : Nd) : List ClD → XD → Env → Prop
  | [], x, ρ => N.rs x ρ
  | c :: r, x, ρ => bit (c.yes x.cls) (c.run x N ρ) (dCls N r x ρ)
abbrev dTryM (cs : List Str) (l : List ClD) (fb : DTS) : DTS := fun N ρ => fb { N with rs := fun x ρ' => x.cls ∈ cs ∧ dCls N l x ρ' } ρ
abbrev suA (cls : Value) (d : Option Addr) (ι : Type) : Type := { j : ι × Obj × List (Addr × Obj) // Zc cls d j.2.1 ∧ ∃ vs, j.2.1.data = .fields vs }
abbrev suB (Xs : ι → Cx) (a : Addr) (cls : Value) (d : Option Addr) : suA cls d ι → Cx := fun j => (Xs j.1.1).suite a ((a, j.1.2.1) :: j.1.2.2)
section
variable {ι : Type} {Xs : ι → Cx} {mg : Gm} {Wx : WX} {pos : Pos}
/-- a clause keeps its reading by data -/
structure CpCl (mg : Gm) (cs : List Str) (k : Cl) (g : ClD) : Prop where
  cl : ∀ x ∈ cs, ∃ C, mg.mg x = some (.ref C) ∧ PySem.W.exmOne mg.K (.ref C) k.c = some (g.yes x)
  su : ∀ (Wx : WX) W0 B N ρ x, g.run x N ρ → ∀ W σ H Ds a cls d, Step W0 B W H → EnvR mg B W H σ ρ → EndsR mg Wx W0 B N Ds → RepX mg W H cls d x → k.ts a cls d (k.ends Ds) (k.slots a σ) H
inductive CpCls (mg : Gm) (cs : List Str) : List Cl → List ClD → Prop
  | nil : CpCls mg cs [] []
  | cons {k : Cl} {g : ClD} {l : List Cl} {gs : List ClD} : CpCl mg cs k g → CpCls mg cs l gs → CpCls mg cs (k :: l) (g :: gs)
def DHs (Xs : ι → Cx) (mg : Gm) (cs : List Str) (hds : List ExceptHandler) (gs : List ClD) : Prop := ∃ l, (∀ i, ClsOk (Xs i) hds l) ∧ CpCls mg cs l gs
theorem dh_nil {cs : List Str} : DHs Xs mg cs [] [] := ⟨[], fun _ => .nil, .nil⟩
abbrev clD (yes : Str → Bool) (f : DTS) : ClD := ⟨yes, fun _ N ρ => f { N with rs := fun _ _ => False } ρ⟩
/-- .. as n: the error's place -/
abbrev clA (yes : Str → Bool) (i : Nat) (f : Addr → Value → Option Addr → DTS) : ClD :=
  ⟨yes, fun x N ρ => ∀ a cls d, f a cls d ⟨fun ρ' => N.nx (ρ'.set i .no), N.rt, fun ρ' => N.bk (ρ'.set i .no), fun ρ' => N.ct (ρ'.set i .no), fun _ _ => False⟩ (ρ.set i (.exc a cls d x.cls x.fs))⟩
theorem dh_as {x n : Str} {i : Nat} {c : Value} {cs : List Str} {yes : Str → Bool} {b₀ : Stmt} {su : List Stmt} {np p : Pos} {hds : List ExceptHandler} {f : Addr → Value → Option Addr → DTS} {gs : List ClD} (hc : ∀ j, Names (Xs j) x c) (K : CatF mg c cs yes)
    (hsu : ∀ a cls d, DSs (suB Xs a cls d) mg Wx0 (b₀ :: su) (f a cls d)) (r : DHs Xs mg cs hds gs) (hi : ∀ j, (Xs j).N[i]? = some n := by intro _; rfl) (hl : ∀ j, (Xs j).env.kindOf n = some .local := by intro _; rfl) :
    DHs Xs mg cs (.ExceptHandler (some (.Name x np)) (some n) (b₀ :: su) p :: hds) (clA yes i f :: gs) := by
  have hts : ∃ ts : Addr → Value → Option Addr → TS, (∀ a cls d j, PSs (suB Xs a cls d j) (b₀ :: su) (ts a cls d)) ∧ ∀ a cls d, CpS mg Wx0 (ts a cls d) (f a cls d) :=
    ⟨fun a cls d => (hsu a cls d).choose, fun a cls d => (hsu a cls d).choose_spec.1, fun a cls d => (hsu a cls d).choose_spec.2⟩
  obtain ⟨ts, s1, s2⟩ := hts
  obtain ⟨l, l1, l2⟩ := r
  refine ⟨⟨c, some i, ts⟩ :: l, fun j => .conA (hc j) (hi j) (hl j) (fun a oe cls d pn hz hv => s1 a cls d ⟨(j, oe, pn), hz, hv⟩) (l1 j), .cons ⟨K.cl, fun Wx W0 B N ρ x hr W σ H Ds a cls d s e n rx => ?_⟩ l2⟩
  exact s2 a cls d W0 B _ _ (hr a cls d) W _ H _ s (e.put rfl ⟨rfl, rx⟩) ⟨fun W' H' σ' ρ' s' e' k => n.nx W' H' _ _ s' e'.no k, n.rt, fun W' H' σ' ρ' s' e' k => n.bk W' H' _ _ s' e'.no k, fun W' H' σ' ρ' s' e' k => n.ct W' H' _ _ s' e'.no k, fun _ _ _ _ _ _ _ _ _ _ k => k.elim⟩
theorem cls_all {cs : List Str} {N : Nd} {Ds : Ends} {W0 : Wd} {B : Hp} (n : EndsR mg Wx W0 B N Ds) : ∀ {l : List Cl} {gs : List ClD}, CpCls mg cs l gs → ∀ {W' H' σ' ρ' cls dd x}, Step W0 B W' H' → EnvR mg B W' H' σ' ρ' → RepX mg W' H' cls dd x → x.cls ∈ cs → dCls N gs x ρ' → wCls mg.K Wx Ds l cls dd σ' H'
  | [], [], .nil, W', H', σ', ρ', cls, dd, x, s, e, r, _, k => n.rs W' H' σ' ρ' cls dd x s e r k
  | k :: l, g :: gs, .cons c cr, W', H', σ', ρ', cls, dd, x, s, e, r, hm, hk => by
    obtain ⟨C, hC, hy⟩ := c.cl _ hm
    obtain ⟨C', h1, h2, h3⟩ := id r
    rw [hC] at h1
    cases h1
    subst h2
    refine ⟨_, hy, fun hb a ha => ?_, fun hb => ?_⟩
    · have hk2 : bit (g.yes x.cls) (g.run x N ρ') (dCls N gs x ρ') := hk
      rw [hb] at hk2
      exact c.su Wx W0 B N ρ' x hk2 W' σ' H' Ds a _ dd s e n r
    · have hk2 : bit (g.yes x.cls) (g.run x N ρ') (dCls N gs x ρ') := hk
      rw [hb] at hk2
      exact cls_all n cr s e r hm hk2
theorem ds_tryM {cs : List Str} {body : List Stmt} {h₀ : ExceptHandler} {hds : List ExceptHandler} {fb : DTS} {gs : List ClD} (tk : ∀ i, Takes (Xs i) Wx) (hb : ∀ W : WX, DSs (trF Xs W) mg W body fb) (hh : DHs Xs mg cs (h₀ :: hds) gs) (hN : ∀ j, (Xs j).N.Nodup)
    (hK : ∀ j, (Xs j).K = mg.K := by intro _; rfl) (hs : ∀ j, (Xs j).stack = (Xs j).env :: (Xs j).outer := by intro _; rfl) (hf : ∀ j, (Xs j).env.frame = some (Xs j).env.locals := by intro _; rfl) : DS Xs mg Wx (.Try body (h₀ :: hds) [] [] pos) (dTryM cs gs fb) := by
  obtain ⟨l, l1, l2⟩ := hh
  have hbt : ∃ tb : WX → TS, (∀ W, ∀ i, PSs (trF Xs W i) body (tb W)) ∧ ∀ W, CpS mg W (tb W) fb := ⟨fun W => (hb W).choose, fun W => (hb W).choose_spec.1, fun W => (hb W).choose_spec.2⟩
  obtain ⟨tb, b1, b2⟩ := hbt
  refine ⟨fun D σ H => tb (wCls mg.K Wx D l) D σ H, fun i => ?_, fun W0 B N ρ hf W σ H Ds s e n => ?_⟩
  · have z := ps_try_cls (X := Xs i) (pos := pos) (tb := tb) (Wout := Wx) (hs i) (hf i) (hN i) (tk i) (fun W pn xe h1 h2 => b1 W ⟨(i, pn, xe), h1, h2⟩) (l1 i)
    rw [hK i] at z
    exact z
  · exact b2 _ W0 B _ ρ hf W σ H Ds s e ⟨n.nx, n.rt, n.bk, n.ct, fun W' H' σ' ρ' cls dd y s' e' r k => cls_all n l2 s' e' r k.1 k.2⟩
/-- n.f, n the error of the suite, of the class x -/
abbrev dXf (a : Addr) (cls : Value) (d : Option Addr) (i : Nat) (x f : Str) : DTE := fun ρ Q _ => match ρ[i]? with
  | some (.exc a' cls' d' c fs) => a' = a ∧ cls' = cls ∧ d' = d ∧ c = x ∧ ∃ v, fs.lookup f = some v ∧ Q v
  | _ => False
theorem keys_lookup {vs : List (Str × V)} {fs : List (Str × D)} {W : Wd} {f : Str} {v : D} (h : vs.map (·.1) = fs.map (·.1)) (r : Reps mg W (vs.map (·.2)) (fs.map (·.2))) (e : fs.lookup f = some v) : ∃ u, vs.lookup f = some u ∧ Rep mg W u v := by
  induction vs generalizing fs with
  | nil =>
    cases fs with
    | nil => cases e
    | cons => cases h
  | cons p vs ih =>
    cases fs with
    | nil => cases h
    | cons q fs =>
      obtain ⟨g, u⟩ := p
      obtain ⟨g', y⟩ := q
      obtain ⟨rfl, h2⟩ := List.cons.inj h
      cases r with
      | cons r1 rs =>
        by_cases z : (f == g) = true
        · simp only [List.lookup, z] at e ⊢
          cases e
          exact ⟨u, rfl, r1⟩
        · simp only [Bool.not_eq_true] at z
          simp only [List.lookup, z] at e ⊢
          exact ih h2 rs e
theorem de_xf {x nm f : Str} {C : Addr} {bmB : List Value} {newId : String} {i : Nat} {a : Addr} {cls : Value} {d : Option Addr} {p : Pos} (F : XcF mg x C f bmB newId) (hN : ∀ j, (Xs j).N[i]? = some nm := by intro _; rfl) (hv : ∀ j, Vis (Xs j).env.scope nm := by intro _; first | exact Or.inl rfl | exact Or.inr (Or.inl rfl) | exact Or.inr (Or.inr rfl))
    (hd : (nm == ("__debug__" : Str)) = false := by decide) (hcd : (nm == ("__classdict__" : Str)) = false := by decide) (hK : ∀ j, (Xs j).K = mg.K := by intro _; rfl) (hb : ∀ j, attributeBase (.Name nm p) f (Xs j).env (eval (.Name nm p) (Xs j).env) = eval (.Name nm p) (Xs j).env := by intro _; rfl) :
    DE (suB Xs a cls d) mg Wx0 (.Attribute (.Name nm p) f pos) (dXf a cls d i x f) := by
  obtain ⟨fI, T⟩ := F.t
  refine ⟨tXf a cls d C f (tVar i), fun j => ?_, fun B ρ Q E h W σ H Q' hh e _ q => ?_⟩
  · exact pe_xf (X := Xs j.1.1) (by rw [hK]; exact ⟨F.ga, F.gg, F.sb, T.hd⟩) (by rw [hK]; exact T.no) j.2.1 j.2.2 (pe_var (hN j.1.1) (hv j.1.1) hd hcd) (hb j.1.1)
  · unfold dXf at h
    split at h
    · rename_i a' cls' d' c fs hz
      obtain ⟨rfl, rfl, rfl, rfl, v, hl, hq⟩ := h
      obtain ⟨o, h1, h2, C', h3, h4, h5⟩ := e.sl i _ hz
      rw [F.nm] at h3
      cases h3
      rcases h5 with ⟨h5, _⟩ | ⟨dd, vs, h5, h6, h7, h8⟩
      · rw [h5] at hl
        cases hl
      · obtain ⟨u, hu, ru⟩ := keys_lookup h7 h8 hl
        refine ⟨.ref a', by rw [h1, h2], rfl, h4, dd, vs, u, h5, hh.same _ _ h6, hu, q W H u v (Step.refl hh) ru hq⟩
    · exact h.elim
end
end FP
/-! FP44: zip of lists and tuples, in any mixture. -/
namespace FP
open PySem PySem.Spec PyProof.Rows L2
/-- a list or a tuple -/
inductive Sd where
  | l | t
def Sd.sq (K : PySem.W.Frag) (H : Hp) (a : Addr) (xs : List V) : Sd → Prop
  | .l => SqL K H a xs
  | .t => SqT K H a xs
def Sd.is (h : Heap) (a : Addr) (its : Array Value) : Sd → Prop
  | .l => h.IsList a its
  | .t => h.IsTuple a its
def Sd.it (h : Heap) (i a : Addr) (n : Nat) : Sd → Prop
  | .l => h.IsListIter i a n
  | .t => h.IsTupleIter i a n
def Sd.ob (a : Addr) : Sd → Obj
  | .l => { cls := .type "list_iterator", data := .fields #[.ref a, .int 0 0] }
  | .t => { cls := .type "tuple_iterator", data := .fields #[.ref a, .int 0 0] }
theorem Sd.draws {prog : Program} {w : World} {A : Around} (s : Sd) (hh : A.handled = none) (i a : Addr) (ne : a ≠ i) (its : Array Value) : Draws prog w A i [i, a] its.size (fun k v => its[k]? = some v) (fun k h => s.it h i a k ∧ s.is h a its) := by
  cases s with
  | l => exact .list hh i a ne its
  | t => exact .tuple hh i a ne its
theorem Sd.begins (s : Sd) (a : Addr) (its : Array Value) : Begins (.ref a) (s.ob a) (fun h => s.is h a its) := by
  cases s with
  | l => exact begins_list a its
  | t => exact begins_tuple a its
theorem Sd.first {h : Heap} {i a : Addr} {s : Sd} (e : h.get? i = some (s.ob a)) : s.it h i a 0 := by
  cases s with
  | l => exact ⟨_, e, rfl, rfl⟩
  | t => exact ⟨_, e, rfl, rfl⟩
theorem Sd.it_at {h h' : Heap} {i a : Addr} {n : Nat} {s : Sd} (x : s.it h i a n) (k : ∀ o, h.get? i = some o → h'.get? i = some o) : s.it h' i a n := by
  cases s with
  | l => exact (show h.IsListIter i a n from x).at k
  | t => exact (show h.IsTupleIter i a n from x).at k
theorem Sd.it_ob {h : Heap} {i a : Addr} {n : Nat} {s : Sd} (x : s.it h i a n) : ∃ o, h.get? i = some o ∧ ∀ v, o.data ≠ .cell v := by
  cases s with
  | l =>
    obtain ⟨o, e, _, d⟩ := (show h.IsListIter i a n from x)
    exact ⟨o, e, fun v q => by rw [d] at q; cases q⟩
  | t =>
    obtain ⟨o, e, _, d⟩ := (show h.IsTupleIter i a n from x)
    exact ⟨o, e, fun v q => by rw [d] at q; cases q⟩
theorem Sd.is_lt {h : Heap} {a : Addr} {its : Array Value} {s : Sd} (x : s.is h a its) : a < h.objs.size := by
  cases s with
  | l =>
    obtain ⟨o, e, _⟩ := (show h.IsList a its from x)
    exact Heap.lt_size e
  | t =>
    obtain ⟨o, e, _⟩ := (show h.IsTuple a its from x)
    exact Heap.lt_size e
theorem Sd.look {X : Cx} {pins : List (Addr × Obj)} {σ : L2.St} {H : Hp} {z : Shared} {a : Addr} {xs : List V} {s : Sd} (I : Inv X pins σ H z) (q : s.sq X.K H a xs) : ∃ its : List Value, Vals xs its ∧ s.is z.heap a its.toArray := by
  cases s with
  | l =>
    obtain ⟨its, rv, p, _⟩ := I.list q
    exact ⟨its, rv, p.isList⟩
  | t =>
    obtain ⟨its, rv, p, _⟩ := I.tuple q
    exact ⟨its, rv, p⟩
theorem Sd.inj {X : Cx} {pins : List (Addr × Obj)} {σ : L2.St} {H : Hp} {z : Shared} {a : Addr} {xs ys : List V} {s : Sd} (I : Inv X pins σ H z) (p : s.sq X.K H a xs) (q : s.sq X.K H a ys) : xs = ys := by
  cases s with
  | l => exact I.list_inj p q
  | t => exact I.tuple_inj p q
/-- what stands at a and b at each turn, in new pairs -/
def ItzS (K : PySem.W.Frag) (s1 s2 : Sd) (a b : Addr) : It :=
  ⟨fun i H => ∃ (xs ys : List V) (x y : V), s1.sq K H a xs ∧ s2.sq K H b ys ∧ xs[i]? = some x ∧ ys[i]? = some y,
    fun i H v H' => ∃ T x y, v = .ref T ∧ H T = none ∧ H' = upd H T (.tup [x, y]) ∧ (∀ xs, s1.sq K H a xs → xs[i]? = some x) ∧ ∀ ys, s2.sq K H b ys → ys[i]? = some y,
    fun i H => ∃ xs ys : List V, s1.sq K H a xs ∧ s2.sq K H b ys ∧ i = min xs.length ys.length⟩
theorem sep_of {z TI TO i1 i2 a b : Addr} (D : ZipApart z TI TO i1 i2 a b) : ZipSep2 z TI TO i1 i2 [i1, a] [i2, b] where
  TIz := D.TIz
  TOz := D.TOz
  TITO := D.TITO
  TIi1 := D.TIi1
  mem1 := List.mem_cons_self
  zf1 := by simp [Ne.symm D.i1z, Ne.symm D.l1z]
  Tf1 := by simp [D.TOi1, Ne.symm D.l1TO]
  TIi2 := D.TIi2
  mem2 := List.mem_cons_self
  zf2 := by simp [Ne.symm D.i2z, Ne.symm D.l2z]
  Tf2 := by simp [D.TOi2, Ne.symm D.l2TO]
  sep1_2 := by simp [D.i12, Ne.symm D.l2i1]
  sep2_1 := by simp [Ne.symm D.i12, Ne.symm D.l1i2]
theorem five {c z TI TO i1 i2 : Addr} {P : Addr → Prop} (hz : P z) (h1 : P TI) (h2 : P TO) (h3 : P i1) (h4 : P i2) (h : c ∈ [z, TI, TO, i1, i2]) : P c := by
  rcases List.mem_cons.mp h with e | h
  · rw [e]; exact hz
  rcases List.mem_cons.mp h with e | h
  · rw [e]; exact h1
  rcases List.mem_cons.mp h with e | h
  · rw [e]; exact h2
  rcases List.mem_cons.mp h with e | h
  · rw [e]; exact h3
  · rw [List.mem_singleton.mp h]; exact h4
theorem turn_zipS {P : Program} {w : World} {K : PySem.W.Frag} {elts : List Expr} {kk : Nat} {tpos : Pos} {s1 s2 : Sd} {a b z TI TO i1 i2 : Addr} (D : ZipApart z TI TO i1 i2 a b) :
    Turn P w K (.Tuple elts kk tpos) (ItzS K s1 s2 a b) [z, TI, TO, i1, i2] z (fun i h => IsZip h z TI TO .none ∧ IsTupOf2 h TI (.ref i1) (.ref i2) ∧ (∃ x y, IsTupOf2 h TO x y) ∧ s1.it h i1 a i ∧ s2.it h i2 b i) where
  mem := List.mem_cons_self
  obj := fun i h ⟨hz, hTI, ⟨x, y, hTO⟩, h1, h2⟩ c hc => five (P := fun c => ∃ o, h.get? c = some o ∧ ∀ v, o.data ≠ .cell v) ⟨_, hz, fun v q => nomatch q⟩ ⟨_, hTI, fun v q => nomatch q⟩ ⟨_, hTO, fun v q => nomatch q⟩ (Sd.it_ob h1) (Sd.it_ob h2) hc
  keep := fun i h h' ⟨hz, hTI, ⟨x, y, hTO⟩, h1, h2⟩ k => ⟨k z (by simp) _ hz, k TI (by simp) _ hTI, ⟨x, y, k TO (by simp) _ hTO⟩, Sd.it_at h1 fun o q => k i1 (by simp) o q, Sd.it_at h2 fun o q => k i2 (by simp) o q⟩
  item := by
    intro X hP hw hK hc i pins s σ H E I hf st hg
    subst hP hw hK
    obtain ⟨hz, hTI, ⟨x0, y0, hTO⟩, h1, h2⟩ := st
    obtain ⟨xs, ys, x, y, hqx, hqy, hx, hy⟩ := hg
    obtain ⟨its, rv, p⟩ := Sd.look I hqx
    obtain ⟨its2, rv2, p2⟩ := Sd.look I hqy
    obtain ⟨u, hu, ru⟩ := rv.get hx
    obtain ⟨u2, hu2, ru2⟩ := rv2.get hy
    have hzl : z < s.heap.objs.size := Heap.lt_size hz
    have hh : X.A.in1.handled = none := I.ok.hd hc
    have lt1 : i < its.toArray.size := by simpa using (List.getElem?_eq_some_iff.mp hu).1
    have lt2 : i < its2.toArray.size := by simpa using (List.getElem?_eq_some_iff.mp hu2).1
    refine wpAny_pyNext_zipD2_item (sep_of D) (s1.draws hh i1 a D.l1i1 its.toArray) (s2.draws hh i2 b D.l2i2 its2.toArray) hz hTI hTO ⟨h1, p⟩ ⟨h2, p2⟩ lt1 lt2 fun v1 v2 h' tk e1 e2 z' TO' st1 st2 hT hsz hk => ?_
    obtain rfl : u = v1 := by simpa [hu] using e1
    obtain rfl : u2 = v2 := by simpa [hu2] using e2
    refine ⟨_, rfl, wpAny_letOwnedTupleGo_zip (s := { s with heap := h', toks := tk }) z' fun h'' z'' sb => ?_⟩
    have hT2 : h''.get? s.heap.objs.size = some { cls := .type "tuple", data := .seq #[u, u2] } := (sb.2 _ (Nat.ne_of_gt hzl)).trans hT
    have new : ObjOk X.prog X.w (upd H s.heap.objs.size (.tup [x, y])) h'' s.heap.objs.size (.tup [x, y]) :=
      ⟨by show 2 ≤ sizeLine; decide, [u, u2], .cons ru (.cons ru2 .nil), ⟨_, hT2, rfl, _, rfl⟩⟩
    have keep : ∀ c o, c ∉ [z, TI, TO, i1, i2] → s.heap.get? c = some o → h''.get? c = some o := fun c o hb q => (sb.2 c (fun q' => hb (by simp [q']))).trans (hk c o (fun q' => hb (by simp [q'])) (fun q' => hb (by simp [q'])) (fun q' => hb (by simp [q'])) (fun q' => hb (by simp [q'])) q)
    have I1 : Inv X pins σ (upd H s.heap.objs.size (.tup [x, y])) { s with heap := h'', toks := tk } := I.turnedNew (t' := tk) (ch := [z, TI, TO, i1, i2]) keep hf (Nat.le_refl _) new
    refine ⟨.ref s.heap.objs.size, _, I1, rfl, ⟨_, x, y, rfl, I.hok.fresh (Nat.le_refl _), rfl, fun l hl => by rw [Sd.inj I hl hqx]; exact hx, fun l hl => by rw [Sd.inj I hl hqy]; exact hy⟩, ⟨z'', ?_, ⟨u, u2, ?_⟩, ?_, ?_⟩, fun c hcm => ?_⟩
    · exact (sb.2 _ D.TIz).trans (hk _ _ D.TIz D.TITO D.TIi1 D.TIi2 hTI)
    · exact (sb.2 _ D.TOz).trans TO'
    · exact Sd.it_at st1.1 fun o q => (sb.2 _ D.i1z).trans q
    · exact Sd.it_at st2.1 fun o q => (sb.2 _ D.i2z).trans q
    · have lt3 : ∀ {c o}, s.heap.get? c = some o → c < s.heap.objs.size := fun e => Heap.lt_size e
      obtain ⟨o1, y1, _⟩ := Sd.it_ob h1
      obtain ⟨o2, y2, _⟩ := Sd.it_ob h2
      have hlt : c < s.heap.objs.size := five (P := fun c => c < s.heap.objs.size) hzl (lt3 hTI) (lt3 hTO) (lt3 y1) (lt3 y2) hcm
      rw [upd_ne (Nat.ne_of_lt hlt)]
      exact (hf c hcm).1
  done := by
    intro X hP hw hK hc i pins s σ H E I hf st hg
    subst hP hw hK
    obtain ⟨hz, hTI, ⟨x0, y0, hTO⟩, h1, h2⟩ := st
    obtain ⟨xs, ys, hqx, hqy, hend⟩ := hg
    obtain ⟨its, rv, p⟩ := Sd.look I hqx
    obtain ⟨its2, rv2, p2⟩ := Sd.look I hqy
    have hh : X.A.in1.handled = none := I.ok.hd hc
    have l1 := rv.length
    have l2 := rv2.length
    have n1 : its.toArray.size = xs.length := by simpa using l1.symm
    have n2 : its2.toArray.size = ys.length := by simpa using l2.symm
    refine wpAny_pyNext_zipD2_end (sep_of D) (s1.draws hh i1 a D.l1i1 its.toArray) (s2.draws hh i2 b D.l2i2 its2.toArray) hz hTI hTO ⟨h1, p⟩ ⟨h2, p2⟩ (by rw [n1]; omega) (by rw [n2]; omega) (by rw [n1, n2]; omega) fun h' tk hk => ⟨rfl, ?_⟩
    exact I.turnedL (t' := tk) (ch := [z, TI, TO, i1, i2]) (fun c o hb q => hk c o (fun q' => hb (by simp [q'])) (fun q' => hb (by simp [q'])) (fun q' => hb (by simp [q'])) (fun q' => hb (by simp [q'])) q) hf
  self := fun A i s Q E st h => wpAny_pyIter_zip st.1 h
/-- zip(a, b) is made -/
theorem zip_made {X : Cx} {pins : List (Addr × Obj)} {σ : L2.St} {H : Hp} {s : Shared} {s1 s2 : Sd} {a b : Addr} {xs ys : List V} {Q E : Value → Shared → Prop} (I : Inv X pins σ H s) (hqx : s1.sq X.K H a xs) (hqy : s2.sq X.K H b ys)
    (h : ∀ z TI TO i1 i2 s', ZipApart z TI TO i1 i2 a b → Inv X pins σ H s' → IsZip s'.heap z TI TO .none → IsTupOf2 s'.heap TI (.ref i1) (.ref i2) → IsTupOf2 s'.heap TO .none .none → s1.it s'.heap i1 a 0 → s2.it s'.heap i2 b 0 → (∀ c ∈ [z, TI, TO, i1, i2], FpOk X pins H c) → Q (.ref z) s') :
    wpAny (model X.prog X.w) X.A (call (.type "zip") [.ref a, .ref b]) Q E s := by
  obtain ⟨its, rv, p⟩ := Sd.look I hqx
  obtain ⟨its2, rv2, p2⟩ := Sd.look I hqy
  refine zip_begins2 (s1.begins a its.toArray) (s2.begins b its2.toArray) p p2 fun h' hz hTI hTO g1 g2 hsz hk => ?_
  have I2 : Inv X pins σ H { s with heap := h' } := I.kept (t' := s.toks) hk
  refine h _ _ _ _ _ _ (PySem.W.ktu_apart s.heap.objs.size a b (Sd.is_lt p) (Sd.is_lt p2)) I2 hz hTI hTO (Sd.first g1) (Sd.first g2) fun c hc => ?_
  have le : s.heap.objs.size ≤ c := five (P := fun c => s.heap.objs.size ≤ c) (Nat.le_add_right _ _) (Nat.le_add_right _ _) (Nat.le_add_right _ _) (Nat.le_refl _) (Nat.le_add_right _ _) hc
  exact I.fpOk le (I.hok.fresh le)
def iZipS (K : PySem.W.Frag) (ta : TA) : TI := fun σ H R => ta σ H fun vs H1 => ∃ s1 s2 a b xs ys, vs = [.ref a, .ref b] ∧ Sd.sq K H1 a xs s1 ∧ Sd.sq K H1 b ys s2 ∧ R (ItzS K s1 s2 a b) H1
theorem pi_zipS {X : Cx} {e e2 : Expr} {ta : TA} {p pos tpos : Pos} {elts : List Expr} {kk : Nat} (hg : Gl X "zip") (hm : X.mg "zip" = none) (ha : PA X [e, e2] ta)
    (hs : starEach [e, e2] X.env = (false, eval e X.env) :: starEach [e2] X.env) (hpl : (backTo pos (starEach [e2] X.env)).any (·.1) = false) :
    PI X (.Tuple elts kk tpos) (.Call (.Name "zip" p) [e, e2] [] pos) (iZipS X.K ta) := by
  constructor
  intro pins s σ H R I h
  refine Call_ ?_
  refine ld_blt I hg hm PyProof.Rows.boot_zip (PyProof.Rows.callWith_type1 (thn (ha.run pos pins s σ H _ I h) fun us s1 ⟨vs, H1, I1, r1, q1⟩ => ?_) hs hpl)
  obtain ⟨k1, k2, a, b, xs, ys, rfl, hqx, hqy, q⟩ := q1
  cases r1 with
  | cons r rr =>
    cases rr with
    | cons r' rr =>
      cases rr
      cases r
      cases r'
      refine zip_made I1 hqx hqy fun z TI TO i1 i2 s' D I2 hz hTI hTO g1 g2 fp => wpAny_pyIter_zip hz ?_
      exact ⟨z, [z, TI, TO, i1, i2], _, _, H1, rfl, I2, turn_zipS D, ⟨hz, hTI, ⟨_, _, hTO⟩, g1, g2⟩, fp, q⟩
variable [Tabl]
section
variable {ι : Type} {Xs : ι → Cx} {mg : Gm} {Wx : WX} {pos : Pos}
def seqD : D → Option (List D)
  | .lst xs => some xs
  | .fz xs => some xs
  | .tup xs => some xs
  | _ => none
def pairD (x y : D) : D := .tup [x, y]
def zipD (xs ys : List D) : List D := List.zipWith pairD xs ys
theorem zipD_get (xs ys : List D) (i : Nat) : (zipD xs ys)[i]? = match xs[i]?, ys[i]? with
    | some x, some y => some (pairD x y)
    | _, _ => none := by
  unfold zipD
  rw [List.getElem?_zipWith]
  cases xs[i]? <;> cases ys[i]? <;> rfl
theorem zipD_len (xs ys : List D) : (zipD xs ys).length = min xs.length ys.length := List.length_zipWith
theorem seq_side {W : Wd} {v : V} {d : D} {ds : List D} (r : Rep mg W v d) (h : seqD d = some ds) : ∃ a vs s, v = .ref a ∧ Reps mg W vs ds ∧ ∀ W1 H1, Le W W1 → Holds W1 H1 → Sd.sq mg.K H1 a vs s := by
  cases r with
  | lst ha rs =>
    cases h
    exact ⟨_, _, .l, rfl, rs, fun W1 H1 l hh => SqL.of (hh.same _ _ (l.h _ _ ha))⟩
  | fz ha rs =>
    cases h
    exact ⟨_, _, .l, rfl, rs, fun W1 H1 l hh => hh.same.seq (l.h.seq ha)⟩
  | tup ha rs =>
    cases h
    exact ⟨_, _, .t, rfl, rs, fun W1 H1 l hh => SqT.of (hh.same _ _ (l.h _ _ ha))⟩
  | _ => cases h
abbrev dIZip (g : DTA) : DTI := fun ρ Q E => g ρ (fun ds => match ds with
  | [x, y] => ∃ xs ys, seqD x = some xs ∧ seqD y = some ys ∧ Q (zipD xs ys)
  | _ => False) E
theorem di_zip {elts : List Expr} {kk : Nat} {tpos : Pos} {a b : Expr} {p : Pos} {g : DTA} (hm : mg.mg "zip" = none) (h : DA Xs mg Wx [a, b] g) (hM : ∀ j, (Xs j).mg = mg.mg := by intro _; rfl) (hK : ∀ j, (Xs j).K = mg.K := by intro _; rfl) (hg : ∀ j, Gl (Xs j) "zip" := by intro _; rfl)
    (hs : ∀ j, starEach [a, b] (Xs j).env = (false, eval a (Xs j).env) :: starEach [b] (Xs j).env := by intro _; rfl) (hpl : ∀ j, (backTo pos (starEach [b] (Xs j).env)).any (·.1) = false := by intro _; rfl) :
    DI Xs mg Wx (.Tuple elts kk tpos) (.Call (.Name "zip" p) [a, b] [] pos) (dIZip g) := by
  obtain ⟨t, h1, h2⟩ := h
  refine ⟨iZipS mg.K t, fun j => by
    have z := pi_zipS (elts := elts) (kk := kk) (tpos := tpos) (p := p) (pos := pos) (hg j) (by rw [hM j]; exact hm) (h1 j) (hs j) (hpl j)
    rw [hK j] at z
    exact z, fun B ρ Q E hf W σ H Q' hh e x q => ?_⟩
  refine h2 B ρ _ E hf W σ H _ hh e x fun W1 H1 vs ds s1 r1 k1 => ?_
  split at k1
  · rename_i dx dy
    obtain ⟨xs, ys, ex, ey, k1⟩ := k1
    cases r1 with
    | cons rx r1 =>
      cases r1 with
      | cons ry r1 =>
        cases r1
        obtain ⟨a, us, sa, rfl, ra, qa⟩ := seq_side rx ex
        obtain ⟨b, ws, sb, rfl, rb, qb⟩ := seq_side ry ey
        refine ⟨sa, sb, a, b, us, ws, rfl, qa _ _ (Le.refl _) s1.holds, qb _ _ (Le.refl _) s1.holds, q W1 H1 _ _ s1 (fun W2 H2 l hh2 => ?_) k1⟩
        have g1 := qa _ _ l hh2
        have g2 := qb _ _ l hh2
        refine ⟨fun i hi => ?_, ⟨us, ws, g1, g2, by rw [zipD_len, ra.length, rb.length]⟩, fun i x H3 hi y => ?_⟩
        · rw [zipD_len, ← ra.length, ← rb.length] at hi
          exact ⟨us, ws, _, _, g1, g2, List.getElem?_eq_getElem (by omega), List.getElem?_eq_getElem (by omega)⟩
        · obtain ⟨T, v1, v2, rfl, hT, rfl, f1, f2⟩ := y
          obtain ⟨d1, e1, r1⟩ := ra.getV (f1 us g1)
          obtain ⟨d2, e2, r2⟩ := rb.getV (f2 ws g2)
          exact ⟨_, .tup [d1, d2], Step.alloc hh2 hT, by rw [zipD_get, e1, e2] <;> rfl, Rep.newTup (.cons (r1.mono l) (.cons (r2.mono l) .nil)) (hh2.same.free hT)⟩
  · exact k1.elim
end
end FP
/-! FP45: list(zip(a, b)), a and b lists or tuples. -/
namespace PySem.ZipL
open PySem PySem.W PySem.Calls PyProof.Rows
end PySem.ZipL
/-! FP46: list(zip(a, b)) by data. -/
namespace FP
open PySem PySem.Spec PyProof.Rows L2
end FP
/-! FP47: facts of own exceptions, by their built-in bases. -/
namespace FP
open PySem L2
variable [Tabl]
theorem veS : StoreFacts "ValueError" veBm "object.__setattr__" "object" := PySem.F.store_ValueError
/-! ### the end of a law: facts by the written part -/
theorem CatF.none {mg : Gm} {c : Value} {yes : Str → Bool} : CatF mg c [] yes := ⟨fun _ h => absurd h List.not_mem_nil⟩
theorem CatF.cons {mg : Gm} {c : Value} {cs : List Str} {yes : Str → Bool} {x : Str} {C : Addr} {b : Bool} (h1 : mg.mg x = some (.ref C)) (h2 : PySem.W.exmOne mg.K (.ref C) c = some b) (h3 : yes x = b) (r : CatF mg c cs yes) : CatF mg c (x :: cs) yes := ⟨fun y hy => by
  rcases List.mem_cons.mp hy with e | hy
  · subst e
    exact ⟨C, h1, by rw [h2, h3]⟩
  · exact r.cl y hy⟩
theorem exm_sub {K : PySem.W.Frag} {C C' : Addr} {b : Bool} (h2 : PySem.W.isClsIn K C' = true) (h3 : PySem.W.typeIn K (.ref C') = some (.type "type")) (h4 : PySem.W.subIn K (.ref C') (.type "BaseException") = some true) (h5 : PySem.W.subIn K (.ref C) (.ref C') = some b) : PySem.W.exmOne K (.ref C) (.ref C') = some b := by
  unfold PySem.W.exmOne PySem.W.kitCls
  unfold PySem.W.isClsIn at h2
  simp [h2, h3, h4, h5]
theorem xcF_mk {K : PySem.W.Frag} {mg : Str → Option Value} {x f nm qual : Str} {C fI : Addr} {bmB : List Value} {newId : String} {st : Stmt} {oc : Value} {od : Option Addr} {kV doc pm : Value} {an : Option Addr} {cdv ct : Value} {osl : Array (Option Value)} (h1 : mg x = some (.ref C)) (h2 : PySem.W.excInitIn K C bmB newId = true)
    (h3 : PySem.W.excOver K C bmB = true) (h4 : PySem.W.findIn K (.ref C) "__setattr__" = some (some (.builtin "object.__setattr__"))) (h5 : PySem.W.findIn K (.ref C) f = some none) (h6 : PySem.W.hasDictIn K C = true) (h7 : PySem.W.findIn K (.ref C) "__init__" = some (some (.ref fI))) (h8 : PySem.W.isFn K (.ref fI) = true)
    (h9 : K.lookup fI = some ⟨oc, od, .func (PySem.W.fnOf nm qual (defArgs st) (defBody st) (defScope st) .none kV doc pm an cdv ct), osl⟩) (h10 : PySem.W.codeIn K cdv qual = true) (h11 : PySem.XcM.IsInit f (defArgs st) (defBody st) (defScope st))
    (h12 : ∀ y v, bindArgs (PySem.W.fnOf nm qual (defArgs st) (defBody st) (defScope st) .none kV doc pm an cdv ct) ⟨[y, v], []⟩ = pure [(("self" : Str), y), (f, v)]) (h13 : PySem.W.keepIn K (.ref C) = true) (h14 : PySem.W.subIn K (.ref C) (.type "BaseException") = some true) (h15 : PySem.W.typeIn K (.ref C) = some (.type "type"))
    (h16 : PySem.W.findIn K (.ref C) "__getattribute__" = some (some (.builtin "BaseException.__getattribute__"))) (h17 : PySem.W.findIn K (.ref C) "__getattr__" = some none) : XcF ⟨mg, K⟩ x C f bmB newId :=
  ⟨h1, ⟨fI, h2, h3, h4, h5, h6, h7, h8, ⟨_, _, _, _, _, _, _, _, _, _, _, _, _, _, _, h9, h10, h11, h12⟩⟩, h13, h14, h15, h16, h17⟩
end FP
/-! FP48: list(d.items()). -/
namespace FP
open PySem PySem.Spec PyProof.Rows L2
end FP
/-! FP49: text.count(text). -/
namespace FP
open PySem PySem.Spec PyProof.Rows L2
end FP
/-! FP50: isinstance with a built-in class, of data that may be an object of the text. -/
namespace FP
open PySem PySem.Spec PyProof.Rows L2
end FP
/-! FP51: a text times a whole number. -/
namespace FP
open PySem PySem.Spec PyProof.Rows L2
end FP
/-! FP52: x != o, where x is no object of the text and o is one. -/
namespace FP
open PySem PySem.Spec PyProof.Rows PySem.W
end FP
/-! FP53: the operator != with a value on the left that is no object of the text. -/
namespace FP
open PySem PySem.Spec PyProof.Rows PySem.W
open L2
end FP
/-! FP54: operators of own objects with several kinds on the right. -/
namespace FP
open PySem PySem.Spec PyProof.Rows L2
end FP
/-! FP55: repr, of the empty dict too. -/
namespace FP
open PySem PySem.Spec PyProof.Rows L2
end FP
/-! FP56: dicts of one's own: made, changed, asked, handed on. -/
namespace FP
open PySem L2
end FP
/-! FP57: one statement, then the others, by the values of the first one (small goals). -/
namespace FP
open PySem L2
variable [Tabl]
section
variable {f : DTE} {g : DTS} {N : Nd} {ρ : Env} {i : Nat}
/-- the expression comes to a datum with P -/
abbrev EvP (f : DTE) (ρ : Env) (P : D → Prop) : Prop := ∀ (Q : D → Prop) (E : XD → Prop), (∀ d, P d → Q d) → f ρ Q E
/-- the expression comes to just this datum -/
abbrev Ev (f : DTE) (ρ : Env) (d : D) : Prop := ∀ (Q : D → Prop) (E : XD → Prop), Q d → f ρ Q E
theorem Ev.p {d : D} (h : Ev f ρ d) : EvP f ρ (fun x => x = d) := fun Q E q => h Q E (q d rfl)
theorem seq_p (P : D → Prop) (hf : EvP f ρ P) (hg : ∀ d, P d → g N (ρ.set i (.d d))) : dSeq (dSet i f) g N ρ := hf _ _ hg
theorem seq_v (d : D) (hf : Ev f ρ d) (hg : g N (ρ.set i (.d d))) : dSeq (dSet i f) g N ρ := hf _ _ hg
theorem seq_app {xs : List D} (h : ρ[i]? = some (.own xs)) (d : D) (hs : xs.length < sizeLine) (hf : Ev f ρ d) (hg : g N (ρ.set i (.own (xs ++ [d])))) : dSeq (dApp i f) g N ρ := by
  show dApp i f _ ρ
  unfold dApp
  rw [h]
  exact hf _ _ ⟨hs, hg⟩
theorem seq_o1 (d : D) (hf : Ev f ρ d) (hg : g N (ρ.set i (.own [d]))) : dSeq (dSetO i (dLen (dCons f dNil))) g N ρ := hf _ _ ⟨(by show 1 ≤ sizeLine; decide), hg⟩
theorem ret_v (d : D) (hf : Ev f ρ d) (hq : N.rt d ρ) : dRet f N ρ := hf _ _ hq
theorem frz_ret {xs : List D} (h : ρ[i]? = some (.own xs)) (hr : dRet f N (ρ.set i (.d (.lst xs)))) : dFrz i (dRet f) N ρ := by
  show dFrz i (dRet f) N ρ
  unfold dFrz
  rw [h]
  exact hr
/-- a test that comes to just this truth -/
abbrev EvT (f : DTT) (ρ : Env) (b : Bool) : Prop := ∀ (Q : Bool → Prop) (E : XD → Prop), Q b → f ρ Q E
theorem seq_if {c : DTT} {f1 f2 : DTS} (b : Bool) (hc : EvT c ρ b) (h : bit b (dSeq f1 g N ρ) (dSeq f2 g N ρ)) : dSeq (dIfS c f1 f2) g N ρ := hc _ _ h
end
end FP
/-! FP58: list(d), dict(d), sorted(d); own objects in f-strings. -/
namespace FP
open PySem L2
end FP
/-! FP59: o[i] of an own class that may raise. -/
namespace FP
open PySem L2
end FP
/-! FP60: defs with a default; C() of a class whose __init__ has one. -/
namespace FP
open PySem L2
variable [Tabl]
/-- a def as it stands, whatever its defaults -/
structure FunA (K : PySem.W.Frag) (x qual : Str) (st : Stmt) (f : Addr) (fd : FuncData) : Prop where
  ex : ∃ (oc : Value) (od : Option Addr) (dV kV doc pm : Value) (an : Option Addr) (cdv ct : Value) (osl : Array (Option Value)),
    fd = PySem.W.fnOf x qual (defArgs st) (defBody st) (defScope st) dV kV doc pm an cdv ct ∧ K.lookup f = some ⟨oc, od, .func fd, osl⟩ ∧ PySem.W.codeIn K cdv qual = true
  kp : PySem.W.keepIn K (.ref f) = true
abbrev FunDf (K : PySem.W.Frag) (x qual : Str) (st : Stmt) (dvs : List V) (f : Addr) (fd : FuncData) : Prop := FunD K x qual (defArgs st) (defBody st) (defScope st) dvs [] f fd
theorem FunDf.any {K : PySem.W.Frag} {x qual : Str} {st : Stmt} {dvs : List V} {f : Addr} {fd : FuncData} (F : FunDf K x qual st dvs f fd) : FunA K x qual st f fd := by
  obtain ⟨oc, od, dV, kV, doc, pm, an, cdv, ct, osl, h1, h2, h3, _, _⟩ := F.ex
  exact ⟨⟨oc, od, dV, kV, doc, pm, an, cdv, ct, osl, h1, h2, h3⟩, F.kp⟩
end FP
/-! FP61: displays with ** . -/
namespace FP
open PySem L2
end FP
/-! FP62: {**a, **b}, {**a, k: v}. -/
namespace FP
open PySem L2
end FP
/-! FP63: dicts of plain data compared. -/
namespace FP
open PySem L2
end FP
/-! FP64: more small steps. -/
namespace FP
open PySem L2
variable [Tabl]
section
variable {f f2 : DTE} {g : DTS} {N : Nd} {ρ : Env} {i j : Nat}
theorem seq_setF {c fl : Str} {a : Addr} {fs : List (Str × D)} (h : ρ[i]? = some (.ob c a fs)) (d : D) (hl : fs.length < 1000) (hf : Ev f ρ d) (hg : g N (ρ.set i (.ob c a (putD fl d fs)))) : dSeq (dSetF i c fl f) g N ρ := by
  show dSetF i c fl f _ ρ
  unfold dSetF
  refine hf _ _ ?_
  rw [h]
  exact ⟨rfl, hl, hg⟩
theorem end_setF {c fl : Str} {a : Addr} {fs : List (Str × D)} (h : ρ[i]? = some (.ob c a fs)) (d : D) (hl : fs.length < 1000) (hf : Ev f ρ d) (hn : N.nx (ρ.set i (.ob c a (putD fl d fs)))) : dSetF i c fl f N ρ := by
  unfold dSetF
  refine hf _ _ ?_
  rw [h]
  exact ⟨rfl, hl, hn⟩
theorem seq_ifF {c : DTT} {f1 : DTS} (hc : EvT c ρ false) (h : g N ρ) : dSeq (dIfS c f1 dNext) g N ρ := hc _ _ h
theorem seq_ifT {c : DTT} {f1 f2 : DTS} (hc : EvT c ρ true) (h : dSeq f1 g N ρ) : dSeq (dIfS c f1 f2) g N ρ := hc _ _ h
theorem end_if {c : DTT} {f1 f2 : DTS} (b : Bool) (hc : EvT c ρ b) (h : bit b (f1 N ρ) (f2 N ρ)) : dIfS c f1 f2 N ρ := hc _ _ h
theorem seq_for {w : DTI} {T : Tg} {b : DTS} (ds : List D) (hw : ∀ (Q : List D → Prop) (E : XD → Prop), Q ds → w ρ Q E) (h : forD T b { N with nx := g N } ds ρ) : dSeq (dFor w T b) g N ρ := hw _ _ h
/-! ### tests by their values -/
variable {c d : DTT} {b b2 : Bool}
theorem or_t (hc : EvT c ρ true) : EvT (dOr c d) ρ true := fun Q E q => hc _ _ q
theorem or_f (hc : EvT c ρ false) (hd : EvT d ρ b) : EvT (dOr c d) ρ b := fun Q E q => hc _ _ (hd _ _ q)
theorem and_f (hc : EvT c ρ false) : EvT (dAnd c d) ρ false := fun Q E q => hc _ _ q
theorem and_t (hc : EvT c ρ true) (hd : EvT d ρ b) : EvT (dAnd c d) ρ b := fun Q E q => hc _ _ (hd _ _ q)
theorem and_v (hc : EvT c ρ b) (hd : b = true → EvT d ρ b2) : EvT (dAnd c d) ρ (b && b2) := fun Q E q => hc _ _ (by
  cases b with
  | true => exact hd rfl _ _ q
  | false => exact q)
theorem or_v (hc : EvT c ρ b) (hd : b = false → EvT d ρ b2) : EvT (dOr c d) ρ (b || b2) := fun Q E q => hc _ _ (by
  cases b with
  | false => exact hd rfl _ _ q
  | true => exact q)
theorem not_v (hc : EvT c ρ b) : EvT (dNot c) ρ (!b) := fun Q E q => hc _ _ q
theorem b_v (hf : Ev f ρ (.bl b)) : EvT (dB f) ρ b := fun Q E q => hf _ _ q
theorem Ev.eq {x y : D} (h : Ev f ρ x) (e : x = y) : Ev f ρ y := e ▸ h
theorem EvT.eq (h : EvT c ρ b) (e : b = b2) : EvT c ρ b2 := e ▸ h
end
end FP
/-! FP65: what expressions come to, put together by values. -/
namespace FP
open PySem L2
variable [Tabl]
section
variable {ρ : Env} {f g fa fb fk fv : DTE} {c d : D}
/-- the arguments come to just these data -/
abbrev EvA (g : DTA) (ρ : Env) (ds : List D) : Prop := ∀ (Q : List D → Prop) (E : XD → Prop), Q ds → g ρ Q E
/-- what is gone through comes to just these data -/
abbrev EvI (w : DTI) (ρ : Env) (ds : List D) : Prop := ∀ (Q : List D → Prop) (E : XD → Prop), Q ds → w ρ Q E
theorem a0 : EvA dNil ρ [] := fun Q E q => q
theorem a1 {ga : DTA} {ds : List D} (h : Ev f ρ d) (hg : EvA ga ρ ds) : EvA (dCons f ga) ρ (d :: ds) := fun Q E q => h _ _ (hg _ _ q)
theorem ev_fld {cl fl : Str} {fs : List (Str × D)} (h : Ev f ρ (.ins cl fs)) (e : fs.lookup fl = some d) : Ev (dFld cl fl f) ρ d := fun Q E q => h _ _ ⟨rfl, d, e, q⟩
theorem ev_op {rd : RD2} {x y : D} (ha : Ev fa ρ x) (hb : Ev fb ρ y) (h : ∀ Q : D → Prop, Q d → rd x y Q) : Ev (dOp rd fa fb) ρ d := fun Q E q => ha _ _ (hb _ _ (h _ q))
theorem ev_call {F : List D → M D} {n : Nat} {ga : DTA} {ds : List D} (ha : EvA ga ρ ds) (hn : ds.length = n) (h : ∀ (Q : D → Prop) (E : XD → Prop), Q d → F ds Q E) : Ev (dCall F n ga) ρ d := fun Q E q => ha _ _ ⟨hn, h _ _ q⟩
theorem ev_cb {rd : RDL} {ga : DTA} {ds : List D} (ha : EvA ga ρ ds) (h : ∀ Q : D → Prop, Q d → rd ds Q) : Ev (dCB rd ga) ρ d := fun Q E q => ha _ _ (h _ q)
theorem ev_andV {b1 b2 : Bool} (ha : Ev fa ρ (.bl b1)) (hb : b1 = true → Ev fb ρ (.bl b2)) : Ev (dAndV fa fb) ρ (.bl (b1 && b2)) := fun Q E q => ha _ _ (by
  cases b1 with
  | true => exact hb rfl _ _ q
  | false => exact q)
theorem ev_orV {b1 b2 : Bool} (ha : Ev fa ρ (.bl b1)) (hb : b1 = false → Ev fb ρ (.bl b2)) : Ev (dOrV fa fb) ρ (.bl (b1 || b2)) := fun Q E q => ha _ _ (by
  cases b1 with
  | false => exact hb rfl _ _ q
  | true => exact q)
theorem ev_if {t : DTT} {b : Bool} (ht : EvT t ρ b) (h1 : b = true → Ev fa ρ d) (h2 : b = false → Ev fb ρ d) : Ev (dIf t fa fb) ρ d := fun Q E q => ht _ _ (by
  cases b with
  | true => exact h1 rfl _ _ q
  | false => exact h2 rfl _ _ q)
theorem lcD_F {α : Type} {body : D → (Option D → Prop) → Prop} (e g : α → D) (b : α → Bool) : ∀ (xs : List α) (Q : List D → Prop), (∀ x ∈ xs, ∀ k : Option D → Prop, k (if b x then some (g x) else none) → body (e x) k) → Q ((xs.filter b).map g) → lcD body (xs.map e) Q
  | [], Q, _, h => h
  | x :: xs, Q, hb, h => by
    refine hb x List.mem_cons_self _ ?_
    cases hx : b x with
    | true =>
      refine lcD_F e g b xs _ (fun y hy => hb y (List.mem_cons_of_mem _ hy)) ?_
      rw [List.filter_cons, hx] at h
      exact h
    | false =>
      refine lcD_F e g b xs _ (fun y hy => hb y (List.mem_cons_of_mem _ hy)) ?_
      rw [List.filter_cons, hx] at h
      exact h
theorem ev_lcF {α : Type} {w : DTI} {T : Tg} {ft : DTT} {vs : List Nat} {xs : List α} (e g : α → D) (b : α → Bool) (hw : EvI w ρ (xs.map e)) (hl : xs.length ≤ sizeLine) (hb : ∀ x ∈ xs, ∃ ρ2, T.put (e x) (wipeD ρ vs) = some ρ2 ∧ EvT ft ρ2 (b x) ∧ (b x = true → Ev f ρ2 (g x))) : Ev (dLc w T ft f vs) ρ (.lst ((xs.filter b).map g)) := fun Q E q => hw _ _ ⟨by rw [List.length_map]; exact hl, lcD_F e g b xs _ (fun x hx k hk => by
  obtain ⟨ρ2, h1, h2, h3⟩ := hb x hx
  refine ⟨ρ2, h1, h2 _ _ ?_⟩
  cases hc : b x with
  | true =>
    rw [hc] at hk
    exact h3 hc _ _ hk
  | false =>
    rw [hc] at hk
    exact hk) q⟩
theorem ev_lc {α : Type} {w : DTI} {T : Tg} {vs : List Nat} {xs : List α} (e g : α → D) (hw : EvI w ρ (xs.map e)) (hl : xs.length ≤ sizeLine) (hb : ∀ x ∈ xs, ∃ ρ2, T.put (e x) (wipeD ρ vs) = some ρ2 ∧ Ev f ρ2 (g x)) : Ev (dLc w T dYes f vs) ρ (.lst (xs.map g)) := by
  have h := ev_lcF (f := f) (ft := dYes) e g (fun _ => true) hw hl fun x hx => by
    obtain ⟨ρ2, h1, h2⟩ := hb x hx
    exact ⟨ρ2, h1, fun Q E q => q, fun _ => h2⟩
  rw [List.filter_eq_self.mpr fun _ _ => rfl] at h
  exact h
theorem seq_oN {N : Nd} {i : Nat} {ga : DTA} {gs : DTS} {ds : List D} (ha : EvA ga ρ ds) (hl : ds.length ≤ sizeLine) (hg : gs N (ρ.set i (.own ds))) : dSeq (dSetO i (dLen ga)) gs N ρ := ha _ _ ⟨hl, hg⟩
theorem ev_tup {ga : DTA} {ds : List D} (ha : EvA ga ρ ds) (hl : ds.length ≤ sizeLine) : Ev (dTup ga) ρ (.tup ds) := fun Q E q => ha _ _ ⟨hl, q⟩
theorem ev_lst {ga : DTA} {ds : List D} (ha : EvA ga ρ ds) (hl : ds.length ≤ sizeLine) : Ev (dLst ga) ρ (.lst ds) := fun Q E q => ha _ _ ⟨hl, q⟩
theorem seq_forP {w : DTI} {T : Tg} {b : DTS} {gs : DTS} {N : Nd} (P : List D → Prop) (hw : ∀ (Q : List D → Prop) (E : XD → Prop), (∀ ds, P ds → Q ds) → w ρ Q E) (h : ∀ ds, P ds → forD T b { N with nx := gs N } ds ρ) : dSeq (dFor w T b) gs N ρ := hw _ _ h
theorem ret_if {N : Nd} {c : DTT} {b : Bool} (hc : EvT c ρ b) (h : bit b (dRet fa N ρ) (dRet fb N ρ)) : dRet (dIf c fa fb) N ρ := hc _ _ (by cases b <;> exact h)
abbrev EvKV (g : DTP) (ρ : Env) (kvs : List (Key × D)) : Prop := ∀ (Q : List (Key × D) → Prop) (E : XD → Prop), Q kvs → g ρ Q E
theorem kv0 : EvKV dPn ρ [] := fun Q E q => q
end
end FP
/-! FP66: methods with a star parameter behind the first one. -/
namespace FP
open PySem L2
end FP
/-! FP67: list(d.values()). -/
namespace FP
open PySem PySem.Spec PyProof.Rows L2
end FP
/-! FP68: for i, x in enumerate(list or tuple). -/
namespace FP
open PySem PySem.Spec PyProof.Rows L2
theorem enum_new1 {v : Value} {o : Obj} {G : Heap → Prop} (B : Begins v o G) :
    Meets (Builtin.«enumerate.__new__» ⟨[.type "enumerate", v], []⟩) (fun _ R s => G s.heap ∧
      R (.ok (.ret (.ref (s.heap.push o).objs.size))) { s with heap := (s.heap.push o).push { cls := .type "enumerate", data := .fields #[.none, .bool false, .ref s.heap.objs.size, rawInt 0, .none, .none] } }) :=
  .of_wp fun prog w A R s h => by
    obtain ⟨hp, g, d, tk, os⟩ := s
    obtain ⟨h1, h⟩ := h
    have hsub := sub_enumerate
    have q1 : ∀ {A' : Around} {E : Value → Shared → Prop} {Q : Value → Shared → Prop}, Q (.ref hp.objs.size) ⟨hp.push o, g, d, tk, os⟩ → wpAny (model prog w) A' (pyIter v) Q E ⟨hp, g, d, tk, os⟩ :=
      fun q => B.iter prog w _ _ ⟨hp, g, d, tk, os⟩ _ h1 q
    wp_walk using q1
    refine wpAny_stack_any fun st => wpAny_pure ?_
    split
    · rename_i c _ _ _ _ _
      cases (c == Value.type "enumerate")
      · wp_walk using q1
        exact ⟨_, rfl, h⟩
      · wp_walk using q1
        exact ⟨_, rfl, h⟩
    · wp_walk using q1
      exact ⟨_, rfl, h⟩
theorem enum_made {prog : Program} {w : World} {A : Around} {E : Value → Shared → Prop} {s : Shared} {v : Value} {o : Obj} {G : Heap → Prop} {Q : Value → Shared → Prop} (B : Begins v o G) (h1 : G s.heap)
    (h : ∀ h', IsEnum h' (s.heap.objs.size + 1) s.heap.objs.size 0 .none → h'.get? s.heap.objs.size = some o → (∀ b o, s.heap.get? b = some o → h'.get? b = some o) → Q (.ref (s.heap.objs.size + 1)) { s with heap := h' }) :
    wpAny (model prog w) A (call (.type "enumerate") [v]) Q E s := by
  refine callType_new F.called_enumerate (by decide) (F.typeCall_enumerate_1 _) (F.newCall_enumerate_1 _) (fun obj => F.args_object_init_2 obj _) F.entry_enumerate_new (enum_new1 B) ⟨h1, ?_⟩
  have hz : (s.heap.push o).objs.size = s.heap.objs.size + 1 := Heap.size_push ..
  show _ ∧ _
  rw [hz]
  have he : IsEnum ((s.heap.push o).push { cls := .type "enumerate", data := .fields #[.none, .bool false, .ref s.heap.objs.size, rawInt 0, .none, .none] }) (s.heap.objs.size + 1) s.heap.objs.size 0 .none := by
    have e := Heap.get?_push_size (s.heap.push o) (o := { cls := .type "enumerate", data := .fields #[.none, .bool false, .ref s.heap.objs.size, rawInt 0, .none, .none] }) rfl
    rw [hz] at e
    exact e
  exact ⟨⟨_, he, rfl⟩, h _ he (Heap.get?_push_of_some _ (Heap.get?_push_size _ B.free)) fun b u x => Heap.get?_push_of_some _ (Heap.get?_push_of_some _ x)⟩
/-- what stands at a at each turn, with its number, in a new pair -/
def IteS (K : PySem.W.Frag) (s : Sd) (a : Addr) : It :=
  ⟨fun i H => ∃ (xs : List V) (x : V), s.sq K H a xs ∧ xs[i]? = some x,
    fun i H v H' => ∃ T x, v = .ref T ∧ H T = none ∧ H' = upd H T (.tup [.int (i : Nat), x]) ∧ ∀ xs, s.sq K H a xs → xs[i]? = some x,
    fun i H => ∃ xs : List V, s.sq K H a xs ∧ i = xs.length⟩
theorem turn_enumS {P : Program} {w : World} {K : PySem.W.Frag} {elts : List Expr} {kk : Nat} {tpos : Pos} {s1 : Sd} {a e it : Addr} (hai : a ≠ it) (hae : a ≠ e) (hne : e ≠ it) :
    Turn P w K (.Tuple elts kk tpos) (IteS K s1 a) [e, it] e (fun i h => (∃ old, IsEnum h e it ((i : Nat) : Int) old) ∧ s1.it h it a i) where
  mem := List.mem_cons_self
  obj := fun i h ⟨⟨old, he⟩, hi⟩ b hb => by
    rcases List.mem_cons.mp hb with q | q
    · rw [q]; exact ⟨_, he, fun v q => nomatch q⟩
    · rw [List.mem_singleton.mp q]; exact Sd.it_ob hi
  keep := fun i h h' ⟨⟨old, he⟩, hi⟩ k => ⟨⟨old, k e (by simp) _ he⟩, Sd.it_at hi fun o q => k it (by simp) o q⟩
  item := by
    intro X hP hw hK hc i pins s σ H E I hf st hg
    subst hP hw hK
    obtain ⟨⟨old, he⟩, hi⟩ := st
    obtain ⟨xs, x, hq, hx⟩ := hg
    obtain ⟨its, rv, p⟩ := Sd.look I hq
    obtain ⟨u, hu, ru⟩ := rv.get hx
    have hh : X.A.in1.handled = none := I.ok.hd hc
    have hel : e < s.heap.objs.size := Heap.lt_size he
    have hil : it < s.heap.objs.size := by
      obtain ⟨o, q, _⟩ := Sd.it_ob hi
      exact Heap.lt_size q
    have lt1 : i < its.toArray.size := by simpa using (List.getElem?_eq_some_iff.mp hu).1
    refine wpAny_pyNext_enum_itemC (s1.draws hh it a hai its.toArray) he ⟨hi, p⟩ lt1 hne (by simp [hne, Ne.symm hae]) fun y h' tk ey ho st' hT hsz hk => ?_
    obtain rfl : u = y := by simpa [hu] using ey
    refine ⟨_, rfl, wpAny_letOwnedTupleGo_enum (s := { s with heap := h', toks := tk + 1 }) ho fun h'' he' sb => ?_⟩
    have hT2 : h''.get? s.heap.objs.size = some { cls := .type "tuple", data := .seq #[.int i tk, u] } := (sb.2 _ (Nat.ne_of_gt hel)).trans hT
    have new : ObjOk X.prog X.w (upd H s.heap.objs.size (.tup [.int (i : Nat), x])) h'' s.heap.objs.size (.tup [.int (i : Nat), x]) :=
      ⟨by show 2 ≤ sizeLine; decide, [.int i tk, u], .cons ⟨_, rfl⟩ (.cons ru .nil), ⟨_, hT2, rfl, _, rfl⟩⟩
    have I1 : Inv X pins σ (upd H s.heap.objs.size (.tup [.int (i : Nat), x])) { s with heap := h'', toks := tk + 1 } :=
      I.turnedNew (ch := [e, it]) (fun b ob hb q => (sb.2 b (fun z => hb (by simp [z]))).trans (hk b ob (fun z => hb (by simp [z])) (fun z => hb (by simp [z])) q)) hf (Nat.le_refl _) new
    refine ⟨.ref s.heap.objs.size, _, I1, rfl, ⟨_, x, rfl, I.hok.fresh (Nat.le_refl _), rfl, fun ys hy => by rw [Sd.inj I hy hq]; exact hx⟩, ⟨⟨u, ?_⟩, Sd.it_at st'.1 fun o q => (sb.2 it (Ne.symm hne)).trans q⟩, fun b hb => ?_⟩
    · have e1 : ((i + 1 : Nat) : Int) = (i : Int) + 1 := by omega
      rw [e1]; exact he'
    · have hb' : b < s.heap.objs.size := by
        rcases List.mem_cons.mp hb with z | z
        · rw [z]; exact hel
        · rw [List.mem_singleton.mp z]; exact hil
      rw [upd_ne (Nat.ne_of_lt hb')]
      exact (hf b hb).1
  done := by
    intro X hP hw hK hc i pins s σ H E I hf st hg
    subst hP hw hK
    obtain ⟨⟨old, he⟩, hi⟩ := st
    obtain ⟨xs, hq, hx⟩ := hg
    obtain ⟨its, rv, p⟩ := Sd.look I hq
    have hh : X.A.in1.handled = none := I.ok.hd hc
    have hl := rv.length
    have n1 : its.toArray.size = xs.length := by simpa using hl.symm
    obtain ⟨f0, f1, f2, f3, f4, f5⟩ := hf it (by simp)
    refine wpAny_pyNext_enum_endD (s1.draws hh it a hai its.toArray) he ⟨by rw [n1, ← hx]; exact hi, p⟩ fun h' eb => ⟨rfl, I.turned (t' := s.toks) (fun b o hb q => eb b o hb q) f0 f1 f3 f4 f5⟩
  self := fun A i s Q E ⟨⟨_, he⟩, _⟩ h => wpAny_pyIter_enum he h
def iEnumS (K : PySem.W.Frag) (ta : TA) : TI := fun σ H R => ta σ H fun vs H1 => ∃ s1 a xs, vs = [.ref a] ∧ Sd.sq K H1 a xs s1 ∧ R (IteS K s1 a) H1
theorem pi_enumS {X : Cx} {e : Expr} {ta : TA} {p pos tpos : Pos} {elts : List Expr} {kk : Nat} (hg : Gl X "enumerate") (hm : X.mg "enumerate" = none) (ha : PA X [e] ta) (hs : starEach [e] X.env = [(false, eval e X.env)]) :
    PI X (.Tuple elts kk tpos) (.Call (.Name "enumerate" p) [e] [] pos) (iEnumS X.K ta) := by
  refine ⟨fun pins s σ H R I h => ?_⟩
  refine Call_ (ld_blt I hg hm boot_enumerate (PyProof.Rows.callWith_type1 (thn (ha.run pos pins s σ H _ I h) fun us s1 ⟨vs, H1, I1, r1, q1⟩ => ?_) hs rfl))
  obtain ⟨k1, a, xs, rfl, hq, q⟩ := q1
  cases r1 with
  | cons r rr =>
    cases rr
    cases r
    obtain ⟨its, rv, p'⟩ := Sd.look I1 hq
    have hal := Sd.is_lt p'
    refine enum_made (k1.begins a its.toArray) p' fun h' he hit hk => wpAny_pyIter_enum he ?_
    have I2 : Inv X pins σ H1 { s1 with heap := h' } := I1.kept (t' := s1.toks) hk
    refine ⟨s1.heap.objs.size + 1, [s1.heap.objs.size + 1, s1.heap.objs.size], _, _, H1, rfl, I2, turn_enumS (it := s1.heap.objs.size) (Nat.ne_of_lt hal) (Nat.ne_of_lt (Nat.lt_succ_of_lt hal)) (Nat.succ_ne_self _), ⟨⟨.none, he⟩, Sd.first hit⟩, fun b hb => ?_, q⟩
    have hle : s1.heap.objs.size ≤ b := by
      rcases List.mem_cons.mp hb with z | z
      · rw [z]; exact Nat.le_succ _
      · rw [List.mem_singleton.mp z]; exact Nat.le_refl _
    exact I1.fpOk hle (I1.hok.fresh hle)
variable [Tabl]
section
variable {ι : Type} {Xs : ι → Cx} {mg : Gm} {Wx : WX} {pos : Pos}
/-- the data with their numbers -/
def enumD (n : Nat) : List D → List D
  | [] => []
  | d :: r => .tup [.int n, d] :: enumD (n + 1) r
theorem enumD_get : ∀ (xs : List D) (n i : Nat), (enumD n xs)[i]? = (xs[i]?).map fun d => .tup [.int ((n + i : Nat) : Int), d]
  | [], n, i => by simp [enumD]
  | d :: r, n, 0 => by simp [enumD]
  | d :: r, n, i + 1 => by
    show (enumD (n + 1) r)[i]? = _
    rw [enumD_get r (n + 1) i]
    have e : n + 1 + i = n + (i + 1) := by omega
    rw [e]
    rfl
theorem enumD_len : ∀ (xs : List D) (n : Nat), (enumD n xs).length = xs.length
  | [], _ => rfl
  | _ :: r, n => by
    show (enumD (n + 1) r).length + 1 = r.length + 1
    rw [enumD_len r]
abbrev dIEnum (g : DTA) : DTI := fun ρ Q E => g ρ (fun ds => match ds with
  | [x] => ∃ xs, seqD x = some xs ∧ Q (enumD 0 xs)
  | _ => False) E
theorem di_enum {elts : List Expr} {kk : Nat} {tpos : Pos} {a : Expr} {p : Pos} {g : DTA} (hm : mg.mg "enumerate" = none) (h : DA Xs mg Wx [a] g) (hM : ∀ j, (Xs j).mg = mg.mg := by intro _; rfl) (hK : ∀ j, (Xs j).K = mg.K := by intro _; rfl) (hg : ∀ j, Gl (Xs j) "enumerate" := by intro _; rfl)
    (hs : ∀ j, starEach [a] (Xs j).env = [(false, eval a (Xs j).env)] := by intro _; rfl) :
    DI Xs mg Wx (.Tuple elts kk tpos) (.Call (.Name "enumerate" p) [a] [] pos) (dIEnum g) := by
  obtain ⟨t, h1, h2⟩ := h
  refine ⟨iEnumS mg.K t, fun j => by
    have z := pi_enumS (elts := elts) (kk := kk) (tpos := tpos) (p := p) (pos := pos) (hg j) (by rw [hM j]; exact hm) (h1 j) (hs j)
    rw [hK j] at z
    exact z, fun B ρ Q E hf W σ H Q' hh e x q => ?_⟩
  refine h2 B ρ _ E hf W σ H _ hh e x fun W1 H1 vs ds s1 r1 k1 => ?_
  split at k1
  · rename_i dx
    obtain ⟨xs, ex, k1⟩ := k1
    cases r1 with
    | cons rx r1 =>
      cases r1
      obtain ⟨a, us, sa, rfl, ra, qa⟩ := seq_side rx ex
      refine ⟨sa, a, us, rfl, qa _ _ (Le.refl _) s1.holds, q W1 H1 _ _ s1 (fun W2 H2 l hh2 => ?_) k1⟩
      have g1 := qa _ _ l hh2
      refine ⟨fun i hi => ?_, ⟨us, g1, by rw [enumD_len, ra.length]⟩, fun i x H3 hi y => ?_⟩
      · rw [enumD_len, ← ra.length] at hi
        exact ⟨us, _, g1, List.getElem?_eq_getElem hi⟩
      · obtain ⟨T, v1, rfl, hT, rfl, f1⟩ := y
        obtain ⟨d1, e1, r1⟩ := ra.getV (f1 us g1)
        exact ⟨_, .tup [.int i, d1], Step.alloc hh2 hT, by rw [enumD_get, e1, Nat.zero_add] <;> rfl, Rep.newTup (.cons (.int _) (.cons (r1.mono l) .nil)) (hh2.same.free hT)⟩
  · exact k1.elim
end
end FP
/-! FP69: text.split(text). -/
namespace FP
open PySem PySem.Spec PyProof.Rows L2
variable [Tabl]
section
variable {ι : Type} {Xs : ι → Cx} {mg : Gm} {Wx : WX} {pos : Pos}
abbrev dSplit (fo fe : DTE) : DTE := fun ρ Q E => fo ρ (fun x => match x with
  | .str a => fe ρ (fun y => match y with
    | .str b => (b.length == 0) = false ∧ a.length + 2 ≤ sizeLine ∧ Q (.lst ((Txt.split a b).map .str))
    | _ => False) E
  | _ => False) E
theorem de_split {o e : Expr} {fo fe : DTE} {apos : Pos} (ho : DE Xs mg Wx o fo) (he : DE Xs mg Wx e fe) (hs : ∀ j, starEach [e] (Xs j).env = [(false, eval e (Xs j).env)] := by intro _; rfl)
    (hb : ∀ j, attributeBase o "split" (Xs j).env (eval o (Xs j).env) = eval o (Xs j).env := by intro _; rfl) (hl : (apos.endLine == pos.line) = true := by rfl) : DE Xs mg Wx (.Call (.Attribute o "split" apos) [e] [] pos) (dSplit fo fe) := by
  obtain ⟨ta, a1, a2⟩ := ho
  obtain ⟨tb, b1, b2⟩ := he
  refine ⟨_, fun j => pe_split (a1 j) (b1 j) (hs j) (hb j) hl, ?_⟩
  intro B ρ Q E h W σ H Q' hh e x q
  refine a2 B ρ _ E h W σ H _ hh e x fun W1 H1 v1 d1 s1 r1 h1 => ?_
  cases r1 with
  | str a =>
    refine ⟨⟨a, rfl⟩, b2 B ρ _ E h1 W1 σ H1 _ s1.holds (e.step s1) (x.step s1) fun W2 H2 v2 d2 s2 r2 h2 => ?_⟩
    cases r2 with
    | str b => exact ⟨a, b, rfl, rfl, h2.1, h2.2.1, fun p n => to_lst (ToV.step q (s1.trans s2)) s2.holds (Reps.strs _) h2.2.2 p n⟩
    | _ => exact h2.elim
  | _ => exact h1.elim
theorem ev_split {ρ : Env} {fa fb : DTE} {a b : Str} (ha : Ev fa ρ (.str a)) (hb : Ev fb ρ (.str b)) (h0 : (b.length == 0) = false) (hl : a.length + 2 ≤ sizeLine) : Ev (dSplit fa fb) ρ (.lst ((Txt.split a b).map .str)) := fun Q E q => ha _ _ (hb _ _ ⟨h0, hl, q⟩)
end
end FP
/-! FP70: C.m(..) of a classmethod (cls, *lines). -/
namespace FP
open PySem L2
end FP
/-! FP71: C.m() of a classmethod (cls, *lines). -/
namespace FP
open PySem L2
end FP
/-! FP72: text.replace(written text, written text), behind a written text of the same display. -/
namespace FP
open PySem PySem.Spec PyProof.Rows L2
end FP
/-! FP73: a list times an integer. -/
namespace FP
open PySem L2
variable [Tabl]
section
variable {ι : Type} {Xs : ι → Cx} {mg : Gm} {Wx : WX} {pos : Pos}
theorem Reps.rep {W : Wd} {vs : List V} {ds : List D} (r : Reps mg W vs ds) : ∀ n : Nat, Reps mg W (List.replicate n vs).flatten (List.replicate n ds).flatten
  | 0 => .nil
  | n + 1 => by
    rw [List.replicate_succ, List.replicate_succ, List.flatten_cons, List.flatten_cons]
    exact r.append (Reps.rep r n)
end
end FP
/-! FP74: lists of one's own: seen, read, written at an index, insert, pop; range with a step. -/
namespace FP
open PySem L2
variable [Tabl]
section
variable {mg : Gm} {B : Hp} {W W' : Wd} {H H' : Hp} {σ : St} {ρ : Env}
/-- the environment where one's own list is seen -/
theorem EnvR.seenL (e : EnvR mg B W H σ ρ) {i : Nat} {xs : List D} (hi : ρ[i]? = some (.own xs)) :
    ∃ a, (W.H a = none ∧ ¬ W.T a) ∧ EnvR mg B (W.seen H [a]) H σ (ρ.set i (.d (.lst xs))) := by
  obtain ⟨o, h1, a, vs, ho, h2, h3, h4, h5, r⟩ := e.sl i _ hi
  subst ho
  have l := seen_le (W := W) (H := H) (as := [a]) fun b hb => by rw [List.mem_singleton.mp hb]; exact h3
  refine ⟨a, ⟨h3, h4⟩, by simpa using e.len, fun j sl hj => ?_, fun j m s1 s2 o1 o2 b hjk q1 q2 q3 q4 m1 m2 => ?_⟩
  · rcases get_set hj with ⟨rfl, rfl⟩ | ⟨nj, hj⟩
    · exact ⟨_, h1, _, rfl, .lst (by rw [seen_in (List.mem_singleton.mpr rfl)]; exact h2) (r.mono l)⟩
    · obtain ⟨o', g1, g2⟩ := e.sl j sl hj
      refine ⟨o', g1, g2.keep l fun b hb u h5 h6 h7 => ⟨h5, ?_, h7⟩⟩
      show (if b ∈ [a] then H b else W.H b) = none
      have nb : b ∉ [a] := fun q => e.dis i j _ sl _ o' b nj hi hj h1 g1 (by rw [List.mem_singleton.mp q]; exact List.mem_singleton.mpr rfl) hb
      rw [if_neg nb]
      exact h6
  · rcases get_set q1 with ⟨_, z⟩ | ⟨n1, q1⟩
    · rw [← z] at m1
      cases m1
    · rcases get_set q2 with ⟨_, z⟩ | ⟨n2, q2⟩
      · rw [← z] at m2
        cases m2
      · exact e.dis j m s1 s2 o1 o2 b hjk q1 q2 q3 q4 m1 m2
end
section
variable {ι : Type} {Xs : ι → Cx} {mg : Gm} {Wx : WX} {pos : Pos}
/-! ### seen by an expression that comes to a plain datum -/
abbrev dViewL (i : Nat) (f : DTE) : DTE := fun ρ Q _ => match ρ[i]? with
  | some (.own xs) => f (ρ.set i (.d (.lst xs))) (fun d => plainD d = true ∧ Q d) F0
  | _ => False
theorem de_viewL (i : Nat) {e : Expr} {f : DTE} (h : DE Xs mg Wx e f) : DE Xs mg Wx e (dViewL i f) := by
  obtain ⟨t, h1, h2⟩ := h
  refine ⟨t, h1, fun B ρ Q E hf W σ H Q' hh e x q => ?_⟩
  unfold dViewL at hf
  split at hf
  · rename_i xs hi
    obtain ⟨a, k, e1⟩ := e.seenL hi
    refine h2 B _ _ _ hf _ σ H _ (seen_holds hh fun b hb => by rw [List.mem_singleton.mp hb]; exact k.2) e1 ExR.f0 fun W1 H1 v d s1 r1 k1 => ?_
    exact q _ H1 v d (seen_step s1 fun b hb => by rw [List.mem_singleton.mp hb]; exact k.1) (r1.flat k1.1) k1.2
  · exact hf.elim
/-! ### an item, a slice of it -/
abbrev dOwnIx (i : Nat) (f : DTE) : DTE := fun ρ Q E => match ρ[i]? with
  | some (.own xs) => f ρ (fun y => match y with
    | .int k => ∃ d, atI xs k = some d ∧ Q d
    | _ => False) E
  | _ => False
theorem de_ownIx (i : Nat) {x : Str} {b : Expr} {f : DTE} {p : Pos} (h : DE Xs mg Wx b f) (hN : ∀ j, (Xs j).N[i]? = some x := by intro _; rfl) (hv : ∀ j, Vis (Xs j).env.scope x := by intro _; first | exact Or.inl rfl | exact Or.inr (Or.inl rfl) | exact Or.inr (Or.inr rfl))
    (hd : (x == ("__debug__" : Str)) = false := by decide) (hcd : (x == ("__classdict__" : Str)) = false := by decide) (hs : PlainIx b := by exact fun _ _ => rfl) (hK : ∀ j, (Xs j).K = mg.K := by intro _; rfl) : DE Xs mg Wx (.Subscript (.Name x p) b pos) (dOwnIx i f) := by
  obtain ⟨tb, b1, b2⟩ := h
  refine ⟨_, fun j => pe_ix (ix_seqK (hK j)) (pe_var (i := i) (hN j) (hv j) hd hcd) (b1 j) hs, fun B ρ Q E hf W σ H Q' hh e x q => ?_⟩
  unfold dOwnIx at hf
  split at hf
  · rename_i xs hx
    obtain ⟨o, g1, a, vs, g2, g3, g4, g5, g6, r⟩ := e.sl i _ hx
    subst g2
    refine ⟨.ref a, g1, b2 B ρ _ E hf W σ H _ hh e x fun W1 H1 v d s1 r1 k1 => ?_⟩
    cases r1 with
    | int k =>
      obtain ⟨d, h1, h2⟩ := k1
      obtain ⟨v, k1, k2⟩ := r.atI h1
      exact .inl ⟨_, _, _, v, rfl, rfl, SqL.of (s1.keep a _ g3 g5), k1, q W1 H1 _ _ s1 (k2.mono s1.le) h2⟩
    | _ => exact k1.elim
  · exact hf.elim
/-! ### written at an index -/
abbrev dOwnSet (i : Nat) (fk fe : DTE) : DTS := fun N ρ => fe ρ (fun d => match ρ[i]? with
  | some (.own xs) => fk ρ (fun y => match y with
    | .int k => ∃ j, ixN xs.length k = some j ∧ N.nx (ρ.set i (.own (xs.set j d)))
    | _ => False) (fun x => N.rs x ρ)
  | _ => False) (fun x => N.rs x ρ)
theorem ds_ownSet (i : Nat) {x : Str} {k e : Expr} {fk fe : DTE} {p spos : Pos} (hk : DE Xs mg Wx k fk) (he : DE Xs mg Wx e fe)
    (pe : ∀ j tk te, PE (Xs j) k tk → PE (Xs j) e te → PS (Xs j) (.Assign [.Subscript (.Name x p) k spos] e pos) (tAsg te (gSub (tVar i) tk L2.rSetL))) : DS Xs mg Wx (.Assign [.Subscript (.Name x p) k spos] e pos) (dOwnSet i fk fe) := by
  obtain ⟨tk, k1, k2⟩ := hk
  obtain ⟨te, e1, e2⟩ := he
  refine ⟨tAsg te (gSub (tVar i) tk L2.rSetL), fun j => pe j tk te (k1 j) (e1 j), fun W0 B N ρ hf W σ H Ds s e n => ?_⟩
  refine e2 B ρ _ _ hf W σ H _ s.holds e (n.ex s e) fun W1 H1 v d s1 r1 k1 => ?_
  have ee1 := e.step s1
  split at k1
  · rename_i xs hx
    obtain ⟨o, g1, a, vs, g2, g3, g4, g5, g6, r⟩ := ee1.sl i _ hx
    subst g2
    refine ⟨.ref a, g1, ?_⟩
    refine k2 B ρ _ _ k1 W1 σ H1 _ s1.holds ee1 (n.ex (s.trans s1) ee1) fun W2 H2 y z s2 r2 q2 => ?_
    have ee2 := ee1.step s2
    cases r2 with
    | int m =>
      obtain ⟨jj, h1, h2⟩ := q2
      obtain ⟨o', w1, a', vs', w2, w3, w4, w5, w6, r'⟩ := ee2.sl i _ hx
      rw [g1] at w1
      cases w1
      cases w2
      refine ⟨a, vs', m, jj, rfl, rfl, w3, by rw [r'.length]; exact h1, ?_⟩
      exact n.nx W2 _ σ _ (((s.trans s1).trans s2).own w6 w3 w4 w5) (ee2.own (us := vs') hx g1 (r'.set jj (r1.mono s2.le))) h2
    | _ => exact q2.elim
  · exact k1.elim
/-! ### insert, pop -/
end
end FP
/-! FP75: range with a step, xs[::-1], a comprehension as one's own, three names at once with an own one. -/
namespace FP
open PySem L2
variable [Tabl]
section
variable {ι : Type} {Xs : ι → Cx} {mg : Gm} {Wx : WX} {pos : Pos}
/-! ### range(a, b, c) -/
def rangeC (lo c : Int) (n : Nat) : List D := (List.range n).map fun (i : Nat) => D.int (lo + i * c)
theorem rangeC_len (lo c : Int) (n : Nat) : (rangeC lo c n).length = n := by simp [rangeC]
theorem WalkD.rangeC {W : Wd} {lo c : Int} {n : Nat} : WalkD mg W (Itc lo c n) (FP.rangeC lo c n) := by
  intro W1 H1 l hh
  refine ⟨fun i hi => by rw [rangeC_len] at hi; exact hi, by rw [rangeC_len]; exact Nat.le_refl n, fun i x H3 hi y => ?_⟩
  rw [rangeC_len] at hi
  obtain ⟨e, hx⟩ := (show H3 = H1 ∧ x = V.int (lo + (i : Nat) * c) from y)
  subst e hx
  refine ⟨W1, _, Step.refl hh, ?_, .int _⟩
  unfold FP.rangeC
  rw [List.getElem?_map, List.getElem?_range hi]
  rfl
/-- downwards by one -/
abbrev dIRngB (g : DTA) : DTI := fun ρ Q E => g ρ (fun ds => match ds with
  | [.int i, .int j, .int c] => c = -1 ∧ (-(2 ^ 62) ≤ i ∧ i < 2 ^ 62 ∧ -(2 ^ 62) ≤ j ∧ j < 2 ^ 62) ∧ Q (rangeC i (-1) (i - j).toNat)
  | _ => False) E
theorem di_range3 {tg a b c : Expr} {p : Pos} {g : DTA} (hm : mg.mg "range" = none) (h : DA Xs mg Wx [a, b, c] g) (hM : ∀ j, (Xs j).mg = mg.mg := by intro _; rfl) (hg : ∀ j, Gl (Xs j) "range" := by intro _; rfl)
    (hs : ∀ j, starEach [a, b, c] (Xs j).env = (false, eval a (Xs j).env) :: starEach [b, c] (Xs j).env := by intro _; rfl) (hpl : ∀ j, (backTo pos (starEach [b, c] (Xs j).env)).any (·.1) = false := by intro _; rfl) : DI Xs mg Wx tg (.Call (.Name "range" p) [a, b, c] [] pos) (dIRngB g) := by
  obtain ⟨t, h1, h2⟩ := h
  refine ⟨iRng3 t, fun j => pi_range3 (hg j) (by rw [hM j]; exact hm) (h1 j) (hs j) (hpl j), fun B ρ Q E hf W σ H Q' hh e x q => ?_⟩
  refine h2 B ρ _ E hf W σ H _ hh e x fun W1 H1 vs ds s1 r1 k1 => ?_
  split at k1
  · rename_i i j c
    cases r1 with
    | cons r rs =>
      cases r
      cases rs with
      | cons r rs =>
        cases r
        cases rs with
        | cons r rs =>
          cases r
          cases rs
          obtain ⟨rfl, ⟨b1, b2, b3, b4⟩, k2⟩ := k1
          exact ⟨i, j, -1, _, rfl, RgC.neg b1 b2 b3 b4, q W1 H1 _ _ s1 WalkD.rangeC k2⟩
  · exact k1.elim
/-! ### xs[::-1] -/
abbrev dRevL (f : DTE) : DTE := fun ρ Q E => f ρ (fun x => match x with
  | .lst xs => Q (.lst xs.reverse)
  | _ => False) E
theorem tRevL_K {X : Cx} {K : PySem.W.Frag} (h : X.K = K) {e : Expr} {te : TE} {k : Nat} {p1 p2 p3 : Pos} (he : PE X e te) : PE X (.Subscript e (.Slice none none (some (.UnaryOp .USub (.Constant (.int 1) k p1) p2)) p3) pos) (tRevL K te) := by
  subst h
  exact pe_revL he
theorem de_revL {e : Expr} {f : DTE} {k : Nat} {p1 p2 p3 : Pos} (h : DE Xs mg Wx e f) (hK : ∀ j, (Xs j).K = mg.K := by intro _; rfl) : DE Xs mg Wx (.Subscript e (.Slice none none (some (.UnaryOp .USub (.Constant (.int 1) k p1) p2)) p3) pos) (dRevL f) := by
  obtain ⟨t, h1, h2⟩ := h
  refine ⟨_, fun j => tRevL_K (hK j) (h1 j), fun B ρ Q E hf W σ H Q' hh e x q => ?_⟩
  refine h2 B ρ _ E hf W σ H _ hh e x fun W1 H1 v d s1 r1 k1 => ?_
  cases r1 with
  | lst ha ra => exact ⟨_, _, rfl, SqL.of (s1.holds.same _ _ ha), fun p hp => to_lst (ToV.step q s1) s1.holds ra.reverse k1 p hp⟩
  | _ => exact k1.elim
/-! ### a comprehension as one's own list -/
def CpN (mg : Gm) (Wx : WX) (t : TE) (g : DTA) : Prop := ∀ B ρ Q E, g ρ Q E → ∀ W σ H Q', Holds W H → EnvR mg B W H σ ρ → ExR mg Wx W H σ E → (∀ W' H' p vs ds, Step W H W' H' → H p = none → H' p = some (.lst vs) → W'.H p = none → ¬ W'.T p → Reps mg W' vs ds → Q ds → Q' (.ref p) H') → t σ H Q'
abbrev dLcN (w : DTI) (T : Tg) (ft : DTT) (fe : DTE) (vs : List Nat) : DTA := fun ρ Q E => w ρ (fun ds => ds.length ≤ sizeLine ∧ lcD (fun d k => ∃ ρ2, T.put d (wipeD ρ vs) = some ρ2 ∧ ft ρ2 (fun b => bit b (fe ρ2 (fun r => k (some r)) F0) (k none)) F0) ds Q) E
theorem CpN.lc {wi : TI} {g : TG} {tt : TT} {te : TE} {w : DTI} {T : Tg} {ft : DTT} {fe : DTE} {vs : List Nat} (hi : CpI mg Wx wi w) (hg : CpG mg g T) (hv : ∀ i ∈ T.slots, i ∈ vs) (ht : CpT mg Wx0 tt ft) (he : Cp mg Wx0 te fe) : CpN mg Wx (tLc wi g tt te vs) (dLcN w T ft fe vs) := by
  intro B ρ Q E hf W σ H Q' hh e x q
  refine hi B ρ _ E hf W σ H _ hh e x fun W1 H1 J ds s1 wk k1 => ?_
  obtain ⟨hsz, k1⟩ := k1
  intro A hA
  have e1 := e.step s1
  have hA0 : H A = none := by
    cases z : H A with
    | none => rfl
    | some o =>
      obtain ⟨o', e'⟩ := s1.live A o z
      rw [e'] at hA
      cases hA
  refine ⟨fun i m H' => m = ds.length - i ∧ i ≤ ds.length ∧ ∃ W' us acc, Step W1 H1 W' H' ∧ H' A = some (.lst us) ∧ W'.H A = none ∧ ¬ W'.T A ∧ Reps mg W' us acc ∧ acc.length ≤ i ∧ lcD _ (ds.drop i) (fun rs => Q (acc ++ rs)),
    ⟨ds.length, by simp, Nat.zero_le _, W1, [], [], Step.lay s1.holds hA, upd_same, s1.holds.same.free hA, s1.holds.nT hA, .nil, Nat.le_refl _, k1⟩, ?_⟩
  rintro i m H' ⟨rfl, hi, W', us, acc, s', hL, nw, nt, rs, la, k'⟩
  obtain ⟨go, stop, yld⟩ := wk W' H' s'.le s'.holds
  by_cases hlt : i < ds.length
  · refine .inr ⟨go i hlt, fun H2 => ∃ W2 us2 acc2, Step W1 H1 W2 H2 ∧ H2 A = some (.lst us2) ∧ W2.H A = none ∧ ¬ W2.T A ∧ Reps mg W2 us2 acc2 ∧ acc2.length ≤ i + 1 ∧ lcD _ (ds.drop (i + 1)) (fun rs => Q (acc2 ++ rs)), fun H2 q => ⟨ds.length - (i + 1), by omega, rfl, hlt, q⟩, fun y H2 hy => ?_⟩
    obtain ⟨W2, d, s2, hd, r⟩ := yld i y H2 hlt hy
    have ed : ds.drop i = d :: ds.drop (i + 1) := by
      rw [List.drop_eq_getElem_cons hlt]
      have := (List.getElem?_eq_some_iff.mp hd).2
      rw [this]
    rw [ed] at k'
    obtain ⟨ρ1, p1, k2⟩ := k'
    have sA : ∀ {Wa Wb : Wd} {Ha Hb : Hp} {ws : List V}, Step Wa Ha Wb Hb → Ha A = some (.lst ws) → Wa.H A = none → ¬ Wa.T A → Hb A = some (.lst ws) ∧ Wb.H A = none ∧ ¬ Wb.T A := fun st a1 a2 a3 => ⟨st.keep A _ a1 a3, by rw [st.fresh A _ a1]; exact a2, fun t => by
      rcases st.freshT A t with t | t
      · exact a3 t
      · rw [a1] at t
        cases t⟩
    refine hg B W2 H2 y d _ _ ρ1 _ s2.holds r ((e1.step s').step s2 |>.wipe vs) p1 fun σ3 e3 w3 => ?_
    refine ⟨(w3 vs hv).trans ?_, ?_⟩
    · have idem : ∀ ws : List Nat, L2.wipe (L2.wipe σ vs) ws = L2.wipe σ vs ∨ True := fun _ => .inr trivial
      exact wipe_wipe σ vs
    refine ht B ρ1 _ _ k2 W2 σ3 H2 _ s2.holds e3 ExR.f0 fun W3 H3 b s3 k3 => ?_
    obtain ⟨b1, b2, b3⟩ := sA (s2.trans s3) hL nw nt
    cases b with
    | true =>
      rw [if_pos rfl]
      refine he B ρ1 _ _ k3 W3 σ3 H3 _ s3.holds (e3.step s3) ExR.f0 fun W4 H4 z dz s4 r4 k4 => ?_
      obtain ⟨c1, c2, c3⟩ := sA s4 b1 b2 b3
      have s14 := (s'.trans s2).trans (s3.trans s4)
      refine ⟨us, c1, ?_, W4, us ++ [z], acc ++ [dz], s14.own hA c1 c2 c3, upd_same, c2, c3, Reps.snoc (rs.mono ((s2.trans s3).trans s4).le) r4, ?_, ?_⟩
      · rw [rs.length]
        omega
      · rw [List.length_append, List.length_singleton]
        omega
      · simpa [List.append_assoc] using k4
    | false =>
      rw [if_neg Bool.false_ne_true]
      exact ⟨W3, us, acc, (s'.trans s2).trans s3, b1, b2, b3, rs.mono (s2.trans s3).le, by omega, k3⟩
  · have ei : i = ds.length := by omega
    subst ei
    rw [List.drop_length] at k'
    refine .inl ⟨stop, q W' H' A us acc (s1.trans s') hA0 hL nw nt rs ?_⟩
    have k2 : Q (acc ++ []) := k'
    rw [List.append_nil] at k2
    exact k2
/-- a place gets a new list of one's own that stands already -/
theorem EnvR.setNew {B : Hp} {W : Wd} {H : Hp} {σ : St} {ρ : Env} (e : EnvR mg B W H σ ρ) {i : Nat} {p : Addr} {vs : List V} {xs : List D} (n : ∀ (j : Nat) (t : Sl) (o' : Option V), ρ[j]? = some t → σ[j]? = some o' → p ∈ t.fp o' → False) (h : H p = some (.lst vs)) (hw : W.H p = none) (ht : ¬ W.T p) (hb : B p = none) (r : Reps mg W vs xs) : EnvR mg B W H (σ.set i (some (.ref p))) (ρ.set i (.own xs)) :=
  e.move (fun j t o' b _ h1 h2 m m' => n j t o' h1 h2 (by rw [← List.mem_singleton.mp m']; exact m)) ⟨p, vs, rfl, h, hw, ht, hb, r⟩
theorem ds_setLcN {i : Nat} {y : Str} {py spos : Pos} {elt tg iter : Expr} {ifs : List Expr} {scope : Scope} {own : List (Str × Nat)} {w : DTI} {T : Tg} {ft : DTT} {fe : DTE} (hN : ∀ j, (Xs j).N.Nodup) (hi : DI Xs mg Wx tg iter w) (ok : ∀ j, BlkOk (Xs j).N (Xs j).env.scope scope own) (hg : DG (blkF Xs scope) mg tg T) (ht : DTs (blkF Xs scope) mg Wx0 ifs ft) (he : DE (blkF Xs scope) mg Wx0 elt fe)
    (hsw : ∀ j, swapsWith (.ListComp elt [⟨tg, iter, ifs, 0⟩] scope pos) (some (.Name y py)) spos.line (Xs j).env = pure true) (hy : ∀ j, (Xs j).N[i]? = some y := by intro _; rfl) (hyl : ∀ j, (Xs j).env.scope.names.lookup y = some .local := by intro _; rfl)
    (hv : ∀ i ∈ T.slots, i ∈ own.map (·.2) := by decide) (hc : ∀ j, (Xs j).calm = true := by intro _; rfl) (hs : ∀ j x, foldedSetIterable iter (Xs j).env x = pure x := by intro _ _; rfl) : DS Xs mg Wx (.Assign [.Name y py] (.ListComp elt [⟨tg, iter, ifs, 0⟩] scope pos) spos) (dSetO i (dLcN w T ft fe (own.map (·.2)))) := by
  obtain ⟨wi, i1, i2⟩ := hi
  obtain ⟨g, g1, g2⟩ := hg
  obtain ⟨tt, t1, t2⟩ := ht
  obtain ⟨te, e1, e2⟩ := he
  refine ⟨_, fun j => ps_setLc (i := i) (hc j) (hN j) (hy j) (hyl j) (hsw j) (i1 j) (ok j) (fun s H C cl fp => g1 (j, s, H, C, cl, fp)) (fun s H C cl fp => t1 (j, s, H, C, cl, fp)) (fun s H C cl fp => e1 (j, s, H, C, cl, fp)) (hs j), fun W0 B N ρ hf W σ H Ds s e n => ?_⟩
  refine CpN.lc i2 g2 hv t2 e2 B ρ _ _ hf W σ H _ s.holds e (n.ex s e) fun W1 H1 p vs ds s1 h0 h1 h2 h3 r1 k1 => ?_
  refine n.nx W1 H1 _ _ (s.trans s1) ((e.step s1).setNew (fun j t o' q1 q2 m => ?_) h1 h2 h3 (s.noB h0) r1) k1
  obtain ⟨o2, q3, q4⟩ := e.sl j _ q1
  rw [q2] at q3
  cases q3
  obtain ⟨u, q5, _⟩ := q4.at m
  rw [h0] at q5
  cases q5
/-! ### x, y, z = .., .., .. with an own list among them -/
abbrev dPar3L (i j l : Nat) (f1 f2 : DTE) (g : DTA) : DTS := fun N ρ => f1 ρ (fun d => f2 ρ (fun d2 => g ρ (fun xs => N.nx (((ρ.set i (.d d)).set j (.d d2)).set l (.own xs))) (fun x => N.rs x ρ)) (fun x => N.rs x ρ)) (fun x => N.rs x ρ)
theorem ds_par3L {i j l : Nat} {x y z : Str} {a b c : Expr} {g : DTA} {f1 f2 : DTE} {px py pz pt pt2 : Pos} {kt k2 : Nat} (h' : DE Xs mg Wx a f1) (h'' : DE Xs mg Wx b f2) (h : DO Xs mg Wx c g) (hN : ∀ l, (Xs l).N.Nodup)
    (hw : ∀ l, swappedStores [.Tuple [.Name x px, .Name y py, .Name z pz] kt pt] (.Tuple [a, b, c] k2 pt2) (Xs l).env = pure (some [x, y, z]) := by intro _; rfl) (hij : i ≠ j := by decide) (hil : i ≠ l := by decide) (hjl : j ≠ l := by decide) (hi : ∀ q, (Xs q).N[i]? = some x := by intro _; rfl) (hj : ∀ q, (Xs q).N[j]? = some y := by intro _; rfl) (hl : ∀ q, (Xs q).N[l]? = some z := by intro _; rfl)
    (hx : ∀ l, (Xs l).env.scope.names.lookup x = some .local := by intro _; rfl) (hy : ∀ l, (Xs l).env.scope.names.lookup y = some .local := by intro _; rfl) (hz : ∀ l, (Xs l).env.scope.names.lookup z = some .local := by intro _; rfl) (hc : ∀ l, (Xs l).calm = true := by intro _; rfl)
    (hs : ∀ l, swapsWithSole [.Tuple [.Name x px, .Name y py, .Name z pz] kt pt] (.Tuple [a, b, c] k2 pt2) pos.line (Xs l).env = pure false := by intro _; rfl)
    (he : ∀ i, starEach [a, b, c] (Xs i).env = (false, eval a (Xs i).env) :: starEach [b, c] (Xs i).env := by intro _; rfl) (he2 : ∀ i, starEach [b, c] (Xs i).env = (false, eval b (Xs i).env) :: starEach [c] (Xs i).env := by intro _; rfl) (he3 : ∀ i, starEach [c] (Xs i).env = [(false, eval c (Xs i).env)] := by intro _; rfl) : DS Xs mg Wx (.Assign [.Tuple [.Name x px, .Name y py, .Name z pz] kt pt] (.Tuple [a, b, c] k2 pt2) pos) (dPar3L i j l f1 f2 g) := by
  obtain ⟨t, h1, h2⟩ := h
  obtain ⟨u, g1, g2⟩ := h'
  obtain ⟨v, v1, v2⟩ := h''
  refine ⟨_, fun q => ps_par3 (i := i) (j := j) (l := l) (hc q) (hN q) (hi q) (hj q) (hl q) hij hil hjl (hx q) (hy q) (hz q) (pa_cons (g1 q) (pa_cons (v1 q) (pa_cons (h1 q) pa_nil (he3 q)) (he2 q)) (he q)) (hw q) (hs q), fun W0 B N ρ hf W σ H Ds s e n => ?_⟩
  refine g2 B ρ _ _ hf W σ H _ s.holds e (n.ex s e) fun W1 H1 w1 d1 s1 r1 k1 => ?_
  have e1 := e.step s1
  have s01 := s.trans s1
  refine v2 B ρ _ _ k1 W1 σ H1 _ s1.holds e1 (n.ex s01 e1) fun W2 H2 w2 d2 s2 r2 k2 => ?_
  have e2 := e1.step s2
  have s02 := s01.trans s2
  refine h2 B ρ _ _ k2 W2 σ H2 _ s2.holds e2 (n.ex s02 e2) fun W3 H3 p vs ds s3 hp r3 k3 => ?_
  have e3 := ((e2.step s3).set (i := i) (r1.mono (s2.trans s3).le)).set (i := j) (r2.mono s3.le)
  have s03 := s02.trans s3
  exact ⟨_, _, _, rfl, n.nx W3 _ _ _ (s03.trans (Step.lay s3.holds hp)) (e3.setOwn s3.holds hp (s03.noB hp) r3) k3⟩
end
end FP
/-! FP76: a slice of one's own list; small steps for own lists. -/
namespace FP
open PySem L2
variable [Tabl]
section
variable {ρ : Env} {f fk fe : DTE} {g : DTS} {N : Nd} {i j k : Nat} {xs : List D} {d : D}
theorem ev_viewL (h : ρ[i]? = some (.own xs)) (hp : plainD d = true) (hf : Ev f (ρ.set i (.d (.lst xs))) d) : Ev (dViewL i f) ρ d := fun Q E q => by
  unfold dViewL
  rw [h]
  exact hf _ _ ⟨hp, q⟩
theorem ev_ownIx {m : Int} (h : ρ[i]? = some (.own xs)) (hf : Ev f ρ (.int m)) (hd : atI xs m = some d) : Ev (dOwnIx i f) ρ d := fun Q E q => by
  unfold dOwnIx
  rw [h]
  exact hf _ _ ⟨d, hd, q⟩
theorem ev_lenO (h : ρ[i]? = some (.own xs)) : Ev (dLenO i) ρ (.int xs.length) := fun Q E q => by
  unfold dLenO
  rw [h]
  exact q
theorem ownSet {m : Int} {n : Nat} (h : ρ[i]? = some (.own xs)) (he : Ev fe ρ d) (hk : Ev fk ρ (.int m)) (hm : ixN xs.length m = some n) (hn : N.nx (ρ.set i (.own (xs.set n d)))) : dOwnSet i fk fe N ρ := he _ _ (by
  rw [h]
  exact hk _ _ ⟨n, hm, hn⟩)
theorem seq_ownSet {m : Int} {n : Nat} (h : ρ[i]? = some (.own xs)) (he : Ev fe ρ d) (hk : Ev fk ρ (.int m)) (hm : ixN xs.length m = some n) (hn : g N (ρ.set i (.own (xs.set n d)))) : dSeq (dOwnSet i fk fe) g N ρ := ownSet h he hk hm hn
theorem ixN_nat {n m : Nat} (h : m < n) : ixN n (m : Int) = some m := by
  unfold ixN
  rw [if_pos (show (0 : Int) ≤ (m : Int) by omega)]
  rw [if_pos (by omega)]
  simp
end
end FP
/-! FP77: a tuple times an integer. -/
namespace FP
open PySem L2
end FP
/-! FP78: xs.count(text), xs a list of texts. -/
namespace FP
open PySem L2
end FP
/-! FP79: a < b of rows of data, sum of a list of integers, x is not False. -/
namespace FP
open PySem PySem.Spec PyProof.Rows L2
end FP
/-! FP80: repr of data with dicts in them. -/
namespace FP
open PySem PySem.Spec PyProof.Rows L2
variable [Tabl]
def kP : Key → PyData
  | .inl i => .int i
  | .inr x => .str x
mutual
/-- a value that reads as data without lists, with dicts -/
inductive Dq (H : Hp) : V → PyData → Prop
  | non : Dq H .non .none
  | bl (b : Bool) : Dq H (.bl b) (.bool b)
  | int (i : Int) : Dq H (.int i) (.int i)
  | str (x : Str) : Dq H (.str x) (.str x)
  | tup {a : Addr} {xs : List V} {ds : List PyData} : H a = some (.tup xs) → DqAll H xs ds → Dq H (.ref a) (.tuple ds)
  | dct {a : Addr} {o : Obj} {kvs : List (Key × V)} {ps : List (PyData × PyData)} : H a = some (.frz o (.dK kvs)) → ps.map (·.1) = kvs.map (fun p => kP p.1) → DqAll H (kvs.map (·.2)) (ps.map (·.2)) → Dq H (.ref a) (.dict ps)
inductive DqAll (H : Hp) : List V → List PyData → Prop
  | nil : DqAll H [] []
  | cons {v : V} {vs : List V} {d : PyData} {ds : List PyData} : Dq H v d → DqAll H vs ds → DqAll H (v :: vs) (d :: ds)
end
section
variable {X : Cx} {pins : List (Addr × Obj)} {σ : L2.St} {H : Hp} {s : Shared}
/-- an element of a list that is shown: without dicts, or without lists -/
def Elem (K : PySem.W.Frag) (H : Hp) (v : V) (d : PyData) : Prop := (Dp K H v d ∧ d.hasDict = false) ∨ Dq H v d
inductive Elems (K : PySem.W.Frag) (H : Hp) : List V → List PyData → Prop
  | nil : Elems K H [] []
  | cons {v : V} {vs : List V} {d : PyData} {ds : List PyData} : Elem K H v d → Elems K H vs ds → Elems K H (v :: vs) (d :: ds)
end
section
variable {ι : Type} {Xs : ι → Cx} {mg : Gm} {Wx : WX} {pos : Pos}
mutual
def toPq : D → Option PyData
  | .non => some .none
  | .bl b => some (.bool b)
  | .int i => some (.int i)
  | .str x => some (.str x)
  | .tup xs => match toPqs xs with
    | some ps => some (.tuple ps)
    | none => none
  | .lst _ => none
  | .dct kvs => match toPqKV kvs with
    | some ps => some (.dict ps)
    | none => none
  | .fz _ => none
  | .ins _ _ => none
  | .tok => none
  | .cl _ => none
  | .fn _ _ => none
def toPqs : List D → Option (List PyData)
  | [] => some []
  | x :: xs => match toPq x, toPqs xs with
    | some p, some ps => some (p :: ps)
    | _, _ => none
def toPqKV : List (Key × D) → Option (List (PyData × PyData))
  | [] => some []
  | (k, x) :: xs => match toPq x, toPqKV xs with
    | some p, some ps => some ((kP k, p) :: ps)
    | _, _ => none
end
theorem toPqKV_split : ∀ {kvs : List (Key × D)} {ps : List (PyData × PyData)}, toPqKV kvs = some ps → ps.map (·.1) = kvs.map (fun p => kP p.1) ∧ toPqs (kvs.map (·.2)) = some (ps.map (·.2))
  | [], ps, h => by
    rw [toPqKV] at h
    cases h
    exact ⟨rfl, by rw [List.map_nil, toPqs]; rfl⟩
  | (k, x) :: kvs, ps, h => by
    rw [toPqKV] at h
    cases q1 : toPq x with
    | none => rw [q1] at h; cases h
    | some p =>
      cases q2 : toPqKV kvs with
      | none => rw [q1, q2] at h; cases h
      | some qs =>
        rw [q1, q2] at h
        cases h
        obtain ⟨i1, i2⟩ := toPqKV_split q2
        refine ⟨by rw [List.map_cons, List.map_cons, i1], ?_⟩
        rw [List.map_cons, toPqs, q1, i2]
        rfl
mutual
theorem Rep.dq {W : Wd} {H : Hp} (hh : Holds W H) : ∀ {v : V} {d : D} {p : PyData}, Rep mg W v d → toPq d = some p → Dq H v p
  | _, _, _, .non, e => by
    rw [toPq] at e
    cases e
    exact .non
  | _, _, _, .bl b, e => by
    rw [toPq] at e
    cases e
    exact .bl b
  | _, _, _, .int i, e => by
    rw [toPq] at e
    cases e
    exact .int i
  | _, _, _, .str x, e => by
    rw [toPq] at e
    cases e
    exact .str x
  | _, _, _, .tup ha r, e => by
    rw [toPq] at e
    split at e
    · rename_i ps hp
      cases e
      exact .tup (hh.same _ _ ha) (Reps.dq hh r hp)
    · cases e
  | _, _, _, .lst _ _, e => by
    rw [toPq] at e
    cases e
  | _, _, _, .fz _ _, e => by
    rw [toPq] at e
    cases e
  | _, _, _, .dct ha hk r, e => by
    rw [toPq] at e
    split at e
    · rename_i ps hp
      cases e
      obtain ⟨h1, h2⟩ := toPqKV_split hp
      refine .dct (hh.same _ _ ha) ?_ (Reps.dq hh r h2)
      rw [h1]
      have e2 := congrArg (List.map kP) hk
      rw [List.map_map, List.map_map] at e2
      exact e2.symm
    · cases e
  | _, _, _, .ins _ _ _ _, e => by
    rw [toPq] at e
    cases e
  | _, _, _, .tok _, e => by
    rw [toPq] at e
    cases e
  | _, _, _, .cl _, e => by
    rw [toPq] at e
    cases e
  | _, _, _, .fn _, e => by
    rw [toPq] at e
    cases e
theorem Reps.dq {W : Wd} {H : Hp} (hh : Holds W H) : ∀ {vs : List V} {ds : List D} {ps : List PyData}, Reps mg W vs ds → toPqs ds = some ps → DqAll H vs ps
  | _, _, _, .nil, e => by
    rw [toPqs] at e
    cases e
    exact .nil
  | _, _, _, .cons (d := d) (ds := ds) r rs, e => by
    rw [toPqs] at e
    cases q1 : toPq d with
    | none => rw [q1] at e; cases e
    | some p =>
      cases q2 : toPqs ds with
      | none => rw [q1, q2] at e; cases e
      | some qs =>
        rw [q1, q2] at e
        cases e
        exact .cons (Rep.dq hh r q1) (Reps.dq hh rs q2)
end
def elP (d : D) : Option PyData := match toPy d with
  | some p => if p.hasDict = true then none else some p
  | none => toPq d
def elPs : List D → Option (List PyData)
  | [] => some []
  | x :: xs => match elP x, elPs xs with
    | some p, some ps => some (p :: ps)
    | _, _ => none
theorem Rep.el {W : Wd} {H : Hp} (hh : Holds W H) {v : V} {d : D} {p : PyData} (r : Rep mg W v d) (h : elP d = some p) : Elem mg.K H v p := by
  unfold elP at h
  cases q : toPy d with
  | some p2 =>
    rw [q] at h
    dsimp only at h
    split at h
    · cases h
    · rename_i hd
      cases h
      refine .inl ⟨r.dp hh q, ?_⟩
      cases z : p.hasDict with
      | true => exact absurd z hd
      | false => rfl
  | none =>
    rw [q] at h
    exact .inr (r.dq hh h)
theorem Reps.el {W : Wd} {H : Hp} (hh : Holds W H) : ∀ {ds : List D} {vs : List V} {ps : List PyData}, Reps mg W vs ds → elPs ds = some ps → Elems mg.K H vs ps
  | [], _, _, .nil, e => by
    rw [elPs] at e
    cases e
    exact .nil
  | d :: ds, _, _, .cons r rs, e => by
    rw [elPs] at e
    cases q1 : elP d with
    | none => rw [q1] at e; cases e
    | some p =>
      cases q2 : elPs ds with
      | none => rw [q1, q2] at e; cases e
      | some qs =>
        rw [q1, q2] at e
        cases e
        exact .cons (r.el hh q1) (Reps.el hh rs q2)
end
end FP
/-! FP81: [*d, ..], d a dict. -/
namespace FP
open PySem PySem.Spec PyProof.Rows L2
end FP
/-! FP82: t[::-1] of a tuple, x.isdigit(), int(text), own.extend(list). -/
namespace FP
open PySem PySem.Spec PyProof.Rows L2
/-! ### a tuple turned round -/
end FP
/-! FP83: None in a list of data; isinstance of objects of other own classes. -/
namespace FP
open PySem PySem.Spec PyProof.Rows L2
end FP
/-! FP84: x, y = e, list(..), where y may change. -/
namespace FP
open PySem L2
end FP
/-! FP85: expressions that change what is mine, in assignments and comparisons; methods without arguments. -/
namespace FP
open PySem L2
variable [Tabl]
section
variable {ι : Type} {Xs : ι → Cx} {mg : Gm} {Wx : WX} {pos : Pos}
abbrev dSetX (i : Nat) (f : DTX) : DTS := fun N ρ => f ρ (fun d ρ' => N.nx (ρ'.set i (.d d))) (fun x ρ' => N.rs x ρ')
/-- x = e, where e changes what is mine -/
theorem ds_setX {i : Nat} {x : Str} {e : Expr} {f : DTX} {pos' : Pos} (h : DX Xs mg Wx e f) (hN : ∀ j, (Xs j).N.Nodup) (hi : ∀ j, (Xs j).N[i]? = some x := by intro _; rfl) (hx : ∀ j, Loc (Xs j).env.scope x := by intro _; first | exact Or.inl rfl | exact Or.inr rfl)
    (hs : ∀ j, swapsWith e (some (.Name x pos')) pos.line (Xs j).env = pure false := by intro _; rfl) (hf : ∀ j, (Xs j).fn x = true ∨ (Xs j).env.scope.names.lookup x = some .local := by intro _; first | exact .inl rfl | exact .inr rfl) : DS Xs mg Wx (.Assign [.Name x pos'] e pos) (dSetX i f) := by
  obtain ⟨t, h1, h2⟩ := h
  refine ⟨_, fun j => ps_set (i := i) (hN j) (hi j) (hx j) (h1 j) (hs j) (hf j), fun W0 B N ρ hf W σ H Ds s e n => ?_⟩
  exact h2 W0 B ρ _ _ hf W σ H _ s e (fun W' H' cls dd x ρ' s' e' r k => n.rs W' H' σ ρ' cls dd x s' e' r k) fun W1 H1 v d ρ' s1 e1 r1 k1 => n.nx W1 H1 _ _ s1 (e1.set r1) k1
abbrev dCmpX (rd : RD2) (fa : DTX) (fb : DTE) : DTTX := fun ρ Q E => fa ρ (fun x ρ' => fb ρ' (fun y => rd x y (fun r => blc r fun b => Q b ρ')) (fun e => E e ρ')) E
/-- a comparison whose left side changes what is mine -/
theorem dtx_cmp {op : CmpOp} {rd : RD2} {a b : Expr} {fa : DTX} {fb : DTE} (o : OpOk Xs mg (compareOp op) rd) (ha : DX Xs mg Wx a fa) (hb : DE Xs mg Wx b fb) (hm : behindInMarks op b = false := by first | rfl | exact nomark _) : DTX' Xs mg Wx (.Compare a [op] [b] pos) (dCmpX rd fa fb) := by
  obtain ⟨r, h1, h2⟩ := o
  obtain ⟨ta, a1, a2⟩ := ha
  obtain ⟨tb, b1, b2⟩ := hb
  refine ⟨_, fun i => pt_cmpR (h1 i) (a1 i) (b1 i) hm, fun W0 B ρ Q E hf W σ H Q' s e ex q => ?_⟩
  refine a2 W0 B ρ _ _ hf W σ H _ s e ex fun W1 H1 v1 d1 ρ' s1 e1 r1 k1 => ?_
  refine b2 B ρ' _ _ k1 W1 σ H1 _ s1.holds e1 (fun W' H' cls dd y s' ry hy => ex W' H' cls dd y ρ' (s1.trans s') (e1.step s') ry hy) fun W2 H2 v2 d2 s2 r2 k2 => ?_
  refine h2 W2 H2 v1 v2 d1 d2 _ _ s2.holds (r1.mono s2.le) r2 k2 fun W3 H3 v3 d3 s3 r3 k3 => ?_
  cases r3 with
  | bl b => exact ⟨b, rfl, q W3 H3 b ρ' ((s1.trans s2).trans s3) ((e1.step s2).step s3) k3⟩
  | _ => exact k3.elim
abbrev dxMeth0 (i : Nat) (c m : Str) (f : FO → List D → MO) : DTX := fun ρ Q E => match ρ[i]? with
  | some (.ow c' as fs) => c' = c ∧ fs.lookup m = none ∧ f fs [] (fun d fs' => ∀ as', as'.head? = as.head? → Q d (ρ.set i (.ow c as' fs'))) (fun x fs' => ∀ as', as'.head? = as.head? → E x (ρ.set i (.ow c as' fs')))
  | _ => False
/-- x.m(), a method that changes its object -/
theorem dx_meth0 (i0 : Nat) {P : Program} {w : World} {base : Heap} {k : Nat} {c m x : Str} {C : Addr} {f : FO → List D → MO} {p apos : Pos} {pl : ι → Sem Bool} (Fc : ClsF mg c C) (F : MethO P w mg base k c C m 0 f) (hr : ∀ i, RmG k (Xs i).A) (tk : ∀ i, Pas (Xs i) Wx)
    (hP : ∀ j, (Xs j).prog = P ∧ (Xs j).w = w ∧ (Xs j).K = mg.K ∧ (Xs j).mg = mg.mg ∧ (Xs j).base = base := by intro _; exact ⟨rfl, rfl, rfl, rfl, rfl⟩) (hN : ∀ j, (Xs j).N[i0]? = some x := by intro _; rfl)
    (hv : ∀ j, Vis (Xs j).env.scope x := by intro _; first | exact Or.inl rfl | exact Or.inr (Or.inl rfl) | exact Or.inr (Or.inr rfl)) (hd : (x == ("__debug__" : Str)) = false := by decide) (hcd : (x == ("__classdict__" : Str)) = false := by decide)
    (ht : ∀ i, eval (.Call (.Attribute (.Name x p) m apos) [] [] pos) (Xs i).env = (do
      let ov ← eval (.Name x p) (Xs i).env
      standAt apos.atName
      let (fn, first) ← holding [ov] (getMethod ov m (pl i))
      callWith pos fn first (backTo pos (starEach [] (Xs i).env)) (backToKw pos (keywordEach [] (Xs i).env))) := by intro _; rfl) : DX Xs mg Wx (.Call (.Attribute (.Name x p) m apos) [] [] pos) (dxMeth0 i0 c m f) := by
  obtain ⟨fa, fd, ps, hm, hb, hl, G⟩ := F.ex
  refine ⟨fun σ H Q => tVar i0 σ H fun x H1 => ∃ a dx fs, x = .ref a ∧ H1 a = some (.ins C dx fs) ∧ fs.lookup m = none ∧ spO mg c 0 f [x] H1 Q (WE Wx σ), fun i => ?_, ?_⟩
  · obtain ⟨p1, p2, p3, p4, p5⟩ := hP i
    subst p1 p2 p5
    constructor
    intro pins z σ H Q I hw
    refine PySem.W.methodCall_KW (pl := pl i) (thn ((pe_var (i := i0) (pos := p) (hN i) (hv i) hd hcd).run pins z σ H _ I hw) ?_) (ht i)
    rintro u z1 ⟨x, H1, I1, rx, a, dx, fs, ex, ea, l, q⟩
    subst ex
    have eu : u = Value.ref a := rx
    subst eu
    apply getmeth_ok I1 ea (by rw [p3]; exact Fc.cl) (by rw [p3]; exact hm) l
    exact PySem.W.callWith_K0 (first := [.ref a]) I1.kIn (by rw [p3]; exact hm.kp) (goG (Ew := WE Wx) (us := [.ref a]) (vs := [.ref a]) (by rw [p3, p4]; exact G) (hr i) (by rw [p3]; exact hb) (tk i σ) I1 (.cons rfl .nil) q)
  · intro W0 B ρ Q E hf W σ H Q' s e ex q
    unfold dxMeth0 at hf
    split at hf
    · rename_i c' as fs hi
      obtain ⟨rfl, hno, hf⟩ := hf
      obtain ⟨o, g1, g2⟩ := e.sl i0 _ hi
      obtain ⟨a, as', vs, ea, ho, ⟨C', dx, hc, h3⟩, h4, h5, h6⟩ := id g2
      subst ho
      have ec := Fc.eq hc
      subst ec
      refine ⟨.ref a, g1, a, dx, vs, rfl, h3, OFs.noField h4 hno, ?_⟩
      have kb : ∀ b ∈ as, B b = none := fun b hb => (h6 b hb).2.2.2
      have fin : ∀ (W' : Wd) (H' : Hp) (as2 : List Addr) (fs2 : FO), Step W (offH H as) W' H' → SlR mg (offH H as) W' H' (some (.ref a)) (.ow c' as2 fs2) → as2.head? = as.head? ∧ EnvR mg B W' H' σ (ρ.set i0 (.ow c' as2 fs2)) := fun W' H' as2 fs2 s' r' => by
        have hn : ∀ b ∈ as2, b ∈ as ∨ H b = none := fun b hb => by
          obtain ⟨_, _, _, _, _, _, _, _, h7⟩ := id r'
          exact offH_none (h7 b hb).2.2.2
        refine ⟨?_, e.over (s := .ow c' as fs) hi g1 s' hn (r'.rebase fun b hb _ => ?_)⟩
        · obtain ⟨a2, _, _, ea2, ho2, _⟩ := id r'
          cases ho2
          rw [ea, ea2]
          rfl
        · rcases hn b hb with z | z
          · exact kb b z
          · exact s.noB z
      refine ⟨W, a, [], [], as, fs, _, _, rfl, s.holds, g2.rebase fun b hb _ => offH_in hb, .nil, rfl, hf, fun W' H' v d as2 fs2 s' rv r' hq => ?_, fun W' H' cls dd y as2 fs2 s' ry r' hq => ?_⟩
      · obtain ⟨f1, f2⟩ := fin W' H' as2 fs2 s' r'
        exact q W' H' v d _ (s.over kb s') f2 rv (hq as2 f1)
      · obtain ⟨f1, f2⟩ := fin W' H' as2 fs2 s' r'
        exact ex W' H' cls dd y _ (s.over kb s') f2 ry (hq as2 f1)
    · exact hf.elim
end
end FP
/-! FP86: x.f.pop() of an owned list of data, and operators with a changing left side. -/
namespace FP
open PySem L2
variable [Tabl]
section
variable {ι : Type} {Xs : ι → Cx} {mg : Gm} {Wx : WX} {pos : Pos}
abbrev dxOwPop (i : Nat) (c f : Str) : DTX := fun ρ Q E => match ρ[i]? with
  | some (.ow c' as fs) => c' = c ∧ ∃ xs d, fs.lookup f = some (.l (xs ++ [d])) ∧ Q d (ρ.set i (.ow c as (putO f (.l xs) fs)))
  | _ => False
theorem dx_owPop (i : Nat) {c f : Str} {C : Addr} {ex : Expr} (F : ClsF mg c C) (na : NoAttr mg.K C f)
    (pe : ∀ j, PE (Xs j) ex (tBM0 (Xs j).K "list" rPop (tFld (Xs j).K (tVar i) f))) (hK : ∀ j, (Xs j).K = mg.K := by intro _; rfl) : DX Xs mg Wx ex (dxOwPop i c f) := by
  refine ⟨tBM0 mg.K "list" rPop (tFld mg.K (tVar i) f), fun j => by rw [← hK j]; exact pe j, fun W0 B ρ Q E hf W σ H Q' s e ex q => ?_⟩
  unfold dxOwPop at hf
  split at hf
  · rename_i c' as fs hi
    obtain ⟨rfl, xs, d, hl, hf⟩ := hf
    obtain ⟨a, C', dx, vs, v, pre, bs, post, q1, q2, q3, q4, q5, ⟨L, us, rfl, rfl, q7, q8⟩, q9, q10, q11⟩ := e.field s.holds hi hl
    have ec := F.eq q2
    subst ec
    obtain ⟨u, u1, u2⟩ := q8.get (i := xs.length) (d := d) (by simp)
    have hlen := q8.length
    rw [List.length_append, List.length_singleton] at hlen
    have rd : Reps mg W us.dropLast xs := by
      have := q8.take xs.length
      rw [List.take_left' rfl] at this
      rw [List.dropLast_eq_take, show us.length - 1 = xs.length by omega]
      exact this
    refine ⟨.ref a, q1, a, C', dx, vs, .ref L, rfl, q3, F.cl, na, q4, .inl ⟨rfl, _, SqL.of q7⟩, L, us, u, rfl, rfl, q7, by rw [hlen]; exact u1, ?_⟩
    obtain ⟨_, g3, g4, g6⟩ := q10 L (List.mem_singleton.mpr rfl)
    have e2 := q11 (.l xs) [L] (upd H L (.lst us.dropLast)) (fun b u hb nb => by
      have ne : b ≠ L := fun z => nb (by rw [z]; exact List.mem_singleton.mpr rfl)
      rw [upd_ne ne]
      exact hb) (fun b hb => by
      obtain rfl := List.mem_singleton.mp hb
      exact ⟨⟨_, upd_same⟩, .inl hb⟩) (by simp) ⟨L, _, rfl, rfl, upd_same, rd⟩
    rw [← q5] at e2
    exact q W _ u d _ (s.own g6 q7 g3 g4) e2 u2 hf
  · exact hf.elim
abbrev dxOp (rd : RD2) (fa : DTX) (fb : DTE) : DTX := fun ρ Q E => fa ρ (fun x ρ' => fb ρ' (fun y => rd x y (fun r => Q r ρ')) (fun e => E e ρ')) E
theorem CpX.op {r : R2} {rd : RD2} {ta tb : TE} {fa : DTX} {fb : DTE} (o : OpD mg r rd) (ha : CpX mg Wx ta fa) (hb : Cp mg Wx tb fb) : CpX mg Wx (tOp r ta tb) (dxOp rd fa fb) := by
  intro W0 B ρ Q E hf W σ H Q' s e ex q
  refine ha W0 B ρ _ _ hf W σ H _ s e ex fun W1 H1 v1 d1 ρ' s1 e1 r1 k1 => ?_
  refine hb B ρ' _ _ k1 W1 σ H1 _ s1.holds e1 (fun W' H' cls dd y s' ry hy => ex W' H' cls dd y ρ' (s1.trans s') (e1.step s') ry hy) fun W2 H2 v2 d2 s2 r2 k2 => ?_
  exact o W2 H2 v1 v2 d1 d2 _ _ s2.holds (r1.mono s2.le) r2 k2 fun W3 H3 v3 d3 s3 r3 k3 => q W3 H3 v3 d3 ρ' ((s1.trans s2).trans s3) ((e1.step s2).step s3) r3 k3
theorem ixD : OpD mg (fun x y H Q => rIx mg.K x y H Q) rdIx := by
  intro W H x y dx dy Q Q' hh rx ry h q
  unfold rdIx at h
  split at h
  · obtain ⟨d, h1, h2⟩ := h
    cases ry
    cases rx with
    | lst ha ra =>
      obtain ⟨v, g1, g2⟩ := ra.atI h1
      exact .inl ⟨_, _, _, v, rfl, rfl, SqL.of (hh.same _ _ ha), g1, q W H _ _ (Step.refl hh) g2 h2⟩
  · obtain ⟨d, h1, h2⟩ := h
    cases ry
    cases rx with
    | fz ha ra =>
      obtain ⟨v, g1, g2⟩ := ra.atI h1
      exact .inl ⟨_, _, _, v, rfl, rfl, hh.same.seq ha, g1, q W H _ _ (Step.refl hh) g2 h2⟩
  · obtain ⟨d, h1, h2⟩ := h
    cases ry
    cases rx with
    | tup ha ra =>
      obtain ⟨v, g1, g2⟩ := ra.atI h1
      exact .inr (.inl ⟨_, _, _, v, rfl, rfl, SqT.of (hh.same _ _ ha), g1, q W H _ _ (Step.refl hh) g2 h2⟩)
  · obtain ⟨c, h1, h2, h3⟩ := h
    cases ry
    cases rx
    exact .inr (.inr ⟨_, _, c, rfl, rfl, h1, h2, q W H _ _ (Step.refl hh) (.str _) h3⟩)
  · rename_i i
    obtain ⟨h1, h2⟩ := h
    cases ry with
    | int =>
      cases rx with
      | tok t =>
        obtain ⟨_, x, y, z, e⟩ := hh.tok _ t
        have hj : ∃ j, L2.atI [V.int x, V.int y, V.int z] i = some (.int j) := by
          have hi : i = 0 ∨ i = 1 ∨ i = 2 := by omega
          rcases hi with rfl | rfl | rfl
          · exact ⟨x, rfl⟩
          · exact ⟨y, rfl⟩
          · exact ⟨z, rfl⟩
        obtain ⟨j, hj⟩ := hj
        exact .inl ⟨_, _, _, _, rfl, rfl, SqL.of e, hj, q W H _ _ (Step.refl hh) (.int j) (h2 j)⟩
  · exact h.elim
/-- e[i], where e changes what is mine -/
theorem dx_ix {a b : Expr} {fa : DTX} {fb : DTE} (ha : DX Xs mg Wx a fa) (hb : DE Xs mg Wx b fb) (hs : PlainIx b := by exact fun _ _ => rfl) (hK : ∀ j, (Xs j).K = mg.K := by intro _; rfl) : DX Xs mg Wx (.Subscript a b pos) (dxOp rdIx fa fb) := by
  obtain ⟨ta, a1, a2⟩ := ha
  obtain ⟨tb, b1, b2⟩ := hb
  exact ⟨_, fun j => pe_ix (ix_seqK (hK j)) (a1 j) (b1 j) hs, CpX.op ixD a2 b2⟩
/-- x = C(e, ..), an owned object -/
abbrev dMakeOA (i : Nat) (c : Str) (m : Nat) (f : List D → (FO → Prop) → Prop) (g : DTA) : DTS := fun N ρ => g ρ (fun ds => ds.length = m ∧ f ds (fun fs => ∀ as, N.nx (ρ.set i (.ow c as fs)))) (fun x => N.rs x ρ)
theorem ds_makeOA {i : Nat} {P : Program} {w : World} {base : Heap} {k m : Nat} {c y : Str} {C : Addr} {f : List D → (FO → Prop) → Prop} {p py p2 : Pos} {e : Expr} {es : List Expr} {g : DTA} (Fc : ClsF mg c C) (F : InitO P w mg base k c C m f) (hr : ∀ i, RmG (k + 1) (Xs i).A) (tk : ∀ i, Pas (Xs i) Wx) (ha : DA Xs mg Wx (e :: es) g) (hN : ∀ j, (Xs j).N.Nodup)
    (hP : ∀ j, (Xs j).prog = P ∧ (Xs j).w = w ∧ (Xs j).K = mg.K ∧ (Xs j).mg = mg.mg ∧ (Xs j).base = base := by intro _; exact ⟨rfl, rfl, rfl, rfl, rfl⟩) (hg : ∀ j, Gl (Xs j) c := by intro _; rfl) (hd : (c == ("__debug__" : Str)) = false := by decide)
    (hi : ∀ j, (Xs j).N[i]? = some y := by intro _; rfl) (hx : ∀ j, Loc (Xs j).env.scope y := by intro _; first | exact Or.inl rfl | exact Or.inr rfl)
    (he : ∀ i, starEach (e :: es) (Xs i).env = (false, eval e (Xs i).env) :: starEach es (Xs i).env := by intro _; rfl) (hpl : ∀ i, (backTo p2 (starEach es (Xs i).env)).any (·.1) = false := by intro _; rfl)
    (hs : ∀ j, swapsWith (.Call (.Name c p) (e :: es) [] p2) (some (.Name y py)) pos.line (Xs j).env = pure false := by intro _; rfl) (hf : ∀ j, (Xs j).fn y = true ∨ (Xs j).env.scope.names.lookup y = some .local := by intro _; first | exact .inl rfl | exact .inr rfl) : DS Xs mg Wx (.Assign [.Name y py] (.Call (.Name c p) (e :: es) [] p2) pos) (dMakeOA i c m f g) := by
  obtain ⟨fa, fd, ps, M, hb, hl, G⟩ := F.ex
  obtain ⟨t, h1, h2⟩ := ha
  have pe : ∀ j, PE (Xs j) (.Call (.Name c p) (e :: es) [] p2) (fun σ H Q => t σ H fun vs H1 => ∀ x dx, H1 x = none → H1 dx = none → dx ≠ x → spIO mg c C m f (.ref x :: vs) (upd (upd H1 dx (.own x)) x (.ins C dx [])) (fun v H2 => v = .non ∧ Q (.ref x) H2) (WE Wx σ)) := fun j => by
    obtain ⟨p1, p2, p3, p4, p5⟩ := hP j
    subst p1 p2 p5
    constructor
    intro pins z σ H Q I hw
    apply wpAny_Call_Name_kw
    apply ld_glob I (hg j) (by rw [p4]; exact Fc.nm) _ hd
    apply PySem.W.callWith_K (h₀ := (Xs j).base) I.ok.mod.kin (by rw [p3]; exact M.kp) _ (he j) (hpl j)
    refine thn ((h1 j).run _ pins z σ H _ I hw) ?_
    rintro us z1 ⟨vs, H1, I1, rv, q⟩
    exact ⟨I1.kIn, makeG (by rw [p3]; exact M) (by rw [p3, p4]; exact G) (hr j) (by rw [p3]; exact hb) (tk j σ) I1 rv q⟩
  refine ⟨_, fun j => ps_set (i := i) (hN j) (hi j) (hx j) (pe j) (hs j) (hf j), fun W0 B N ρ hfd W σ H Ds s e n => ?_⟩
  refine h2 B ρ _ _ hfd W σ H _ s.holds e (n.ex s e) fun W1 H1 vs ds s1 r1 k1 => ?_
  intro x dx nx ndx ne
  have s01 := s.trans s1
  have e1 := e.step s1
  refine ⟨W1, ds, vs, H1, x, dx, _, rfl, nx, ndx, ne, rfl, s1.holds, r1, k1.1, k1.2, fun W' H' as fs s' r' hq => ⟨rfl, ?_⟩⟩
  have hnone : ∀ b ∈ as, H1 b = none := fun b hb => by
    obtain ⟨_, _, _, _, _, _, _, _, h7⟩ := id r'
    exact (h7 b hb).2.2.2
  exact n.nx W' H' _ _ (s01.trans s') (e1.newsW (s := .ow c as fs) s' hnone (r'.rebase fun b hb _ => s01.noB (hnone b hb))) (hq as)
/-- x.f[k] = e -/
abbrev dOwSetIx (i : Nat) (c f : Str) (fk fe : DTE) : DTS := fun N ρ => fe ρ (fun d => match ρ[i]? with
  | some (.ow c' as fs) => c' = c ∧ ∃ xs, fs.lookup f = some (.l xs) ∧ fk ρ (fun y => match y with
    | .int m => ∃ j, ixN xs.length m = some j ∧ N.nx (ρ.set i (.ow c as (putO f (.l (xs.set j d)) fs)))
    | _ => False) (fun x => N.rs x ρ)
  | _ => False) (fun x => N.rs x ρ)
theorem ds_owSetIx (i : Nat) {c f : Str} {C : Addr} {k e : Expr} {fk fe : DTE} {st : Stmt} (F : ClsF mg c C) (na : NoAttr mg.K C f) (hk : DE Xs mg Wx k fk) (he : DE Xs mg Wx e fe)
    (pe : ∀ j tk te, PE (Xs j) k tk → PE (Xs j) e te → PS (Xs j) st (tAsg te (gSub (tFld (Xs j).K (tVar i) f) tk L2.rSetL))) (hK : ∀ j, (Xs j).K = mg.K := by intro _; rfl) : DS Xs mg Wx st (dOwSetIx i c f fk fe) := by
  obtain ⟨tk, k1, k2⟩ := hk
  obtain ⟨te, e1, e2⟩ := he
  refine ⟨tAsg te (gSub (tFld mg.K (tVar i) f) tk L2.rSetL), fun j => by rw [← hK j]; exact pe j tk te (k1 j) (e1 j), fun W0 B N ρ hf W σ H Ds s e n => ?_⟩
  refine e2 B ρ _ _ hf W σ H _ s.holds e (n.ex s e) fun W1 H1 v d s1 r1 k1 => ?_
  have ee1 := e.step s1
  split at k1
  · rename_i c' as fs hi
    obtain ⟨rfl, xs, hl, k1⟩ := k1
    obtain ⟨a, C', dx, vs, w, pre, bs, post, q1, q2, q3, q4, q5, ⟨L, us, rfl, rfl, q7, q8⟩, q9, q10, _⟩ := ee1.field s1.holds hi hl
    have ec := F.eq q2
    subst ec
    refine ⟨.ref a, q1, a, C', dx, vs, .ref L, rfl, q3, F.cl, na, q4, ?_⟩
    refine k2 B ρ _ _ k1 W1 σ H1 _ s1.holds ee1 (n.ex (s.trans s1) ee1) fun W2 H2 y z s2 r2 qq => ?_
    have ee2 := ee1.step s2
    cases r2 with
    | int m =>
      obtain ⟨jj, h1, h2⟩ := qq
      obtain ⟨a2, C2, dx2, vs2, v2, pre2, bs2, post2, p1, p2, p3, p4, p5, ⟨L2, us2, rfl, rfl, p7, p8⟩, p9, p10, p11⟩ := ee2.field s2.holds hi hl
      rw [q1] at p1
      cases p1
      have hka : H2 a = some (.ins C' dx vs) := by
        obtain ⟨o, g1, g2⟩ := ee1.sl i _ hi
        obtain ⟨u, _, g3, g4, _⟩ := g2.at (a := a) (by rw [q5]; exact List.mem_cons_self)
        exact s2.keep a _ q3 g4
      rw [hka] at p3
      cases p3
      rw [q4] at p4
      cases p4
      refine ⟨L, us2, m, jj, rfl, rfl, p7, by rw [p8.length]; exact h1, ?_⟩
      obtain ⟨_, g3, g4, g6⟩ := p10 L (List.mem_singleton.mpr rfl)
      have e3 := p11 (.l (xs.set jj d)) [L] (upd H2 L (.lst (us2.set jj v))) (fun b u hb nb => by
        have ne : b ≠ L := fun z => nb (by rw [z]; exact List.mem_singleton.mpr rfl)
        rw [upd_ne ne]
        exact hb) (fun b hb => by
        obtain rfl := List.mem_singleton.mp hb
        exact ⟨⟨_, upd_same⟩, .inl hb⟩) (by simp) ⟨L, _, rfl, rfl, upd_same, p8.set jj (r1.mono s2.le)⟩
      rw [← p5] at e3
      exact n.nx W2 _ σ _ (((s.trans s1).trans s2).own g6 p7 g3 g4) e3 h2
    | _ => exact qq.elim
  · exact k1.elim
end
end FP
/-! FP87: s.partition(t). -/
namespace FP
open PySem L2
variable [Tabl]
section
variable {ι : Type} {Xs : ι → Cx} {mg : Gm} {Wx : WX} {pos : Pos}
abbrev dPartition (fo fe : DTE) : DTE := fun ρ Q E => fo ρ (fun x => match x with
  | .str a => fe ρ (fun y => match y with
    | .str b => (b.length == 0) = false ∧ a.length ≤ sizeLine ∧ Q (.tup [.str (Txt.partition a b).1, .str (Txt.partition a b).2.1, .str (Txt.partition a b).2.2])
    | _ => False) E
  | _ => False) E
theorem de_partition {o e : Expr} {fo fe : DTE} {apos : Pos} (ho : DE Xs mg Wx o fo) (he : DE Xs mg Wx e fe) (hs : ∀ j, starEach [e] (Xs j).env = [(false, eval e (Xs j).env)] := by intro _; rfl)
    (hb : ∀ j, attributeBase o "partition" (Xs j).env (eval o (Xs j).env) = eval o (Xs j).env := by intro _; rfl) (hl : (apos.endLine == pos.line) = true := by rfl) : DE Xs mg Wx (.Call (.Attribute o "partition" apos) [e] [] pos) (dPartition fo fe) := by
  obtain ⟨ta, a1, a2⟩ := ho
  obtain ⟨tb, b1, b2⟩ := he
  refine ⟨_, fun j => pe_partition (a1 j) (b1 j) (hs j) (hb j) hl, ?_⟩
  intro B ρ Q E h W σ H Q' hh e x q
  refine a2 B ρ _ E h W σ H _ hh e x fun W1 H1 v1 d1 s1 r1 h1 => ?_
  cases r1 with
  | str a =>
    refine ⟨⟨a, rfl⟩, b2 B ρ _ E h1 W1 σ H1 _ s1.holds (e.step s1) (x.step s1) fun W2 H2 v2 d2 s2 r2 h2 => ?_⟩
    cases r2 with
    | str b => exact ⟨a, b, rfl, rfl, h2.1, h2.2.1, fun p n => to_tup (ToV.step q (s1.trans s2)) s2.holds (.cons (.str _) (.cons (.str _) (.cons (.str _) .nil))) h2.2.2 p n⟩
    | _ => exact h2.elim
  | _ => exact h1.elim
theorem ev_partition {ρ : Env} {fa fb : DTE} {a b : Str} (ha : Ev fa ρ (.str a)) (hb : Ev fb ρ (.str b)) (h0 : (b.length == 0) = false) (hl : a.length ≤ sizeLine) : Ev (dPartition fa fb) ρ (.tup [.str (Txt.partition a b).1, .str (Txt.partition a b).2.1, .str (Txt.partition a b).2.2]) := fun Q E q => ha _ _ (hb _ _ ⟨h0, hl, q⟩)
end
end FP
/-! FP88: x.f[k], an item of an owned list of data in a field. -/
namespace FP
open PySem L2
variable [Tabl]
section
variable {ι : Type} {Xs : ι → Cx} {mg : Gm} {Wx : WX} {pos : Pos}
abbrev dOwIx (i : Nat) (c f : Str) (fk : DTE) : DTE := fun ρ Q E => match ρ[i]? with
  | some (.ow c' _ fs) => c' = c ∧ ∃ xs, fs.lookup f = some (.l xs) ∧ fk ρ (fun y => match y with
    | .int m => ∃ d, atI xs m = some d ∧ Q d
    | _ => False) E
  | _ => False
theorem de_owIx (i : Nat) {c f : Str} {C : Addr} {k ex : Expr} {fk : DTE} (F : ClsF mg c C) (na : NoAttr mg.K C f) (hk : DE Xs mg Wx k fk)
    (pe : ∀ j tk, PE (Xs j) k tk → PE (Xs j) ex (tOp (rIx (Xs j).K) (tFld (Xs j).K (tVar i) f) tk)) (hK : ∀ j, (Xs j).K = mg.K := by intro _; rfl) : DE Xs mg Wx ex (dOwIx i c f fk) := by
  obtain ⟨tk, k1, k2⟩ := hk
  refine ⟨tOp (rIx mg.K) (tFld mg.K (tVar i) f) tk, fun j => by rw [← hK j]; exact pe j tk (k1 j), ?_⟩
  intro B ρ Q E hf W σ H Q' hh e x q
  unfold dOwIx at hf
  split at hf
  · rename_i c' as fs hi
    obtain ⟨rfl, xs, hl, hf⟩ := hf
    obtain ⟨a, C', dx, vs, v, pre, bs, post, q1, q2, q3, q4, q5, ⟨L, us, rfl, rfl, q7, q8⟩, q9, q10, _⟩ := e.field hh hi hl
    have ec := F.eq q2
    subst ec
    obtain ⟨_, g3, g4, g6⟩ := q10 L (List.mem_singleton.mpr rfl)
    refine ⟨.ref a, q1, a, C', dx, vs, .ref L, rfl, q3, F.cl, na, q4, ?_⟩
    refine k2 B ρ _ E hf W σ H _ hh e x fun W1 H1 y z s1 r1 kk => ?_
    cases r1 with
    | int m =>
      obtain ⟨d, h1, h2⟩ := kk
      obtain ⟨u, g1, g2⟩ := q8.atI h1
      exact .inl ⟨_, _, _, u, rfl, rfl, SqL.of (s1.keep L _ q7 g4), g1, q W1 H1 _ _ s1 (g2.mono s1.le) h2⟩
    | _ => exact kk.elim
  · exact hf.elim
end
end FP
/-! KP: kinds, with no program in sight: text, places, order, parts, signed atoms; their data. -/
namespace KP
open PySem L2 FP
variable [FP.Tabl]
inductive Kd where
  | mk (as : List Kd) (a : Str)
def Kd.as : Kd → List Kd
  | .mk as _ => as
def Kd.a : Kd → Str
  | .mk _ a => a
mutual
def text : Kd → Str
  | .mk as a => Txt.join " -> " (texts as ++ [a])
def texts : List Kd → List Str
  | [] => []
  | k :: r => (if k.as.isEmpty then text k else "(" ++ text k ++ ")") :: texts r
end
mutual
def places : Kd → List Str
  | .mk as a => placesL as ++ [a]
def placesL : List Kd → List Str
  | [] => []
  | k :: r => places k ++ placesL r
end
theorem placesL_map : ∀ ks, placesL ks = (ks.map places).flatten
  | [] => rfl
  | k :: r => by
    rw [placesL, placesL_map r]
    rfl
mutual
def ord : Kd → Nat
  | .mk as _ => ordL as
def ordL : List Kd → Nat
  | [] => 0
  | k :: r => max (ord k + 1) (ordL r)
end
theorem ord_lt {k : Kd} : ∀ {ks : List Kd}, k ∈ ks → ord k < ordL ks
  | [], h => absurd h List.not_mem_nil
  | j :: r, h => by
    rw [ordL]
    rcases List.mem_cons.mp h with e | e
    · rw [e]; omega
    · have := ord_lt e
      omega
theorem ordL_le {n : Nat} : ∀ {ks : List Kd}, (∀ k ∈ ks, ord k < n) → ordL ks ≤ n
  | [], _ => Nat.zero_le _
  | j :: r, h => by
    rw [ordL]
    have h1 := h j List.mem_cons_self
    have h2 := ordL_le fun k hk => h k (List.mem_cons_of_mem _ hk)
    omega
mutual
def signed : Kd → Bool → List Str
  | .mk as a, b => (if b then [a] else []) ++ signedL as (!b)
def signedL : List Kd → Bool → List Str
  | [], _ => []
  | k :: r, b => signed k b ++ signedL r b
end
/-! ### sizes -/
theorem places_pos (k : Kd) : 1 ≤ (places k).length := by
  cases k with
  | mk as a =>
    rw [places, List.length_append]
    show 1 ≤ _ + 1
    omega
theorem placesL_len {k : Kd} : ∀ {ks : List Kd}, k ∈ ks → (places k).length ≤ (placesL ks).length
  | [], h => absurd h List.not_mem_nil
  | j :: r, h => by
    rw [placesL, List.length_append]
    rcases List.mem_cons.mp h with e | e
    · rw [e]; omega
    · have := placesL_len e
      omega
theorem length_placesL : ∀ ks : List Kd, ks.length ≤ (placesL ks).length
  | [] => Nat.zero_le _
  | j :: r => by
    rw [placesL, List.length_append, List.length_cons]
    have h1 := places_pos j
    have h2 := length_placesL r
    omega
theorem placesL_mem {k : Kd} {z : Str} (hz : z ∈ places k) : ∀ {ks : List Kd}, k ∈ ks → z ∈ placesL ks
  | [], h => absurd h List.not_mem_nil
  | j :: r, h => by
    rw [placesL]
    rcases List.mem_cons.mp h with e | e
    · rw [← e]
      exact List.mem_append_left _ hz
    · exact List.mem_append_right _ (placesL_mem hz e)
/-! ### words -/
def letters : List Nat := ("abcdefghijklmnopqrstuvwxyz" : Str).cps.toList
def isWordS (z : Str) : Bool := decide (1 ≤ z.length) && decide (z.length ≤ 8) && z.cps.toList.all fun c => decide (c ∈ letters)
theorem word_len {z : Str} (h : isWordS z = true) : 1 ≤ z.length ∧ z.length ≤ 8 := by
  unfold isWordS at h
  simp only [Bool.and_eq_true, decide_eq_true_eq] at h
  exact h.1
theorem word_letters {z : Str} (h : isWordS z = true) : ∀ c ∈ z.cps.toList, c ∈ letters := by
  unfold isWordS at h
  simp only [Bool.and_eq_true, decide_eq_true_eq, List.all_eq_true] at h
  exact h.2
theorem letters_small : ∀ c ∈ letters, 97 ≤ c ∧ c < 123 := by decide +kernel
theorem word_ok {z : Str} (h : isWordS z = true) : okStr z := ⟨Nat.le_trans (word_len h).2 (by decide), fun c hc => by
  have := letters_small c (word_letters h c hc)
  omega⟩
/-- a whole kind -/
structure Good (k : Kd) : Prop where
  w : ∀ z ∈ places k, isWordS z = true
  p : (places k).length ≤ 15
  o : ord k ≤ 4
theorem Good.kid {as : List Kd} {a : Str} (g : Good (.mk as a)) {k : Kd} (h : k ∈ as) : Good k := by
  refine ⟨fun z hz => g.w z ?_, ?_, ?_⟩
  · rw [places]
    exact List.mem_append_left _ (placesL_mem hz h)
  · have h1 := g.p
    rw [places, List.length_append] at h1
    have := placesL_len h
    have h1 : (placesL as).length + 1 ≤ 15 := h1
    omega
  · have h1 := g.o
    rw [ord] at h1
    have := ord_lt h
    omega
/-! ### the size of a text -/
theorem len_app (a b : Str) : (a ++ b).length = a.length + b.length := by
  show (a.cps ++ b.cps).size = _
  rw [Array.size_append]
  rfl
end KP
/-! KP2: kinds as data; data beside themselves. -/
namespace KP
open PySem L2 FP
variable [FP.Tabl]
mutual
def plain : Kd → D
  | .mk as a => .tup [.tup (plains as), .str a]
def plains : List Kd → List D
  | [] => []
  | k :: r => plain k :: plains r
end
mutual
def typeD : Kd → D
  | .mk as a => .ins "Type" [("own_args", .tup (typeDs as)), ("own_atom", .str a), ("own_places", .tup ((places (.mk as a)).map .str)), ("own_order", .int (ord (.mk as a))), ("own_text", .str (text (.mk as a)))]
def typeDs : List Kd → List D
  | [] => []
  | k :: r => typeD k :: typeDs r
end
/-! ### readings of fields, of the class -/
/-! ### data beside themselves -/
mutual
def shD : Nat → D → Bool
  | _, .non => true
  | _, .bl _ => true
  | _, .int _ => true
  | _, .str x => PyData.strOk x
  | n + 1, .tup xs => shDs n xs
  | n + 1, .lst xs => shDs n xs
  | _, _ => false
def shDs : Nat → List D → Bool
  | _, [] => true
  | n, x :: r => shD n x && shDs n r
end
mutual
theorem shD_py : ∀ (n : Nat) (d : D), shD n d = true → ∃ p, toPy d = some p ∧ p.canLay0 = true ∧ p.depth ≤ n
  | n, .non, _ => ⟨.none, rfl, rfl, Nat.zero_le _⟩
  | n, .bl b, _ => ⟨.bool b, rfl, rfl, Nat.zero_le _⟩
  | n, .int i, _ => ⟨.int i, rfl, rfl, Nat.zero_le _⟩
  | n, .str x, h => ⟨.str x, rfl, by rw [PyData.canLay0]; simpa [shD] using h, Nat.zero_le _⟩
  | n + 1, .tup xs, h => by
    rw [shD] at h
    obtain ⟨ps, h1, h2, h3⟩ := shDs_py n xs h
    exact ⟨.tuple ps, by rw [toPy, h1], h2, Nat.succ_le_succ h3⟩
  | n + 1, .lst xs, h => by
    rw [shD] at h
    obtain ⟨ps, h1, h2, h3⟩ := shDs_py n xs h
    exact ⟨.list ps, by rw [toPy, h1], h2, Nat.succ_le_succ h3⟩
  | 0, .tup xs, h => by simp [shD] at h
  | 0, .lst xs, h => by simp [shD] at h
  | n, .fz _, h => by simp [shD] at h
  | n, .dct _, h => by simp [shD] at h
  | n, .ins _ _, h => by simp [shD] at h
  | n, .tok, h => by simp [shD] at h
  | n, .cl _, h => by simp [shD] at h
  | n, .fn _ _, h => by simp [shD] at h
theorem shDs_py : ∀ (n : Nat) (ds : List D), shDs n ds = true → ∃ ps, toPys ds = some ps ∧ PyData.canLayAll0 ps = true ∧ PyData.depthAll ps ≤ n
  | n, [], _ => ⟨[], rfl, rfl, Nat.zero_le _⟩
  | n, x :: r, h => by
    rw [shDs, Bool.and_eq_true] at h
    obtain ⟨p, h1, h2, h3⟩ := shD_py n x h.1
    obtain ⟨ps, g1, g2, g3⟩ := shDs_py n r h.2
    refine ⟨p :: ps, by rw [toPys, h1, g1], ?_, ?_⟩
    · rw [PyData.canLayAll0, h2, g2]
      rfl
    · rw [PyData.depthAll]
      omega
end
mutual
theorem eqv_refl : ∀ p : PyData, p.canLay0 = true → PyData.eqv p p = true
  | .none, _ => by simp [PyData.eqv]
  | .bool _, _ => by simp [PyData.eqv]
  | .int _, _ => by simp [PyData.eqv]
  | .str _, _ => by simp [PyData.eqv]
  | .list xs, h => by
    rw [PyData.eqv]
    exact eqvAll_refl xs (by simpa [PyData.canLay0] using h)
  | .tuple xs, h => by
    rw [PyData.eqv]
    exact eqvAll_refl xs (by simpa [PyData.canLay0] using h)
  | .dict _, h => by simp [PyData.canLay0] at h
theorem eqvAll_refl : ∀ ps : List PyData, PyData.canLayAll0 ps = true → PyData.eqvAll ps ps = true
  | [], _ => by simp [PyData.eqvAll]
  | p :: r, h => by
    rw [PyData.canLayAll0, Bool.and_eq_true] at h
    rw [PyData.eqvAll, eqv_refl p h.1, eqvAll_refl r h.2]
    rfl
end
theorem sh_shaped {p : PyData} (h1 : p.canLay0 = true) (h2 : p.depth ≤ 64) : SeqAt.shaped p = true := by
  unfold SeqAt.shaped
  rw [h1, decide_eq_true h2]
  rfl
theorem ne_refl {x : D} {Q : D → Prop} (h : shD 64 x = true) (hn : eqS x x = none) (q : Q (.bl false)) : rdNe x x Q := by
  obtain ⟨p, h1, h2, h3⟩ := shD_py 64 x h
  exact ne_deep h1 h1 hn (sh_shaped h2 h3) (sh_shaped h2 h3) (eqv_refl p h2) q
theorem eq_refl {x : D} {Q : D → Prop} (h : shD 64 x = true) (hn : eqS x x = none) (q : Q (.bl true)) : rdEq x x Q := by
  obtain ⟨p, h1, h2, h3⟩ := shD_py 64 x h
  exact eq_deep h1 h1 hn (sh_shaped h2 h3) (sh_shaped h2 h3) (eqv_refl p h2) q
/-! ### signs of texts -/
theorem strOk_iff (z : Str) : PyData.strOk z = true ↔ ∀ c ∈ z.cps.toList, c < 1114112 := by
  unfold PyData.strOk
  rw [Array.all_eq_true']
  simp
end KP
/-! KP3: what the defs about kinds promise, by data; lists walked. -/
namespace KP
open PySem L2 FP
variable [FP.Tabl]
/-- a comprehension over data told by things -/
theorem lc_of {α : Type} {body : D → (Option D → Prop) → Prop} (e g : α → D) : ∀ (xs : List α) (Q : List D → Prop), (∀ x ∈ xs, ∀ k : Option D → Prop, k (some (g x)) → body (e x) k) → Q (xs.map g) → lcD body (xs.map e) Q
  | [], Q, _, h => h
  | x :: xs, Q, hb, h => by
    refine hb x List.mem_cons_self _ ?_
    exact lc_of e g xs _ (fun y hy => hb y (List.mem_cons_of_mem _ hy)) h
/-- a for loop over data told by things: what holds behind each -/
theorem for_of {α : Type} {T : Tg} {f : DTS} {N : Nd} (e : α → D) (I : List α → FP.Env → Prop) : ∀ (xs done : List α) (ρ : FP.Env), I done ρ →
    (∀ (x : α) (pre post : List α), done ++ xs = pre ++ x :: post → ∀ (ρ : FP.Env) (K : FP.Env → Prop), I pre ρ → (∀ ρ', I (pre ++ [x]) ρ' → K ρ') → ∃ ρ1, T.put (e x) ρ = some ρ1 ∧ f { N with nx := K, ct := K, bk := N.nx } ρ1) →
    (∀ ρ, I (done ++ xs) ρ → N.nx ρ) → forD T f N (xs.map e) ρ
  | [], done, ρ, h, _, he => he ρ (by rw [List.append_nil]; exact h)
  | x :: xs, done, ρ, h, hs, he => by
    refine hs x done xs rfl ρ _ h fun ρ' h' => ?_
    refine for_of e I xs (done ++ [x]) ρ' h' (fun y pre post eq ρ K => hs y pre post (by rw [← eq, List.append_assoc]; rfl) ρ K) fun ρ h2 => he ρ ?_
    rw [List.append_assoc] at h2
    exact h2
def isWordD : D → Bool
  | .str z => isWordS z
  | _ => false
def isIntD : D → Bool
  | .int i => decide (-(10 ^ 60) < i) && decide (i < 10 ^ 60)
  | _ => false
def f_is_word : List D → M D := fun ds Q _ => match ds with
  | [d] => okV d ∧ Q (.bl (isWordD d))
  | _ => False
def f_is_int : List D → M D := fun ds Q _ => match ds with
  | [d] => okV d ∧ Q (.bl (isIntD d))
  | _ => False
def inRow (d : D) (a b : Int) : Bool := match d with
  | .int i => isIntD (.int i) && (decide (a ≤ i) && decide (i ≤ b))
  | _ => false
def f_within : List D → M D := fun ds Q _ => match ds with
  | [d, .int a, .int b] => okV d ∧ Q (.bl (inRow d a b))
  | _ => False
def d_len (k : Kd) : D := .int (places k).length
theorem size_small {n : Nat} (h : n ≤ 1000) : n ≤ sizeLine := Nat.le_trans h (by decide)
theorem placesL_app (xs ys : List Kd) : placesL (xs ++ ys) = placesL xs ++ placesL ys := by
  rw [placesL_map, placesL_map, placesL_map, List.map_append, List.flatten_append]
end KP
/-! KP4: a dict from texts to kinds; its keys in order. -/
namespace KP
open PySem L2 FP
variable [FP.Tabl]
structure DInv (done : List Kd) (acc : List (Key × D)) : Prop where
  el : ∀ kv ∈ acc, ∃ j ∈ done, kv = (.inr (text j), typeD j)
  nd : (acc.map (·.1)).Nodup
  all : ∀ j ∈ done, Sum.inr (text j) ∈ acc.map (·.1)
theorem DInv.put {done : List Kd} {acc : List (Key × D)} (h : DInv done acc) (j : Kd) : DInv (done ++ [j]) (putKD acc (.inr (text j)) (typeD j)) := by
  unfold putKD
  by_cases q : (acc.any fun kv => decide (kv.1 = .inr (text j))) = true
  · rw [if_pos q]
    have ek : (acc.map fun kv => if kv.1 = .inr (text j) then (kv.1, typeD j) else kv).map (·.1) = acc.map (·.1) := by
      rw [List.map_map]
      apply List.map_congr_left
      intro kv _
      show (if kv.1 = .inr (text j) then (kv.1, typeD j) else kv).1 = kv.1
      split <;> rfl
    refine ⟨fun kv hkv => ?_, by rw [ek]; exact h.nd, fun i hi => ?_⟩
    · obtain ⟨kv0, h0, e⟩ := List.mem_map.mp hkv
      by_cases z : kv0.1 = .inr (text j)
      · rw [if_pos z] at e
        exact ⟨j, by simp, by rw [← e, z]⟩
      · rw [if_neg z] at e
        obtain ⟨i, hi, ei⟩ := h.el kv0 h0
        exact ⟨i, List.mem_append_left _ hi, by rw [← e, ei]⟩
    · rw [ek]
      rcases List.mem_append.mp hi with z | z
      · exact h.all i z
      · rw [List.mem_singleton.mp z]
        obtain ⟨kv, h1, h2⟩ := List.any_eq_true.mp q
        exact List.mem_map.mpr ⟨kv, h1, of_decide_eq_true h2⟩
  · rw [if_neg q]
    have nk : Sum.inr (text j) ∉ acc.map (·.1) := fun z => by
      obtain ⟨kv, h1, h2⟩ := List.mem_map.mp z
      exact q (List.any_eq_true.mpr ⟨kv, h1, decide_eq_true h2⟩)
    refine ⟨fun kv hkv => ?_, ?_, fun i hi => ?_⟩
    · rcases List.mem_append.mp hkv with z | z
      · obtain ⟨i, hi, ei⟩ := h.el kv z
        exact ⟨i, List.mem_append_left _ hi, ei⟩
      · exact ⟨j, by simp, List.mem_singleton.mp z⟩
    · rw [List.map_append]
      refine List.nodup_append.mpr ⟨h.nd, by simp, fun a ha b hb e => ?_⟩
      have eb : b = Sum.inr (text j) := by simpa using hb
      rw [e, eb] at ha
      exact nk ha
    · rw [List.map_append]
      rcases List.mem_append.mp hi with z | z
      · exact List.mem_append_left _ (h.all i z)
      · rw [List.mem_singleton.mp z]
        exact List.mem_append_right _ (by simp)
theorem flatsD_strs : ∀ zs : List Str, flatsD (zs.map D.str) = some (zs.map V.str)
  | [] => rfl
  | z :: r => by
    rw [List.map_cons, flatsD, flatsD_strs r]
    rfl
theorem flat_strs : ∀ zs : List Str, (zs.map V.str).all flatV = true
  | [] => rfl
  | z :: r => by
    rw [List.map_cons, List.all_cons, flat_strs r]
    rfl
theorem inV_strs (z : Str) : ∀ zs : List Str, inV (.str z) (zs.map V.str) = decide (z ∈ zs)
  | [] => rfl
  | y :: r => by
    have ih := inV_strs z r
    unfold inV at ih ⊢
    rw [List.map_cons, List.any_cons, ih]
    have e : eqV (.str y) (.str z) = decide (y = z) := by
      show (y == z) = _
      rfl
    rw [e, Bool.eq_iff_iff]
    simp only [Bool.or_eq_true, decide_eq_true_eq, List.mem_cons]
    constructor
    · rintro (h | h)
      · exact .inl h.symm
      · exact .inr h
    · rintro (h | h)
      · exact .inl h.symm
      · exact .inr h
theorem inD_strs (z : Str) (zs : List Str) : inD (.str z) (.lst (zs.map D.str)) = some (decide (z ∈ zs)) := by
  show (match flatD (.str z), flatsD (zs.map D.str) with
    | some v, some vs => if flatV v = true ∧ vs.all flatV = true then some (inV v vs) else none
    | _, _ => none) = _
  rw [flatsD_strs]
  show (if flatV (.str z) = true ∧ (zs.map V.str).all flatV = true then some (inV (.str z) (zs.map V.str)) else none) = _
  rw [if_pos ⟨rfl, flat_strs zs⟩, inV_strs]
theorem atI_nat {α : Type} {xs : List α} {i : Int} (h0 : 0 ≤ i) (h1 : i < xs.length) : atI xs i = xs[i.toNat]? := by
  unfold atI ixN
  rw [if_pos h0, if_pos h1]
  rfl
/-- a text among texts -/
theorem in_strs {z : Str} {zs : List Str} {Q : D → Prop} (q : Q (.bl (decide (z ∈ zs)))) (hn : zs.length ≤ 1000) : rdIn (.str z) (.lst (zs.map .str)) Q := by
  have e : inD (.str z) (.lst (zs.map .str)) = some (decide (z ∈ zs)) := inD_strs z zs
  unfold rdIn
  rw [e]
  exact q
end KP
/-! KP5: how a kind is read from signs, with no program in sight. -/
namespace KP
open PySem L2 FP
variable [FP.Tabl]
abbrev Rows := List (List Kd)
def takeEnd (pre : Rows) (row : List Kd) (w : Bool) (s : Str) : Bool × Rows × Bool :=
  if w then (false, pre ++ [row], w) else if s = " -> " then (true, pre ++ [row], true) else
    match pre.getLast?, row.getLast? with
    | some r0, some k => if 2 ≤ row.length ∧ k.as = [] then (true, pre.dropLast ++ [r0 ++ [.mk row.dropLast k.a]], false) else (false, pre, false)
    | _, _ => (false, pre, false)
def take1 (pre : Rows) (row : List Kd) (w : Bool) (s : Str) : Bool × Rows × Bool :=
  if s = "(" then (w && decide (pre.length + 2 ≤ 5), pre ++ [row] ++ [[]], w)
  else if s = " -> " ∨ s = ")" then takeEnd pre row w s
  else (w && isWordS s, pre ++ [row ++ [.mk [] s]], false)
structure OkR (rows : Rows) : Prop where
  n : rows.length ≤ 6
  r : ∀ row ∈ rows, row.length ≤ 2000
  k : ∀ row ∈ rows, ∀ k ∈ row, ord k ≤ 6 ∧ ∀ z ∈ places k, PyData.strOk z = true
/-! ### shapes are shaped -/
theorem shDs_of {n : Nat} : ∀ {ds : List D}, (∀ d ∈ ds, shD n d = true) → shDs n ds = true
  | [], _ => by rw [shDs]
  | d :: r, h => by
    rw [shDs, h d List.mem_cons_self, shDs_of fun e he => h e (List.mem_cons_of_mem _ he)]
    rfl
theorem OkR.dl {pre : Rows} {row : List Kd} (h : OkR (pre ++ [row])) : OkR pre := ⟨by have := h.n; rw [List.length_append] at this; have e : [row].length = 1 := rfl; omega, fun r hr => h.r r (List.mem_append_left _ hr), fun r hr => h.k r (List.mem_append_left _ hr)⟩
theorem eq_str {a b : Str} {Q : D → Prop} (q : Q (.bl (decide (a = b)))) : rdEq (.str a) (.str b) Q := q
theorem atI_snoc {α : Type} (xs : List α) (x : α) : atI (xs ++ [x]) (-1) = some x := atI_last (n := xs.length) (by simp) (by simp)
end KP
/-! KP6: the signs of a text, and the shape that they tell, with no program in sight. -/
namespace KP
open PySem L2 FP
variable [FP.Tabl]
def isL (c : Nat) : Bool := decide (c ∈ letters)
def arrowL : List Nat := (" -> " : Str).cps.toList
def parL : List Nat := ("()" : Str).cps.toList
def lexO : Nat → List Nat → Option (List Str)
  | _, [] => some []
  | 0, _ :: _ => none
  | n + 1, c :: r =>
    if isL c = true then (lexO n (r.dropWhile isL)).map (List.cons (⟨(c :: r.takeWhile isL).toArray⟩ : Str))
    else if (c :: r).take 4 = arrowL then (lexO n (r.drop 3)).map (List.cons (" -> " : Str))
    else if c ∈ parL then (lexO n r).map (List.cons (⟨#[c]⟩ : Str))
    else none
def lexS (z : Str) : Option (List Str) := lexO z.cps.toList.length z.cps.toList
theorem lexO_nil (n : Nat) : lexO n [] = some [] := by cases n <;> rfl
theorem lexO_fuel : ∀ (n m : Nat) (xs : List Nat), xs.length ≤ n → xs.length ≤ m → lexO n xs = lexO m xs
  | n, m, [], _, _ => by rw [lexO_nil, lexO_nil]
  | 0, _, _ :: _, h, _ => by simp at h
  | _, 0, _ :: _, _, h => by simp at h
  | n + 1, m + 1, c :: r, h, h' => by
    have h1 : r.length ≤ n := by simpa using h
    have h2 : r.length ≤ m := by simpa using h'
    have hd : (r.dropWhile isL).length ≤ r.length := (List.dropWhile_sublist isL).length_le
    have hp : (r.drop 3).length ≤ r.length := by simp
    rw [lexO, lexO, lexO_fuel n m _ (Nat.le_trans hd h1) (Nat.le_trans hd h2), lexO_fuel n m _ (Nat.le_trans hp h1) (Nat.le_trans hp h2), lexO_fuel n m r h1 h2]
theorem lexO_cons (c : Nat) (r : List Nat) : lexO (c :: r).length (c :: r) =
    if isL c = true then (lexO (r.dropWhile isL).length (r.dropWhile isL)).map (List.cons (⟨(c :: r.takeWhile isL).toArray⟩ : Str))
    else if (c :: r).take 4 = arrowL then (lexO (r.drop 3).length (r.drop 3)).map (List.cons (" -> " : Str))
    else if c ∈ parL then (lexO r.length r).map (List.cons (⟨#[c]⟩ : Str))
    else none := by
  have hd : (r.dropWhile isL).length ≤ r.length := (List.dropWhile_sublist isL).length_le
  have hp : (r.drop 3).length ≤ r.length := by simp
  rw [List.length_cons, lexO, lexO_fuel r.length _ _ hd (Nat.le_refl _), lexO_fuel r.length _ _ hp (Nat.le_refl _)]
/-- what is found so far, and the rest -/
def Lex (z : Str) (found : List Str) (rest : List Nat) : Prop := lexS z = (lexO rest.length rest).map (found ++ ·)
theorem Lex.start (z : Str) : Lex z [] z.cps.toList := by
  unfold Lex lexS
  cases lexO z.cps.toList.length z.cps.toList <;> rfl
theorem Lex.stop {z : Str} {found : List Str} (h : Lex z found []) : lexS z = some found := by
  unfold Lex at h
  rw [h, lexO_nil]
  simp
theorem Lex.step {z : Str} {found : List Str} {rest rest' : List Nat} {s : Str} (h : Lex z found rest) (e : lexO rest.length rest = (lexO rest'.length rest').map (List.cons s)) : Lex z (found ++ [s]) rest' := by
  unfold Lex at h ⊢
  rw [h, e]
  cases lexO rest'.length rest' with
  | none => rfl
  | some ss => simp
theorem Lex.par {z : Str} {found : List Str} {c : Nat} {r : List Nat} (h : Lex z found (c :: r)) (hc : isL c = false) (ha : ¬ (c :: r).take 4 = arrowL) (hp : c ∈ parL) : Lex z (found ++ [⟨#[c]⟩]) r :=
  h.step (by rw [lexO_cons, if_neg (by rw [hc]; exact Bool.false_ne_true), if_neg ha, if_pos hp])
/-! ### places of a text -/
theorem at_mid {z : Str} {pre rest : List Nat} {c : Nat} {i : Int} (h : z.cps.toList = pre ++ c :: rest) (hi : i = (pre.length : Int)) : atI z.cps.toList i = some c := by
  refine at_of (j := pre.length) hi ?_
  rw [h, List.getElem?_append_right (Nat.le_refl _), Nat.sub_self]
  rfl
theorem cut_mid {z : Str} {pre rest : List Nat} {lo hi : Int} {k : Nat} (h : z.cps.toList = pre ++ rest) (hl : lo = (pre.length : Int)) (hh : hi = (pre.length : Int) + (k : Int)) : cutS z (some lo) (some hi) = ⟨(rest.take k).toArray⟩ := by
  have hz : z.length = pre.length + rest.length := by rw [str_len, h, List.length_append]
  have e1 : hi = ((pre.length + k : Nat) : Int) := by omega
  subst hl
  subst e1
  unfold cutS
  rw [HT.sIx_nat, HT.sIx_nat, hz, h]
  have m1 : min pre.length (pre.length + rest.length) = pre.length := by omega
  have m2 : min (pre.length + k) (pre.length + rest.length) - pre.length = min k rest.length := by omega
  rw [m1, m2, List.drop_left']
  · congr 2
    rw [List.take_eq_take_iff]
    omega
  · rfl
theorem str_eq {xs : List Nat} {y : Str} : (⟨xs.toArray⟩ : Str) = y ↔ xs = y.cps.toList := by
  constructor
  · intro h
    rw [← h]
  · intro h
    rw [h]
theorem dropWhile_head {p : Nat → Bool} : ∀ {r r' : List Nat} {c : Nat}, r.dropWhile p = c :: r' → p c = false
  | [], _, _, h => by simp at h
  | x :: r, r', c, h => by
    rw [List.dropWhile_cons] at h
    cases q : p x with
    | true =>
      rw [q, if_pos rfl] at h
      exact dropWhile_head h
    | false =>
      rw [q, if_neg Bool.false_ne_true] at h
      cases h
      exact q
theorem takeWhile_all {p : Nat → Bool} : ∀ {r : List Nat} {c : Nat}, c ∈ r.takeWhile p → p c = true
  | [], _, h => by simp at h
  | x :: r, c, h => by
    rw [List.takeWhile_cons] at h
    cases q : p x with
    | true =>
      rw [q, if_pos rfl] at h
      rcases List.mem_cons.mp h with e | e
      · rw [e]
        exact q
      · exact takeWhile_all e
    | false =>
      rw [q, if_neg Bool.false_ne_true] at h
      cases h
/-! ### signs are parts of the text -/
/-! ### the shape -/
/-- what holds between signs -/
structure RInv (rows : Rows) (w : Bool) (left : Nat) : Prop where
  ne : rows ≠ []
  n : rows.length ≤ 5
  len : ∀ row ∈ rows, row.length + left ≤ 1000
  k : ∀ (j : Nat) (row : List Kd), rows[j]? = some row → ∀ k ∈ row, ord k + j ≤ 4 ∧ ∀ z ∈ places k, PyData.strOk z = true
  last : w = false → ∀ row, rows.getLast? = some row → row ≠ []
theorem RInv.start (n : Nat) (h : n ≤ 1000) : RInv [[]] true n := by
  refine ⟨by simp, by simp, fun row hr => ?_, fun j row hr k hk => ?_, fun h => by cases h⟩
  · rw [List.mem_singleton.mp hr]
    simpa using h
  · have := List.mem_of_getElem? hr
    rw [List.mem_singleton.mp this] at hk
    cases hk
theorem snoc_get {α : Type} {pre : List α} {x y : α} {j : Nat} (h : (pre ++ [x])[j]? = some y) : pre[j]? = some y ∨ (j = pre.length ∧ y = x) := by
  by_cases hj : j < pre.length
  · rw [List.getElem?_append_left hj] at h
    exact .inl h
  · rw [List.getElem?_append_right (by omega)] at h
    cases q : j - pre.length with
    | zero =>
      rw [q] at h
      exact .inr ⟨by omega, (Option.some.inj h).symm⟩
    | succ m =>
      rw [q] at h
      simp at h
theorem RInv.put {pre : Rows} {row : List Kd} {w w' : Bool} {n : Nat} {k : Kd} (h : RInv (pre ++ [row]) w (n + 1)) (h1 : ord k + pre.length ≤ 4) (h2 : ∀ z ∈ places k, PyData.strOk z = true) : RInv (pre ++ [row ++ [k]]) w' n := by
  refine ⟨by simp, ?_, fun r hr => ?_, fun j r hr i hi => ?_, fun _ r hr => ?_⟩
  · have := h.n
    simpa using this
  · rcases List.mem_append.mp hr with q | q
    · have := h.len r (List.mem_append_left _ q)
      omega
    · rw [List.mem_singleton.mp q, List.length_append]
      have := h.len row (by simp)
      have e : [k].length = 1 := rfl
      omega
  · rcases snoc_get hr with q | ⟨ej, er⟩
    · refine h.k j r ?_ i hi
      rw [List.getElem?_append_left (List.getElem?_eq_some_iff.mp q).1]
      exact q
    · rw [er] at hi
      rcases List.mem_append.mp hi with z | z
      · refine h.k j row ?_ i z
        rw [ej, List.getElem?_append_right (Nat.le_refl _), Nat.sub_self]
        rfl
      · rw [List.mem_singleton.mp z, ej]
        exact ⟨h1, h2⟩
  · simp at hr
    rw [← hr]
    simp
theorem RInv.take {pre : Rows} {row : List Kd} {w : Bool} {n : Nat} {s : Str} (h : RInv (pre ++ [row]) w (n + 1)) (hs : PyData.strOk s = true) (ht : (take1 pre row w s).1 = true) : RInv (take1 pre row w s).2.1 (take1 pre row w s).2.2 n := by
  unfold take1 at ht ⊢
  by_cases h1 : s = "("
  · rw [if_pos h1] at ht ⊢
    rw [Bool.and_eq_true, decide_eq_true_eq] at ht
    obtain ⟨hw, hn⟩ := ht
    show RInv (pre ++ [row] ++ [[]]) w n
    refine ⟨by simp, ?_, fun r hr => ?_, fun j r hr i hi => ?_, fun hf => by rw [hw] at hf; cases hf⟩
    · rw [List.length_append, List.length_append]
      exact hn
    · rcases List.mem_append.mp hr with q | q
      · have := h.len r q
        omega
      · rw [List.mem_singleton.mp q]
        have := h.len row (by simp)
        show 0 + n ≤ _
        omega
    · rcases snoc_get hr with q | ⟨_, er⟩
      · exact h.k j r q i hi
      · rw [er] at hi
        cases hi
  · rw [if_neg h1] at ht ⊢
    by_cases h2 : s = " -> " ∨ s = ")"
    · rw [if_pos h2] at ht ⊢
      unfold takeEnd at ht ⊢
      cases w with
      | true =>
        rw [if_pos rfl] at ht
        cases ht
      | false =>
      rw [if_neg Bool.false_ne_true] at ht ⊢
      by_cases h3 : s = " -> "
      · rw [if_pos h3]
        refine ⟨h.ne, h.n, fun r hr => ?_, h.k, fun hf => by cases hf⟩
        have := h.len r hr
        omega
      · rw [if_neg h3] at ht ⊢
        rcases List.eq_nil_or_concat pre with rfl | ⟨pre', r0, rfl⟩
        · simp at ht
        · rw [List.concat_eq_append] at *
          rcases List.eq_nil_or_concat row with rfl | ⟨row', k, rfl⟩
          · simp at ht
          · rw [List.concat_eq_append] at *
            simp only [List.getLast?_append, List.getLast?_singleton, Option.some_or, List.dropLast_concat] at ht ⊢
            by_cases h4 : 2 ≤ (row' ++ [k]).length ∧ k.as = []
            · rw [if_pos h4]
              have hr : (pre' ++ [r0] ++ [row' ++ [k]])[pre'.length + 1]? = some (row' ++ [k]) := by
                rw [List.getElem?_append_right (by simp)]
                simp
              have hk := h.k _ _ hr
              have h5 : RInv (pre' ++ [r0]) true (n + 1) := by
                refine ⟨by simp, ?_, fun r hr => h.len r (List.mem_append_left _ hr), fun j r hr i hi => ?_, fun hf => by cases hf⟩
                · have := h.n
                  rw [List.length_append] at this
                  omega
                · refine h.k j r ?_ i hi
                  rw [List.getElem?_append_left (List.getElem?_eq_some_iff.mp hr).1]
                  exact hr
              refine h5.put ?_ ?_
              · have : ordL row' ≤ 4 - pre'.length := ordL_le fun i hi => by
                  have := (hk i (List.mem_append_left _ hi)).1
                  omega
                have h6 := (hk k (by simp)).1
                show ordL row' + pre'.length ≤ 4
                omega
              · intro z hz
                rw [places] at hz
                rcases List.mem_append.mp hz with q | q
                · rw [placesL_map] at q
                  obtain ⟨l, hl, hzl⟩ := List.mem_flatten.mp q
                  obtain ⟨i, hi, rfl⟩ := List.mem_map.mp hl
                  exact (hk i (List.mem_append_left _ hi)).2 z hzl
                · have e := List.mem_singleton.mp q
                  refine (hk k (by simp)).2 z ?_
                  rw [e]
                  cases k with
                  | mk as a =>
                    rw [places]
                    simp [Kd.a]
            · rw [if_neg h4] at ht
              cases ht
    · rw [if_neg h2]
      refine h.put ?_ ?_
      · show ordL [] + _ ≤ 4
        have := h.n
        rw [List.length_append] at this
        have e : [row].length = 1 := rfl
        rw [ordL]
        omega
      · intro z hz
        rw [places, placesL] at hz
        rw [List.mem_singleton.mp hz]
        exact hs
theorem RInv.split {rows : Rows} {w : Bool} {n : Nat} (h : RInv rows w n) : ∃ pre row, rows = pre ++ [row] ∧ rows.dropLast = pre ∧ rows.getLastD [] = row := by
  obtain ⟨pre, row, e⟩ := (List.eq_nil_or_concat rows).resolve_left h.ne
  rw [List.concat_eq_append] at e
  refine ⟨pre, row, e, ?_, ?_⟩
  · rw [e, List.dropLast_concat]
  · rw [e, List.getLastD_eq_getLast?]
    simp
end KP
/-! KP7: the loops over the signs of a text, by data. -/
namespace KP
open PySem L2 FP
variable [FP.Tabl]
theorem ne_str {a b : Str} {Q : D → Prop} (q : Q (.bl (!decide (a = b)))) : rdNe (.str a) (.str b) Q := q
/-- between the signs -/
def LI (z : Str) (m : Nat) (ρ : FP.Env) : Prop := ∃ (pre rest : List Nat) (found : List Str) (o : Sl), z.cps.toList = pre ++ rest ∧ m = rest.length ∧ ρ = [Sl.d (.str z), Sl.own (found.map .str), Sl.d (.int (pre.length : Int)), o] ∧ Lex z found rest ∧ found.length ≤ pre.length
theorem LI.start (z : Str) (o : Sl) : LI z z.cps.toList.length [Sl.d (.str z), Sl.own [], Sl.d (.int 0), o] := ⟨[], _, [], o, rfl, rfl, rfl, Lex.start z, Nat.le_refl _⟩
end KP
/-! KP8: what is told of plain kinds; what is read. -/
namespace KP
open PySem L2 FP
end KP
/-! KP9: readings of kinds; facts of parts and signed atoms. -/
namespace KP
open PySem L2 FP
variable [FP.Tabl]
/-! ### shaped data -/
theorem sh_str {n : Nat} {z : Str} (h : PyData.strOk z = true) : shD n (.str z) = true := by rw [shD]; exact h
theorem sh_int {n : Nat} {i : Int} : shD n (.int i) = true := by rw [shD]
theorem sh_lst {n : Nat} {xs : List D} (h : shDs n xs = true) : shD (n + 1) (.lst xs) = true := by rw [shD]; exact h
theorem sh_tup {n : Nat} {xs : List D} (h : shDs n xs = true) : shD (n + 1) (.tup xs) = true := by rw [shD]; exact h
theorem sh_nil {n : Nat} : shDs n [] = true := by rw [shDs]
theorem sh_cons {n : Nat} {x : D} {xs : List D} (h : shD n x = true) (h' : shDs n xs = true) : shDs n (x :: xs) = true := by
  rw [shDs, h, h']
  rfl
/-! ### parts, signed atoms -/
mutual
theorem signed_mem : ∀ (k : Kd) (b : Bool) (z : Str), z ∈ signed k b ∨ z ∈ signed k (!b) ↔ z ∈ places k
  | .mk as a, b, z => by
    have h := signedL_mem as (!b) z
    rw [signed, signed, places, Bool.not_not]
    rw [Bool.not_not] at h
    simp only [List.mem_append, List.mem_singleton]
    rw [← h]
    cases b with
    | true =>
      simp only [Bool.not_true, if_true, Bool.false_eq_true, if_false, List.mem_singleton, List.not_mem_nil]
      constructor
      · rintro ((h | h) | (h | h))
        · exact .inr h
        · exact .inl (.inl h)
        · exact h.elim
        · exact .inl (.inr h)
      · rintro ((h | h) | h)
        · exact .inl (.inr h)
        · exact .inr (.inr h)
        · exact .inl (.inl h)
    | false =>
      simp only [Bool.not_false, if_true, Bool.false_eq_true, if_false, List.mem_singleton, List.not_mem_nil]
      constructor
      · rintro ((h | h) | (h | h))
        · exact h.elim
        · exact .inl (.inl h)
        · exact .inr h
        · exact .inl (.inr h)
      · rintro ((h | h) | h)
        · exact .inl (.inr h)
        · exact .inr (.inr h)
        · exact .inr (.inl h)
theorem signedL_mem : ∀ (ks : List Kd) (b : Bool) (z : Str), z ∈ signedL ks b ∨ z ∈ signedL ks (!b) ↔ z ∈ placesL ks
  | [], b, z => by simp [signedL, placesL]
  | k :: r, b, z => by
    have h1 := signed_mem k b z
    have h2 := signedL_mem r b z
    rw [signedL, signedL, placesL]
    simp only [List.mem_append]
    rw [← h1, ← h2]
    constructor
    · rintro ((h | h) | (h | h))
      · exact .inl (.inl h)
      · exact .inr (.inl h)
      · exact .inl (.inr h)
      · exact .inr (.inr h)
    · rintro ((h | h) | (h | h))
      · exact .inl (.inl h)
      · exact .inr (.inl h)
      · exact .inl (.inr h)
      · exact .inr (.inr h)
end
theorem atoms_places (k : Kd) : sortU (signed k true ++ signed k false) = sortU (places k) := sortU_congr fun z => by
  rw [List.mem_append]
  exact signed_mem k true z
def f_law : List D → M D := fun ds Q _ => match ds with
  | [.fz xs] => (∃ ns : List Int, xs = ns.map D.int ∧ ns.length ≤ 63) ∧ Q (.bl true)
  | _ => False
end KP
/-! KP10: parts of parts; readings of rows of texts. -/
namespace KP
open PySem L2 FP
variable [FP.Tabl]
theorem eq_int {a b : Int} {Q : D → Prop} (q : Q (.bl (decide (a = b)))) : rdEq (.int a) (.int b) Q := q
end KP
/-! KP11: kinds changed: one kind in the place of an atom, other atoms; what is too large. -/
namespace KP
open PySem L2 FP
variable [FP.Tabl]
/-! ### a kind in the place of an atom -/
mutual
def put (z : Str) (j : Kd) : Kd → Kd
  | .mk as a => if a = z then .mk (putL z j as ++ j.as) j.a else .mk (putL z j as) a
def putL (z : Str) (j : Kd) : List Kd → List Kd
  | [] => []
  | k :: r => put z j k :: putL z j r
end
/-! ### other atoms -/
/-! ### sizes -/
theorem ordL_app : ∀ xs ys : List Kd, ordL (xs ++ ys) = max (ordL xs) (ordL ys)
  | [], ys => by rw [List.nil_append, ordL]; omega
  | x :: xs, ys => by
    rw [List.cons_append, ordL, ordL, ordL_app xs ys]
    omega
/-! ### what is made, or is too large -/
/-! ### the law's own helpers -/
/-- a kind that may be too large -/
structure Mid (k : Kd) : Prop where
  w : ∀ z ∈ places k, isWordS z = true
  p : (places k).length ≤ 300
theorem Mid.kid {as : List Kd} {a : Str} (g : Mid (.mk as a)) {k : Kd} (h : k ∈ as) : Mid k := by
  refine ⟨fun z hz => g.w z ?_, ?_⟩
  · rw [places]
    exact List.mem_append_left _ (placesL_mem hz h)
  · have h1 := g.p
    rw [places, List.length_append] at h1
    have := placesL_len h
    omega
theorem cut_from (xs : List D) {n : Int} (h0 : 0 ≤ n) (h1 : n ≤ xs.length) : cutD xs (some n) none = xs.drop n.toNat := by
  unfold cutD
  have e1 : HT.sIx xs.length 0 (some n) = n.toNat := by
    show (if n < 0 then (n + (xs.length : Int)).toNat else min n.toNat xs.length) = _
    rw [if_neg (by omega)]
    omega
  have e2 : HT.sIx xs.length xs.length none = xs.length := rfl
  rw [e1, e2]
  exact List.take_of_length_le (by rw [List.length_drop]; exact Nat.le_refl _)
theorem Good.drop {as : List Kd} {a : Str} (g : Good (.mk as a)) (n : Nat) : Good (.mk (as.drop n) a) := by
  have e := List.take_append_drop n as
  have h1 : placesL as = placesL (as.take n) ++ placesL (as.drop n) := by rw [← placesL_app, e]
  have h2 : ordL as = max (ordL (as.take n)) (ordL (as.drop n)) := by rw [← ordL_app, e]
  refine ⟨fun z hz => g.w z ?_, ?_, ?_⟩
  · rw [places] at hz ⊢
    rcases List.mem_append.mp hz with q | q
    · exact List.mem_append_left _ (by rw [h1]; exact List.mem_append_right _ q)
    · exact List.mem_append_right _ q
  · have := g.p
    rw [places, List.length_append, h1, List.length_append] at this
    rw [places, List.length_append]
    omega
  · have := g.o
    rw [ord, h2] at this
    rw [ord]
    omega
end KP
/-! KP12: readings of operators and methods of kinds; drawn dicts. -/
namespace KP
open PySem L2 FP
end KP
/-! KP13: the text of a kind is read as this kind. -/
namespace KP
open PySem L2 FP
variable [FP.Tabl]
/-! ### the signs of a kind -/
mutual
def sigs : Kd → List Str
  | .mk as a => sigsL as ++ [a]
def sigsL : List Kd → List Str
  | [] => []
  | k :: r => (if k.as.isEmpty then sigs k else ("(" : Str) :: (sigs k ++ [(")" : Str)])) ++ ((" -> " : Str) :: sigsL r)
end
end KP
/-! KP14: the text of a kind is its signs. -/
namespace KP
open PySem L2 FP
variable [FP.Tabl]
def flat (ss : List Str) : List Nat := (ss.map fun s => s.cps.toList).flatten
/-! ### the signs of a kind stand apart -/
end KP
/-! KP15: kinds grown step by step (k09). -/
namespace KP
open PySem L2 FP
variable [FP.Tabl]
theorem Kd.places_eq (i : Kd) : places i = placesL i.as ++ [i.a] := by cases i with | mk bs b => rw [places]; rfl
end KP
/-! KP16: kinds in the place of atoms, one behind the other; names there and back. -/
namespace KP
open PySem L2 FP
/-! ### names there and back -/
end KP
/-! KP17: promises of the law k06. -/
namespace KP
open PySem L2 FP
variable [FP.Tabl]
/-- a dict from a kind's atoms to other words -/
structure Names (k : Kd) (kvs : List (Str × Str)) : Prop where
  keys : kvs.map (·.1) = sortU (signed k true ++ signed k false)
  nd : (kvs.map (·.2)).Nodup
  w : ∀ p ∈ kvs, isWordS p.2 = true
theorem Names.mem {k : Kd} {kvs : List (Str × Str)} (h : Names k kvs) {z : Str} : z ∈ kvs.map (·.1) ↔ z ∈ places k := by rw [h.keys, atoms_places, sortU_mem]
/-! ### sizes -/
end KP
namespace KP
open PySem L2 FP
end KP
/-! KP18: a text is read exactly if it is the text of a kind: both readers, with no program in sight. -/
namespace KP
open PySem L2 FP
variable [FP.Tabl]
/-! ### signs -/
/-- the signs of a kind as an argument -/
def item (k : Kd) : List Str := if k.as.isEmpty then sigs k else ("(" : Str) :: (sigs k ++ [(")" : Str)])
theorem sigsL_cons (k : Kd) (r : List Kd) : sigsL (k :: r) = item k ++ ((" -> " : Str) :: sigsL r) := by
  rw [sigsL]
  rfl
theorem sigsL_app : ∀ xs ys : List Kd, sigsL (xs ++ ys) = sigsL xs ++ sigsL ys
  | [], ys => by rw [List.nil_append, sigsL, List.nil_append]
  | k :: r, ys => by rw [List.cons_append, sigsL_cons, sigsL_cons, sigsL_app r ys, List.append_assoc, List.cons_append]
theorem sigsL_one (k : Kd) : sigsL [k] = item k ++ [(" -> " : Str)] := by rw [sigsL_cons, sigsL]
theorem sigs_eq (k : Kd) : sigs k = sigsL k.as ++ [k.a] := by
  cases k with
  | mk as a => rw [sigs]; rfl
theorem item_plain {k : Kd} (h : k.as = []) : item k = [k.a] := by
  unfold item
  rw [h, sigs_eq, h, sigsL]
  rfl
theorem item_par {k : Kd} (h : k.as ≠ []) : item k = ("(" : Str) :: (sigs k ++ [(")" : Str)]) := by
  unfold item
  rw [if_neg fun q => h (List.isEmpty_iff.mp q)]
/-! ### the package's reader -/
def pres (pre : Rows) : List Str := (pre.map fun p => sigsL p ++ [("(" : Str)]).flatten
theorem pres_snoc (pre : Rows) (row : List Kd) : pres (pre ++ [row]) = pres pre ++ (sigsL row ++ [("(" : Str)]) := by
  unfold pres
  rw [List.map_append, List.flatten_append]
  simp
def RdOk (rows : Rows) : Prop := ∀ row ∈ rows, ∀ k ∈ row, ∀ z ∈ places k, isWordS z = true
def St (done : List Str) (pre : Rows) (row : List Kd) : Bool → Prop
  | true => done = pres pre ++ sigsL row
  | false => ∃ (r : List Kd) (k : Kd), row = r ++ [k] ∧ done = pres pre ++ (sigsL r ++ item k)
theorem RdOk.more {pre : Rows} {row : List Kd} (h : RdOk (pre ++ [row])) {k : Kd} (hk : ∀ z ∈ places k, isWordS z = true) : RdOk (pre ++ [row ++ [k]]) := fun r hr j hj => by
  rcases List.mem_append.mp hr with q | q
  · exact h r (List.mem_append_left _ q) j hj
  · rw [List.mem_singleton.mp q] at hj
    rcases List.mem_append.mp hj with q2 | q2
    · exact h row (List.mem_append_right _ (List.mem_singleton.mpr rfl)) j q2
    · rw [List.mem_singleton.mp q2]
      exact hk
theorem St.step {done : List Str} {pre : Rows} {row : List Kd} {w : Bool} {s : Str} (h : St done pre row w) (hr : RdOk (pre ++ [row])) (ht : (take1 pre row w s).1 = true) :
    ∃ (pre' : Rows) (row' : List Kd), (take1 pre row w s).2.1 = pre' ++ [row'] ∧ St (done ++ [s]) pre' row' (take1 pre row w s).2.2 ∧ RdOk (pre' ++ [row']) := by
  unfold take1 at ht ⊢
  by_cases h1 : s = "("
  · subst h1
    rw [if_pos rfl] at ht ⊢
    have hw : w = true := by
      have := Bool.and_eq_true_iff.mp ht
      exact this.1
    subst hw
    refine ⟨pre ++ [row], [], rfl, ?_, fun r hr' j hj => ?_⟩
    · show done ++ [("(" : Str)] = pres (pre ++ [row]) ++ sigsL []
      have h' : done = pres pre ++ sigsL row := h
      rw [pres_snoc, sigsL, List.append_nil, h', List.append_assoc]
    · rcases List.mem_append.mp hr' with q | q
      · exact hr r q j hj
      · rw [List.mem_singleton.mp q] at hj
        cases hj
  rw [if_neg h1] at ht ⊢
  by_cases h2 : s = " -> " ∨ s = ")"
  · rw [if_pos h2] at ht ⊢
    unfold takeEnd at ht ⊢
    cases w with
    | true => cases ht
    | false =>
      rw [if_neg Bool.false_ne_true] at ht ⊢
      obtain ⟨r, k, rfl, hd⟩ := h
      by_cases h3 : s = " -> "
      · subst h3
        rw [if_pos rfl] at ht ⊢
        refine ⟨pre, r ++ [k], rfl, ?_, hr⟩
        show done ++ [(" -> " : Str)] = pres pre ++ sigsL (r ++ [k])
        rw [hd, sigsL_app, sigsL_one]
        simp [List.append_assoc]
      · have h4 : s = ")" := h2.resolve_left h3
        subst h4
        rw [if_neg h3] at ht ⊢
        rw [List.getLast?_concat] at ht ⊢
        cases hp : pre.getLast? with
        | none =>
          rw [hp] at ht
          cases ht
        | some r0 =>
          rw [hp] at ht
          dsimp only at ht ⊢
          split at ht
          case isFalse => cases ht
          rename_i hc
          rw [if_pos hc]
          have hpre : pre = pre.dropLast ++ [r0] := by
            cases pre with
            | nil => cases hp
            | cons x xs =>
              have e := List.dropLast_concat_getLast (l := x :: xs) (List.cons_ne_nil _ _)
              rw [List.getLast?_eq_some_getLast (List.cons_ne_nil _ _)] at hp
              rw [Option.some.inj hp] at e
              exact e.symm
          generalize pre.dropLast = pp at hpre ⊢
          subst hpre
          have hrr : r ≠ [] := fun q => by
            subst q
            have := hc.1
            simp at this
          refine ⟨pp, r0 ++ [.mk (r ++ [k]).dropLast k.a], rfl, ⟨r0, .mk (r ++ [k]).dropLast k.a, rfl, ?_⟩, ?_⟩
          · rw [List.dropLast_concat, item_par (k := .mk r k.a) hrr, hd, pres_snoc, item_plain hc.2, sigs_eq]
            simp [List.append_assoc]
            rfl
          · rw [List.dropLast_concat]
            refine RdOk.more (fun q hq => hr q (List.mem_append_left _ hq)) fun z hz => ?_
            rw [places] at hz
            have hrow : ∀ j ∈ r ++ [k], ∀ z ∈ places j, isWordS z = true := hr _ (List.mem_append_right _ (List.mem_singleton.mpr rfl))
            rcases List.mem_append.mp hz with q | q
            · rw [placesL_map] at q
              obtain ⟨x, hx1, hx2⟩ := List.mem_flatten.mp q
              obtain ⟨j, hj1, rfl⟩ := List.mem_map.mp hx1
              exact hrow j (List.mem_append_left _ hj1) z hx2
            · rw [List.mem_singleton.mp q]
              refine hrow k (List.mem_append_right _ (List.mem_singleton.mpr rfl)) k.a ?_
              rw [k.places_eq]
              simp
  · rw [if_neg h2] at ht ⊢
    have hw := Bool.and_eq_true_iff.mp ht
    have hw1 : w = true := hw.1
    subst hw1
    have h' : done = pres pre ++ sigsL row := h
    refine ⟨pre, row ++ [.mk [] s], rfl, ⟨row, .mk [] s, rfl, ?_⟩, hr.more fun z hz => ?_⟩
    · rw [h', item_plain (k := .mk [] s) rfl, List.append_assoc]
      rfl
    · rw [places, placesL] at hz
      rw [List.mem_singleton.mp hz]
      exact hw.2
/-! ### the kind of a text -/
end KP
/-! KP19: the reader of law k04, with no program in sight. -/
namespace KP
open PySem L2 FP
variable [FP.Tabl]
abbrev Rd := List Nat → Option (Kd × List Nat)
/-! ### sound -/
/-! ### complete -/
def apart (r : List Nat) : Prop := ∀ c r', r = c :: r' → isL c = false
def stops (r : List Nat) : Prop := r = [] ∨ ∃ r', r = 41 :: r'
/-! ### parentheses -/
/-! ### what the law finds due -/
end KP
/-! KP20: what the defs about texts of kinds promise (k04). -/
namespace KP
open PySem L2 FP
end KP
/-! KP21: what the defs about kinds promise of any arguments (k07). -/
namespace KP
open PySem L2 FP
variable [FP.Tabl]
def okI : D → Prop
  | .ins c _ => c = "Type"
  | d => okV d
theorem okV.i {d : D} (h : okV d) : okI d := by
  cases d with
  | ins c fs => exact h.elim
  | _ => exact h
/-! ### words and numbers -/
/-! ### dicts of any data -/
/-! ### making -/
/-! ### reading -/
/-! ### the word for an error -/
end KP
/-! KP22: wrong arguments, as law k07 draws them. -/
namespace KP
open PySem L2 FP
variable [FP.Tabl]
/-- no word -/
structure OddP (d : D) : Prop where
  v : okV d
  w : isWordD d = false
theorem OddP.no {d : D} (h : OddP d) {a : Str} (e : d = .str a) (hw : isWordS a = true) {α : Prop} : α := by
  subst e
  have h2 : isWordS a = false := h.w
  rw [hw] at h2
  cases h2
end KP
/-! KP23: law k07's calls that are refused. -/
namespace KP
open PySem L2 FP
variable [FP.Tabl]
theorem pkN {n : Nat} (h : (Nat.blt 0 n && Nat.blt n 1073741824) = true) : 0 < n ∧ n < 1073741824 := by
  rw [Bool.and_eq_true, Nat.blt_eq, Nat.blt_eq] at h
  exact h
end KP
/-! KP24: wrong indices, operands and names, as law k07 draws them. -/
namespace KP
open PySem L2 FP
variable [FP.Tabl]
/-! ### dicts made of rows of pairs -/
/-! ### wrong dicts of names -/
/-! ### calls on known kinds -/
theorem seq_asg {f : DTE} {g : DTS} {N : Nd} {ρ ρ' : FP.Env} {T : Tg} (d : D) (hf : Ev f ρ d) (hp : T.put d ρ = some ρ') (hg : g N ρ') : dSeq (dAsg T f) g N ρ := hf _ _ ⟨ρ', hp, hg⟩
end KP
/-! KP25: plain libraries. -/
namespace KP
open PySem L2 FP
variable [FP.Tabl]
noncomputable instance : DecidableEq Kd := fun _ _ => Classical.propDecidable _
abbrev Lib := List (Str × Kd)
def keysL (L : Lib) : List Str := L.map (·.1)
def getL (L : Lib) (z : Str) : Option Kd := (L.find? fun p => decide (p.1 = z)).map (·.2)
theorem getL_nil (z : Str) : getL [] z = none := rfl
theorem getL_cons (p : Str × Kd) (L : Lib) (z : Str) : getL (p :: L) z = if p.1 = z then some p.2 else getL L z := by
  unfold getL
  rw [List.find?_cons]
  by_cases q : p.1 = z <;> simp [q]
theorem getL_app (L M : Lib) (z : Str) : getL (L ++ M) z = (getL L z).or (getL M z) := by
  induction L with
  | nil => rfl
  | cons p r ih =>
    rw [List.cons_append, getL_cons, getL_cons, ih]
    by_cases q : p.1 = z
    · rw [if_pos q, if_pos q]
      rfl
    · rw [if_neg q, if_neg q]
theorem getL_out {L : Lib} {z : Str} : getL L z = none ↔ z ∉ keysL L := by
  induction L with
  | nil => simp [getL, keysL]
  | cons p r ih =>
    rw [getL_cons]
    by_cases q : p.1 = z
    · rw [if_pos q]
      simp [keysL, q]
    · rw [if_neg q, ih]
      simp [keysL, Ne.symm q]
theorem getL_some {L : Lib} {z : Str} {k : Kd} (h : getL L z = some k) : (z, k) ∈ L := by
  induction L with
  | nil => cases h
  | cons p r ih =>
    rw [getL_cons] at h
    by_cases q : p.1 = z
    · rw [if_pos q] at h
      cases h
      rw [← q]
      exact List.mem_cons_self
    · rw [if_neg q] at h
      exact List.mem_cons_of_mem _ (ih h)
theorem getL_of {L : Lib} (nd : (keysL L).Nodup) {z : Str} {k : Kd} (h : (z, k) ∈ L) : getL L z = some k := by
  induction L with
  | nil => cases h
  | cons p r ih =>
    have nd2 : (p.1 :: keysL r).Nodup := nd
    rw [List.nodup_cons] at nd2
    rw [getL_cons]
    rcases List.mem_cons.mp h with e | e
    · rw [← e, if_pos rfl]
    · have hm : z ∈ keysL r := List.mem_map.mpr ⟨_, e, rfl⟩
      rw [if_neg fun q => nd2.1 (by rw [q]; exact hm)]
      exact ih nd2.2 e
theorem getL_in {L : Lib} {z : Str} (h : z ∈ keysL L) : ∃ k, getL L z = some k ∧ (z, k) ∈ L := by
  cases q : getL L z with
  | none => exact absurd h (getL_out.mp q)
  | some k => exact ⟨k, rfl, getL_some q⟩
theorem key_in {L : Lib} {z : Str} {k : Kd} (h : getL L z = some k) : z ∈ keysL L := List.mem_map.mpr ⟨_, getL_some h, rfl⟩
/-- libraries with the same parts -/
def sameL (L M : Lib) : Prop := ∀ z, getL L z = getL M z
theorem sameL.keys {L M : Lib} (h : sameL L M) (z : Str) : z ∈ keysL L ↔ z ∈ keysL M := by
  constructor
  · intro m
    obtain ⟨k, hk, _⟩ := getL_in m
    rw [h z] at hk
    exact key_in hk
  · intro m
    obtain ⟨k, hk, _⟩ := getL_in m
    rw [← h z] at hk
    exact key_in hk
theorem sameL.symm {L M : Lib} (h : sameL L M) : sameL M L := fun z => (h z).symm
theorem sameL.trans {L M N : Lib} (h : sameL L M) (g : sameL M N) : sameL L N := fun z => (h z).trans (g z)
/-- a library as the package has them -/
structure LibG (L : Lib) : Prop where
  nd : (keysL L).Nodup
  w : ∀ p ∈ L, isWordS p.1 = true
  g : ∀ p ∈ L, Good p.2
theorem LibG.same {L M : Lib} (h : LibG L) (s : sameL L M) (nm : (keysL M).Nodup) : LibG M := by
  have m : ∀ p ∈ M, p ∈ L := fun p hp => by
    have e := getL_of nm (show (p.1, p.2) ∈ M from hp)
    rw [← s p.1] at e
    exact getL_some e
  exact ⟨nm, fun p hp => h.w p (m p hp), fun p hp => h.g p (m p hp)⟩
theorem LibG.sub {L M : Lib} (h : LibG L) (s : M.Sublist L) : LibG M := ⟨h.nd.sublist (s.map _), fun p hp => h.w p (s.subset hp), fun p hp => h.g p (s.subset hp)⟩
theorem LibG.kid {L : Lib} (h : LibG L) {z : Str} {k : Kd} (e : getL L z = some k) : Good k := h.g _ (getL_some e)
theorem LibG.nil : LibG [] := ⟨List.nodup_nil, fun _ h => absurd h List.not_mem_nil, fun _ h => absurd h List.not_mem_nil⟩
/-! ### lines, texts -/
/-! ### dicts of libraries -/
/-- a part more, or another kind of one -/
def putL1 (L : Lib) (z : Str) (k : Kd) : Lib := if z ∈ keysL L then L.map (fun p => if p.1 = z then (p.1, k) else p) else L ++ [(z, k)]
theorem get_put (L : Lib) (z : Str) (k : Kd) (y : Str) : getL (putL1 L z k) y = if y = z then some k else getL L y := by
  unfold putL1
  by_cases hz : z ∈ keysL L
  · rw [if_pos hz]
    induction L with
    | nil => cases hz
    | cons p r ih =>
      rw [List.map_cons, getL_cons, getL_cons]
      have ih2 : getL (r.map fun p => if p.1 = z then (p.1, k) else p) y = if y = z ∧ z ∈ keysL r then some k else getL r y := by
        by_cases hr : z ∈ keysL r
        · rw [ih hr]
          by_cases q : y = z <;> simp [q, hr]
        · have e : (r.map fun p => if p.1 = z then (p.1, k) else p) = r := by
            conv => rhs; rw [← List.map_id r]
            refine List.map_congr_left fun x hx => ?_
            rw [if_neg fun q => hr (List.mem_map.mpr ⟨x, hx, q⟩)]
            rfl
          rw [e, if_neg fun q => hr q.2]
      rw [ih2]
      by_cases q1 : p.1 = z
      · rw [if_pos q1]
        by_cases q2 : y = z
        · rw [if_pos (show p.1 = y by rw [q1, q2]), if_pos q2]
        · have n1 : ¬ p.1 = y := fun e => q2 (by rw [← e, q1])
          have n2 : ¬ (y = z ∧ z ∈ keysL r) := fun c => q2 c.1
          rw [if_neg n1, if_neg n2, if_neg q2, if_neg n1]
      · rw [if_neg q1]
        have hr : z ∈ keysL r := (List.mem_cons.mp (show z ∈ p.1 :: keysL r from hz)).resolve_left fun e => q1 e.symm
        by_cases q2 : y = z
        · rw [if_neg (show ¬ p.1 = y from fun e => q1 (by rw [e, q2])), if_pos ⟨q2, hr⟩, if_pos q2]
        · have n2 : ¬ (y = z ∧ z ∈ keysL r) := fun c => q2 c.1
          rw [if_neg q2, if_neg n2]
  · rw [if_neg hz, getL_app, getL_cons, getL_nil]
    by_cases q : y = z
    · subst q
      rw [getL_out.mpr hz]
      show (if y = y then some k else none) = if y = y then some k else none
      rfl
    · rw [if_neg q, if_neg (show ¬ (z, k).1 = y from Ne.symm q)]
      cases getL L y <;> rfl
theorem keys_put (L : Lib) (z : Str) (k : Kd) : keysL (putL1 L z k) = if z ∈ keysL L then keysL L else keysL L ++ [z] := by
  unfold putL1
  by_cases hz : z ∈ keysL L
  · rw [if_pos hz, if_pos hz]
    unfold keysL
    rw [List.map_map]
    refine List.map_congr_left fun p _ => ?_
    show (if p.1 = z then (p.1, k) else p).1 = p.1
    split <;> rfl
  · rw [if_neg hz, if_neg hz]
    unfold keysL
    rw [List.map_append]
    rfl
theorem nd_put {L : Lib} (nd : (keysL L).Nodup) (z : Str) (k : Kd) : (keysL (putL1 L z k)).Nodup := by
  rw [keys_put]
  split
  · exact nd
  · rename_i hz
    exact List.nodup_append.mpr ⟨nd, by simp, fun a ha b hb e => hz (by rw [List.mem_singleton.mp hb] at e; rw [← e]; exact ha)⟩
theorem LibG.put {L : Lib} (h : LibG L) {z : Str} {k : Kd} (hz : isWordS z = true) (hk : Good k) : LibG (putL1 L z k) := by
  have key : ∀ p ∈ putL1 L z k, p = (z, k) ∨ p ∈ L := fun p hp => by
    have e := getL_of (nd_put h.nd z k) (show (p.1, p.2) ∈ putL1 L z k from hp)
    rw [get_put] at e
    by_cases q : p.1 = z
    · rw [if_pos q] at e
      cases e
      rw [← q]
      exact .inl rfl
    · rw [if_neg q] at e
      exact .inr (getL_some e)
  refine ⟨nd_put h.nd z k, fun p hp => ?_, fun p hp => ?_⟩
  · rcases key p hp with e | e
    · rw [e]
      exact hz
    · exact h.w p e
  · rcases key p hp with e | e
    · rw [e]
      exact hk
    · exact h.g p e
end KP
/-! KP26: what the defs about libraries promise. -/
namespace KP
open PySem L2 FP
variable [FP.Tabl]
/-! ### plain kinds compared -/
/-! ### the package's defs -/
def noL (d : D) : Prop := isiD ["Library"] (fun _ => true) d = some false
/-! ### readings of libraries -/
end KP
/-! KP27: readings of libraries. -/
namespace KP
open PySem L2 FP
end KP
/-! KP28: what expressions about libraries come to. -/
namespace KP
open PySem L2 FP
variable [FP.Tabl]
/-! ### tuples of texts compared -/
theorem sh_strs {n : Nat} : ∀ {zs : List Str}, (∀ z ∈ zs, PyData.strOk z = true) → shDs n (zs.map D.str) = true
  | [], _ => sh_nil
  | z :: r, h => sh_cons (sh_str (h z List.mem_cons_self)) (sh_strs fun y hy => h y (List.mem_cons_of_mem _ hy))
theorem py_strs : ∀ zs : List Str, toPys (zs.map D.str) = some (zs.map PyData.str)
  | [] => rfl
  | z :: r => by
    rw [List.map_cons, toPys, toPy, py_strs r]
    rfl
theorem eqv_strs : ∀ zs ys : List Str, PyData.eqvAll (zs.map PyData.str) (ys.map PyData.str) = decide (zs = ys)
  | [], [] => by rw [List.map_nil, PyData.eqvAll]; simp
  | z :: r, [] => by rw [List.map_nil, List.map_cons, PyData.eqvAll]; simp
  | [], z :: r => by rw [List.map_nil, List.map_cons, PyData.eqvAll]; simp
  | z :: r, y :: t => by
    rw [List.map_cons, List.map_cons, PyData.eqvAll, PyData.eqv, eqv_strs r t]
    by_cases h1 : z = y
    · by_cases h2 : r = t
      · rw [decide_eq_true h2, decide_eq_true (p := z :: r = y :: t) (by rw [h1, h2])]
        simp [h1]
      · rw [decide_eq_false h2, decide_eq_false (p := z :: r = y :: t) fun e => h2 (List.cons.inj e).2, Bool.and_false]
    · rw [decide_eq_false (p := z :: r = y :: t) fun e => h1 (List.cons.inj e).1]
      simp [h1]
/-! ### libraries as operands -/
end KP
/-! KP29: libraries put together: what laws ask of the plain ones. -/
namespace KP
open PySem L2 FP
variable [FP.Tabl]
/-! ### plain facts -/
/-! ### the law's own helpers -/
def f_tokT : List D → M D := fun ds Q _ => match ds with
  | [.tok] => Q (.bl true)
  | _ => False
end KP
/-! KP30: the known libraries of the laws; drawn libraries. -/
namespace KP
open PySem L2 FP
variable [FP.Tabl]
def qa : Kd := .mk [] "a"
def qb : Kd := .mk [] "b"
def qc : Kd := .mk [] "c"
def qn : Kd := .mk [] "n"
def q1 : Lib := [("z", qn), ("s", .mk [qn] "n")]
def q2 : Lib := [("f", .mk [qa] "b"), ("g", .mk [qb] "c")]
def q3 : Lib := [("k", .mk [.mk [qa] "b"] "c"), ("x", qb)]
def q4 : Lib := [("k", .mk [.mk [qa] "b"] "a"), ("g", .mk [qa] "b"), ("y", qa)]
def q5 : Lib := [("p", .mk [qa, qb] "c"), ("y", qa), ("w", qb), ("h", .mk [qc] "a")]
theorem bitS {b : Bool} {P R : Prop} (h1 : b = true → P) (h2 : b = false → R) : bit b P R := by
  cases b with
  | true => exact h1 rfl
  | false => exact h2 rfl
end KP
/-! KP31: libraries put together: the plain laws; other names of parts. -/
namespace KP
open PySem L2 FP
variable [FP.Tabl]
section
variable {L M : Lib}
noncomputable def fin (L M : Lib) : Lib := L.filter fun p => decide (getL M p.1 = some p.2)
end
/-! ### other names -/
end KP
/-! KP32: libraries changed: what the defs promise; plain laws. -/
namespace KP
open PySem L2 FP
/-! ### any values asked for among the parts -/
/-! ### loops with a first bad one -/
end KP
/-! KP33: other names of parts and atoms: what the defs promise. -/
namespace KP
open PySem L2 FP
end KP
/-! KP34: lines of libraries read. -/
namespace KP
open PySem L2 FP
end KP
/-! KP35: libraries changed step by step: plain laws and what the law's defs promise. -/
namespace KP
open PySem L2 FP
variable [FP.Tabl]
/-! ### dicts of names -/
/-! ### what the law's defs promise -/
/-! ### dicts made by the law -/
/-! ### the law itself -/
theorem end_v {N : Nd} {i : Nat} {f : DTE} {ρ : FP.Env} (d : D) (hf : Ev f ρ d) (h : N.nx (ρ.set i (.d d))) : dSet i f N ρ := hf _ _ h
end KP
/-! KP36: the lines of a library taken apart. -/
namespace KP
open PySem L2 FP
end KP
/-! KP37: spoilt lines tell no part. -/
namespace KP
open PySem L2 FP
end KP
/-! KP38: a line's separator exchanged; the law's spoilt lines. -/
namespace KP
open PySem L2 FP
end KP
/-! KP39: law k11: what its defs promise; spoilt lines; small steps. -/
namespace KP
open PySem L2 FP
variable [FP.Tabl]
/-! ### small steps -/
section
variable {ρ : FP.Env} {f fa fb : DTE} {g : DTS} {N : Nd} {i j : Nat}
theorem try_m {cs : List Str} {gs : List ClD} {fb : DTS} (h : ∀ N' : Nd, N'.rt = N.rt → (∀ x, (x.cls ∈ cs ∧ dCls N gs x ρ) → N'.rs x ρ) → fb N' ρ) : dTryM cs gs fb N ρ := h _ rfl fun x k => k
theorem sl_to {xs : List D} {n : Nat} (ha : Ev fa ρ (.lst xs)) (hb : Ev fb ρ (.int n)) (h : n ≤ xs.length) : Ev (dSl fa dONone (dOSome fb)) ρ (.lst (xs.take n)) := fun Q E q => ha _ _ (hb _ _ (by
  have e : cutD xs none (some (n : Int)) = xs.take n := by
    unfold cutD
    have e1 : HT.sIx xs.length 0 none = 0 := rfl
    rw [e1, HT.sIx_nat, List.drop_zero, Nat.sub_zero]
    congr 1
    omega
  show Q (.lst (cutD xs none (some (n : Int))))
  rw [e]
  exact q))
theorem sl_from {xs : List D} {n : Nat} {m : Int} (ha : Ev fa ρ (.lst xs)) (hb : Ev fb ρ (.int m)) (hm : m = (n : Int)) (h : n ≤ xs.length) : Ev (dSl fa (dOSome fb) dONone) ρ (.lst (xs.drop n)) := fun Q E q => ha _ _ (hb _ _ (by
  have e := cut_from xs (n := (n : Int)) (by omega) (by omega)
  rw [hm]
  show Q (.lst (cutD xs (some (n : Int)) none))
  rw [e]
  exact q))
end
/-! ### reading lines -/
/-! ### what the law's defs promise -/
/-! ### spoilt lines -/
/-! ### lines in any order -/
theorem LibG.take {L : Lib} (h : LibG L) (n : Nat) : LibG (L.take n) := h.sub (List.take_sublist n L)
theorem LibG.drop {L : Lib} (h : LibG L) (n : Nat) : LibG (L.drop n) := h.sub (List.drop_sublist n L)
/-! ### nine lines -/
end KP
/-! KP40: nodes of programs: pure. -/
namespace KP
open PySem L2 FP
variable [FP.Tabl]
/-- a node: binders, head, number of arguments -/
abbrev Nod := Nat × Str × Nat
def nodD (n : Nod) : D := .tup [.int (n.1 : Nat), .str n.2.1, .int (n.2.2 : Nat)]
def headG (h : Str) : Bool := isWordS h || (levelS h).isSome
def isNodeD : D → Bool
  | .tup [x, .str h, y] => inRow x 0 15 && (inRow y 0 15 && headG h)
  | _ => false
def okNodeD : D → Prop
  | .tup [x, y, z] => okV x ∧ okV y ∧ okV z
  | d => okV d
def toNod : D → Nod
  | .tup [.int b, .str h, .int c] => (b.toNat, h, c.toNat)
  | _ => (0, Str.empty, 0)
/-- a node as it should be -/
structure NodG (n : Nod) : Prop where
  b : n.1 ≤ 15
  c : n.2.2 ≤ 15
  h : headG n.2.1 = true
theorem inRow_int {x : D} (h : inRow x 0 15 = true) : ∃ n : Nat, x = .int n ∧ n ≤ 15 := by
  cases x with
  | int i =>
    unfold inRow at h
    simp only [Bool.and_eq_true, decide_eq_true_eq] at h
    exact ⟨i.toNat, by rw [Int.toNat_of_nonneg h.2.1], by omega⟩
  | _ => cases h
theorem isNode_nod {d : D} (h : isNodeD d = true) : d = nodD (toNod d) ∧ NodG (toNod d) := by
  unfold isNodeD at h
  split at h
  · rename_i x hd y
    simp only [Bool.and_eq_true] at h
    obtain ⟨h1, h2, h3⟩ := h
    obtain ⟨b, rfl, hb⟩ := inRow_int h1
    obtain ⟨c, rfl, hc⟩ := inRow_int h2
    exact ⟨by simp [toNod, nodD], by simpa [toNod] using hb, by simpa [toNod] using hc, h3⟩
  · cases h
theorem toNod_nod (n : Nod) : toNod (nodD n) = n := by
  obtain ⟨b, h, c⟩ := n
  simp [toNod, nodD]
theorem inRow_nat {n : Nat} (h : n ≤ 15) : inRow (.int n) 0 15 = true := by
  unfold inRow isIntD
  simp only [Bool.and_eq_true, decide_eq_true_eq]
  refine ⟨⟨?_, ?_⟩, by omega, by omega⟩
  · have : (0 : Int) < 10 ^ 60 := by decide
    omega
  · have : (15 : Int) < 10 ^ 60 := by decide
    omega
theorem nod_isNode {n : Nod} (g : NodG n) : isNodeD (nodD n) = true := by
  show (inRow (.int n.1) 0 15 && (inRow (.int n.2.2) 0 15 && headG n.2.1)) = true
  rw [inRow_nat g.b, inRow_nat g.c, g.h]
  rfl
/-- the roots of the trees from place i on, the first at the left; the places below each place -/
def stP : Nat → List Nod → Option (List Nat × List (List Nat))
  | _, [] => some ([], [])
  | i, n :: r => match stP (i + 1) r with
    | none => none
    | some (w, K) => if n.2.2 ≤ w.length then some (i :: w.drop n.2.2, w.take n.2.2 :: K) else none
def kidsP (ns : List Nod) : Option (List (List Nat)) := match stP 0 ns with
  | some (w, K) => if w = [0] then some K else none
  | none => none
theorem stP_cons {i : Nat} {n : Nod} {r : List Nod} {w : List Nat} {K : List (List Nat)} (h : stP i (n :: r) = some (w, K)) : ∃ w' K', stP (i + 1) r = some (w', K') ∧ n.2.2 ≤ w'.length ∧ w = i :: w'.drop n.2.2 ∧ K = w'.take n.2.2 :: K' := by
  rw [stP] at h
  cases hs : stP (i + 1) r with
  | none =>
    rw [hs] at h
    cases h
  | some p =>
    obtain ⟨w', K'⟩ := p
    rw [hs] at h
    have h2 : (if n.2.2 ≤ w'.length then some (i :: w'.drop n.2.2, w'.take n.2.2 :: K') else none) = some (w, K) := h
    by_cases hl : n.2.2 ≤ w'.length
    · rw [if_pos hl] at h2
      cases h2
      exact ⟨w', K', rfl, hl, rfl, rfl⟩
    · rw [if_neg hl] at h2
      cases h2
theorem stP_len : ∀ {ns : List Nod} {i : Nat} {w : List Nat} {K : List (List Nat)}, stP i ns = some (w, K) → K.length = ns.length
  | [], _, _, _, h => by
    rw [stP] at h
    cases h
    rfl
  | n :: r, i, w, K, h => by
    obtain ⟨w', K', h1, _, _, rfl⟩ := stP_cons h
    rw [List.length_cons, stP_len h1, List.length_cons]
theorem stP_inc : ∀ {ns : List Nod} {i : Nat} {w : List Nat} {K : List (List Nat)}, stP i ns = some (w, K) → w.Pairwise (· < ·) ∧ (∀ x ∈ w, i ≤ x ∧ x < i + ns.length) ∧ ∀ (j : Nat) (ks : List Nat), K[j]? = some ks → ∀ x ∈ ks, i + j < x ∧ x < i + ns.length
  | [], _, _, _, h => by
    rw [stP] at h
    cases h
    exact ⟨.nil, fun x hx => absurd hx List.not_mem_nil, fun j ks hk => by simp at hk⟩
  | n :: r, i, w, K, h => by
    obtain ⟨w', K', h1, _, rfl, rfl⟩ := stP_cons h
    obtain ⟨a1, a2, a3⟩ := stP_inc h1
    refine ⟨List.pairwise_cons.mpr ⟨fun x hx => ?_, a1.sublist (List.drop_sublist _ _)⟩, fun x hx => ?_, fun j ks hk x hx => ?_⟩
    · have := a2 x (List.mem_of_mem_drop hx)
      omega
    · rw [List.length_cons]
      rcases List.mem_cons.mp hx with rfl | hx
      · omega
      · have := a2 x (List.mem_of_mem_drop hx)
        omega
    · rw [List.length_cons]
      cases j with
      | zero =>
        simp at hk
        subst hk
        have := a2 x (List.mem_of_mem_take hx)
        omega
      | succ j =>
        have := a3 j ks (by simpa using hk) x hx
        omega
theorem kids_st {ns : List Nod} {K : List (List Nat)} (h : kidsP ns = some K) : stP 0 ns = some ([0], K) := by
  unfold kidsP at h
  cases hs : stP 0 ns with
  | none =>
    rw [hs] at h
    cases h
  | some p =>
    obtain ⟨w, K'⟩ := p
    rw [hs] at h
    have h2 : (if w = [0] then some K' else none) = some K := h
    by_cases hw : w = [0]
    · rw [if_pos hw] at h2
      cases h2
      rw [hw]
    · rw [if_neg hw] at h2
      cases h2
/-- the bound variables ahead of each node -/
def bndsP : List Nat → List Nod → List Nat
  | _, [] => []
  | e, n :: r => e.headD 0 :: bndsP (List.replicate n.2.2 (e.headD 0 + n.1) ++ e.tail) r
theorem bnds_len : ∀ (e : List Nat) (ns : List Nod), (bndsP e ns).length = ns.length
  | _, [] => rfl
  | e, n :: r => by rw [bndsP, List.length_cons, bnds_len, List.length_cons]
def rowOk (b : Nat) (n : Nod) : Bool := decide (b + n.1 ≤ 100) && (match levelS n.2.1 with
  | none => true
  | some l => decide (l < ((b + n.1 : Nat) : Int)))
def rowsOk : List Nat → List Nod → Bool
  | b :: bs, n :: ns => rowOk b n && rowsOk bs ns
  | _, _ => true
def areN (ns : List Nod) : Bool := (kidsP ns).isSome && rowsOk (bndsP [0] ns) ns
def areP : D → Bool
  | .tup xs => decide (1 ≤ xs.length) && (decide (xs.length ≤ 40) && (xs.all isNodeD && areN (xs.map toNod)))
  | _ => false
/-! ### the law's own look -/
def xS (k : Nat) : Str := "x" ++ Str.ofString (toString (k : Int))
/-- heads as the law draws them -/
def headL : List Str := ["f", "g", "cons", "", "F", "x00", "?"]
def headW (h : Str) : Prop := h ∈ headL ∨ ∃ k, k < 100 ∧ h = xS k
theorem x_level : ∀ k < 100, levelS (xS k) = some (k : Int) ∧ isWordS (xS k) = false ∧ xS k ∉ (["f", "g", "cons"] : List Str) := by decide +kernel
end KP
/-! KP41: nodes of programs: what the package's defs promise; loops. -/
namespace KP
open PySem L2 FP
variable [FP.Tabl]
/-! ### loops by what is left -/
theorem for_st {T : Tg} {b : DTS} {N : Nd} (S : List D → FP.Env → Prop) (hend : ∀ ρ, S [] ρ → N.nx ρ) (hstep : ∀ d r ρ, S (d :: r) ρ → ∃ ρ1, T.put d ρ = some ρ1 ∧ ∀ K : FP.Env → Prop, (∀ ρ', S r ρ' → K ρ') → b { N with nx := K, ct := K, bk := N.nx } ρ1) : ∀ (xs : List D) (ρ : FP.Env), S xs ρ → forD T b N xs ρ
  | [], ρ, h => hend ρ h
  | d :: r, ρ, h => by
    obtain ⟨ρ1, h1, h2⟩ := hstep d r ρ h
    exact ⟨ρ1, h1, h2 _ fun ρ' h' => for_st S hend hstep r ρ' h'⟩
def natsD (xs : List Nat) : List D := xs.map fun k => D.int (k : Nat)
theorem intsD_len (xs : List Nat) : (natsD xs).length = xs.length := List.length_map _
/-- k - 1, .., 0 -/
def downD : Nat → List D
  | 0 => []
  | k + 1 => .int (k : Nat) :: downD k
theorem range_down : ∀ n : Nat, rangeC ((n : Int) - 1) (-1) n = downD n
  | 0 => rfl
  | n + 1 => by
    have ih := range_down n
    unfold rangeC at ih ⊢
    rw [List.range_succ_eq_map, List.map_cons, List.map_map, downD, ← ih]
    congr 1
    · simp
    · refine List.map_congr_left fun i _ => ?_
      show D.int (((n + 1 : Nat) : Int) - 1 + ((i + 1 : Nat) : Int) * -1) = D.int ((n : Int) - 1 + (i : Int) * -1)
      congr 1
      omega
/-! ### places below places -/
def kidD (ks : List Nat) : D := .tup (natsD ks)
theorem stP_none : ∀ {ns : List Nod} {k : Nat}, stP k (ns.drop k) = none → stP 0 ns = none
  | ns, 0, h => by simpa using h
  | ns, k + 1, h => by
    refine stP_none (k := k) ?_
    by_cases hk : k < ns.length
    · rw [List.drop_eq_getElem_cons hk, stP, h]
    · rw [List.drop_of_length_le (by omega), stP] at h
      cases h
theorem kidsP_none {ns : List Nod} {k : Nat} (h : stP k (ns.drop k) = none) : kidsP ns = none := by
  unfold kidsP
  rw [stP_none h]
def f_kids : List D → M D := fun ds Q _ => match ds with
  | [.tup xs] => ∃ ns : List Nod, xs = ns.map nodD ∧ ns.length ≤ 900 ∧ Q (match kidsP ns with
    | none => .non
    | some K => .lst (K.map kidD))
  | _ => False
/-- the place behind the last one below -/
def endsP : Nat → List (List Nat) → List Nat
  | _, [] => []
  | i, ks :: r => (match ks.getLast? with
    | none => i + 1
    | some p => (endsP (i + 1) r).getD (p - (i + 1)) 0) :: endsP (i + 1) r
theorem ends_len : ∀ (i : Nat) (K : List (List Nat)), (endsP i K).length = K.length
  | _, [] => rfl
  | i, ks :: r => by rw [endsP, List.length_cons, ends_len, List.length_cons]
/-- the places below lie behind, within the row -/
def kidsIn (K : List (List Nat)) : Prop := ∀ (j : Nat) (ks : List Nat), K[j]? = some ks → ∀ x ∈ ks, j < x ∧ x < K.length
theorem kids_in {ns : List Nod} {K : List (List Nat)} (h : kidsP ns = some K) : kidsIn K := fun j ks hj x hx => by
  have h1 := kids_st h
  have h2 := (stP_inc h1).2.2 j ks hj x hx
  rw [stP_len h1]
  omega
def f_ends : List D → M D := fun ds Q _ => match ds with
  | [.tup ys] => ∃ K : List (List Nat), ys = K.map kidD ∧ K.length ≤ 900 ∧ kidsIn K ∧ Q (.lst (natsD (endsP 0 K)))
  | _ => False
def f_bound : List D → M D := fun ds Q _ => match ds with
  | [.tup xs, y] => ∃ (ns : List Nod) (K : List (List Nat)), xs = ns.map nodD ∧ (y = .lst (K.map kidD) ∨ y = .tup (K.map kidD)) ∧ kidsP ns = some K ∧ ns.length ≤ 900 ∧ Q (.lst (natsD (bndsP [0] ns)))
  | _ => False
def okNs : D → Prop
  | .tup xs => ∀ x ∈ xs, okNodeD x
  | d => okV d
theorem okNs.v {d : D} (h : okNs d) : okV d := by
  cases d with
  | tup xs => exact trivial
  | _ => exact h
def progF (xs : List D) : List (Str × D) := [("own_nodes", .tup xs), ("own_kids", .tup (((kidsP (xs.map toNod)).getD []).map kidD)), ("own_ends", .tup (natsD (endsP 0 ((kidsP (xs.map toNod)).getD [])))), ("own_bound", .tup (natsD (bndsP [0] (xs.map toNod))))]
abbrev progX : XD := ⟨"InvalidProgram", []⟩
def f_initP : List D → ((List (Str × D)) → Prop) → (XD → Prop) → Prop := fun ds Q Ex => match ds with
  | [d] => okNs d ∧ isiD ["Nodes"] (fun _ => true) d = some false ∧ (∀ xs, d = .tup xs → areP d = true → Q (progF xs)) ∧ (areP d = false → Ex progX)
  | _ => False
theorem areP_tup {d : D} (h : areP d = true) : ∃ ns : List Nod, d = .tup (ns.map nodD) ∧ (∀ n ∈ ns, NodG n) ∧ 1 ≤ ns.length ∧ ns.length ≤ 40 ∧ areN ns = true := by
  cases d with
  | tup xs =>
    have h2 : (decide (1 ≤ xs.length) && (decide (xs.length ≤ 40) && (xs.all isNodeD && areN (xs.map toNod)))) = true := h
    simp only [Bool.and_eq_true, decide_eq_true_eq] at h2
    obtain ⟨h3, h4, h5, h6⟩ := h2
    rw [List.all_eq_true] at h5
    refine ⟨xs.map toNod, ?_, fun n hn => ?_, by rw [List.length_map]; exact h3, by rw [List.length_map]; exact h4, h6⟩
    · rw [List.map_map]
      congr 1
      conv => lhs; rw [← List.map_id xs]
      exact List.map_congr_left fun d hd => (isNode_nod (h5 d hd)).1
    · obtain ⟨d, hd, rfl⟩ := List.mem_map.mp hn
      exact (isNode_nod (h5 d hd)).2
  | _ => cases h
theorem toNods (ns : List Nod) : (ns.map nodD).map toNod = ns := by
  rw [List.map_map]
  conv => rhs; rw [← List.map_id ns]
  exact List.map_congr_left fun n _ => toNod_nod n
/-! ### lists of ints compared -/
theorem sh_ints {n : Nat} : ∀ xs : List Nat, shDs n (natsD xs) = true
  | [] => sh_nil
  | x :: r => sh_cons sh_int (sh_ints r)
theorem py_ints : ∀ xs : List Nat, toPys (natsD xs) = some (xs.map fun k => PyData.int (k : Nat))
  | [] => rfl
  | x :: r => by
    have h := py_ints r
    unfold natsD at h ⊢
    rw [List.map_cons, toPys, toPy, h]
    rfl
theorem eqv_ints : ∀ xs ys : List Nat, PyData.eqvAll (xs.map fun k => PyData.int (k : Nat)) (ys.map fun k => PyData.int (k : Nat)) = decide (xs = ys)
  | [], [] => by rw [List.map_nil, PyData.eqvAll]; simp
  | z :: r, [] => by rw [List.map_nil, List.map_cons, PyData.eqvAll]; simp
  | [], z :: r => by rw [List.map_nil, List.map_cons, PyData.eqvAll]; simp
  | z :: r, y :: t => by
    rw [List.map_cons, List.map_cons, PyData.eqvAll, eqv_ints r t]
    have e : PyData.eqv (.int (z : Nat)) (.int (y : Nat)) = decide (z = y) := by
      simp only [PyData.eqv]
      rw [Bool.eq_iff_iff, beq_iff_eq, decide_eq_true_iff]
      omega
    rw [e]
    by_cases h1 : z = y
    · by_cases h2 : r = t
      · rw [decide_eq_true h2, decide_eq_true (p := z :: r = y :: t) (by rw [h1, h2])]
        simp [h1]
      · rw [decide_eq_false h2, decide_eq_false (p := z :: r = y :: t) fun e => h2 (List.cons.inj e).2, Bool.and_false]
    · rw [decide_eq_false (p := z :: r = y :: t) fun e => h1 (List.cons.inj e).1]
      simp [h1]
theorem eqInts {xs ys : List Nat} {Q : D → Prop} (q : Q (.bl (decide (xs = ys)))) : rdEq (.lst (natsD xs)) (.lst (natsD ys)) Q := by
  obtain ⟨p, p1, p2, p3⟩ := shD_py 64 (.lst (natsD xs)) (sh_lst (sh_ints xs))
  obtain ⟨r, r1, r2, r3⟩ := shD_py 64 (.lst (natsD ys)) (sh_lst (sh_ints ys))
  show ∃ p q, toPy _ = some p ∧ toPy _ = some q ∧ SeqAt.shaped p = true ∧ SeqAt.shaped q = true ∧ Q (.bl (PyData.eqv p q))
  refine ⟨p, r, p1, r1, sh_shaped p2 p3, sh_shaped r2 r3, ?_⟩
  rw [toPy, py_ints] at p1 r1
  cases p1
  cases r1
  rw [PyData.eqv, eqv_ints]
  exact q
theorem set_mid {α : Type} (x v : α) (K : List α) (k : Nat) : (List.replicate (k + 1) x ++ K).set k v = List.replicate k x ++ v :: K := by
  rw [List.replicate_succ', List.append_assoc, List.set_append_right _ _ (by rw [List.length_replicate]; exact Nat.le_refl k), List.length_replicate, Nat.sub_self]
  rfl
/-! ### small facts -/
def isTupD : D → Bool
  | .tup _ => true
  | _ => false
theorem inc_len : ∀ {w : List Nat} {i n : Nat}, w.Pairwise (· < ·) → (∀ x ∈ w, i ≤ x ∧ x < i + n) → w.length ≤ n
  | [], _, _, _, _ => Nat.zero_le _
  | x :: r, i, n, h, hb => by
    obtain ⟨h1, h2⟩ := List.pairwise_cons.mp h
    have hx := hb x List.mem_cons_self
    have ih := inc_len (i := x + 1) (n := i + n - (x + 1)) h2 fun y hy => by
      have a := h1 y hy
      have b := hb y (List.mem_cons_of_mem _ hy)
      omega
    rw [List.length_cons]
    omega
theorem rev_drop (w : List Nat) (c : Nat) : (w.drop c).reverse = w.reverse.take (w.length - c) := by
  rw [← List.reverse_drop]
theorem ints_rev_drop (w : List Nat) (c : Nat) : ((natsD w.reverse).drop (w.length - c)).reverse = natsD (w.take c) := by
  unfold natsD
  rw [← List.map_drop, ← List.map_reverse]
  congr 1
  rw [List.drop_reverse, List.reverse_reverse]
  by_cases h : c ≤ w.length
  · congr 1
    omega
  · rw [List.take_of_length_le (by omega), List.take_of_length_le (by omega)]
theorem ints_take (xs : List Nat) (n : Nat) : (natsD xs).take n = natsD (xs.take n) := (List.map_take ..).symm
theorem ints_snoc (xs : List Nat) (k : Nat) : D.lst (natsD xs ++ [.int (k : Nat)]) = .lst (natsD (xs ++ [k])) := by
  unfold natsD
  rw [List.map_append]
  rfl
theorem isi_tup {d : D} (h : okV d) : ∃ n, tyName d = some n ∧ kitB n "tuple" = some (isTupD d) := by
  cases d with
  | fz _ => exact h.elim
  | ins _ _ => exact h.elim
  | cl _ => exact h.elim
  | fn _ _ => exact h.elim
  | non => exact ⟨_, rfl, by show kitB "NoneType" "tuple" = some false; decide +kernel⟩
  | bl _ => exact ⟨_, rfl, by show kitB "bool" "tuple" = some false; decide +kernel⟩
  | int _ => exact ⟨_, rfl, by show kitB "int" "tuple" = some false; decide +kernel⟩
  | str _ => exact ⟨_, rfl, by show kitB "str" "tuple" = some false; decide +kernel⟩
  | tup _ => exact ⟨_, rfl, by show kitB "tuple" "tuple" = some true; decide +kernel⟩
  | lst _ => exact ⟨_, rfl, by show kitB "list" "tuple" = some false; decide +kernel⟩
  | dct _ => exact ⟨_, rfl, by show kitB "dict" "tuple" = some false; decide +kernel⟩
  | tok => exact ⟨_, rfl, by show kitB "list" "tuple" = some false; decide +kernel⟩
theorem seq_oC {ρ : FP.Env} {i : Nat} {N : Nd} {ga : DTA} {gs : DTS} {xs : List D} (hf : EvA ga ρ xs) (hg : gs N (ρ.set i (.own xs))) : dSeq (dSetO i ga) gs N ρ := hf _ _ hg
/-- a test of the kind of a value -/
theorem ev_tup_isi {ρ : FP.Env} {i : Nat} {d : D} (h : okV d) (hr : ρ[i]? = some (.d d)) : Ev (dIsi "tuple" (dVar i)) ρ (.bl (isTupD d)) := fun Q E q => by
  obtain ⟨n, hn, hk⟩ := isi_tup h
  show (match ρ[i]? with | some (Sl.d x) => (match tyName x with | some n => ∃ b, kitB n "tuple" = some b ∧ Q (.bl b) | none => False) | _ => False)
  rw [hr]
  show (match tyName d with | some n => ∃ b, kitB n "tuple" = some b ∧ Q (.bl b) | none => False)
  rw [hn]
  exact ⟨_, hk, q⟩
theorem at_last {xs : List D} {d : D} (h : xs.getLast? = some d) : atI xs (-1) = some d := by
  rw [List.getLast?_eq_getElem?] at h
  have hl : xs.length - 1 < xs.length := (List.getElem?_eq_some_iff.mp h).1
  unfold atI ixN
  rw [if_neg (by decide), if_pos (by omega)]
  show xs[((-1 : Int) + xs.length).toNat]? = some d
  rw [show ((-1 : Int) + xs.length).toNat = xs.length - 1 by omega]
  exact h
theorem take_one {v : List Nat} {i h : Nat} (e : v[i]? = some h) : v.take (i + 1) = v.take i ++ [h] := by
  rw [List.take_succ, e]
  rfl
theorem inc_ne {w : List Nat} (h : w.Pairwise (· < ·)) {s t : Nat} (hs : s < w.length) (ht : t < w.length) (ne : s ≠ t) : w.getD s 0 ≠ w.getD t 0 := by
  rw [List.getD_eq_getElem?_getD, List.getD_eq_getElem?_getD, List.getElem?_eq_getElem hs, List.getElem?_eq_getElem ht]
  rw [List.pairwise_iff_getElem] at h
  show w[s] ≠ w[t]
  rcases Nat.lt_or_gt_of_ne ne with q | q
  · exact Nat.ne_of_lt (h s t hs ht q)
  · exact Nat.ne_of_gt (h t s ht hs q)
theorem end_ifT {c : DTT} {f1 f2 : DTS} {N : Nd} {ρ : FP.Env} (hc : EvT c ρ true) (h : f1 N ρ) : dIfS c f1 f2 N ρ := hc _ _ h
theorem end_ifF {c : DTT} {f1 f2 : DTS} {N : Nd} {ρ : FP.Env} (hc : EvT c ρ false) (h : f2 N ρ) : dIfS c f1 f2 N ρ := hc _ _ h
theorem progF_eq {ns : List Nod} {K : List (List Nat)} (hk : kidsP ns = some K) : progF (ns.map nodD) = ([("own_nodes", .tup (ns.map nodD)), ("own_kids", .tup (K.map kidD)), ("own_ends", .tup (natsD (endsP 0 K))), ("own_bound", .tup (natsD (bndsP [0] ns)))] : List (Str × D)) := by
  unfold progF
  rw [toNods, hk]
  rfl
theorem ar_kids {ns : List Nod} (h : areN ns = true) : ∃ K, kidsP ns = some K := by
  unfold areN at h
  rw [Bool.and_eq_true] at h
  exact Option.isSome_iff_exists.mp h.1
theorem kids_len {ns : List Nod} {K : List (List Nat)} (h : kidsP ns = some K) : K.length = ns.length := stP_len (kids_st h)
end KP
/-! KP42: rows of nodes, the law's own look at lists of values. -/
namespace KP
open PySem L2 FP
variable [FP.Tabl]
def rowsP (bs : List Nat) (ns : List Nod) : List Nat := List.zipWith (fun b n => b + n.1) bs ns
theorem rowsP_len {bs : List Nat} {ns : List Nod} (h : bs.length = ns.length) : (rowsP bs ns).length = ns.length := by
  unfold rowsP
  rw [List.length_zipWith, h, Nat.min_self]
def rowB (r : Nat) (n : Nod) : Bool := decide (r ≤ 100) && (match levelS n.2.1 with
  | none => true
  | some l => decide (l < (r : Int)))
theorem rowsOk_all : ∀ (bs : List Nat) (ns : List Nod), bs.length = ns.length → ((List.zip (rowsP bs ns) ns).all fun p => rowB p.1 p.2) = rowsOk bs ns
  | [], [], _ => rfl
  | [], _ :: _, h => by cases h
  | _ :: _, [], h => by cases h
  | b :: bs, n :: ns, h => by
    have ih := rowsOk_all bs ns (Nat.succ.inj h)
    show (rowB (b + n.1) n && ((List.zip (rowsP bs ns) ns).all fun p => rowB p.1 p.2)) = (rowOk b n && rowsOk bs ns)
    rw [ih]
    rfl
theorem zip_bn : ∀ (bs : List Nat) (ns : List Nod), zipD (natsD bs) (ns.map nodD) = (List.zip bs ns).map fun p => D.tup [.int (p.1 : Nat), nodD p.2]
  | [], _ => rfl
  | _ :: _, [] => rfl
  | b :: bs, n :: ns => by
    have ih := zip_bn bs ns
    show pairD (.int (b : Nat)) (nodD n) :: zipD (natsD bs) (ns.map nodD) = _
    rw [ih]
    rfl
theorem zip_rl : ∀ (rs : List Nat) (ns : List Nod), zipD (natsD rs) (ns.map fun n => ofO (levelS n.2.1)) = (List.zip rs ns).map fun p => D.tup [.int (p.1 : Nat), ofO (levelS p.2.2.1)]
  | [], _ => rfl
  | _ :: _, [] => rfl
  | b :: bs, n :: ns => by
    have ih := zip_rl bs ns
    show pairD (.int (b : Nat)) (ofO (levelS n.2.1)) :: zipD (natsD bs) (ns.map fun n => ofO (levelS n.2.1)) = _
    rw [ih]
    rfl
theorem zip_rows (bs : List Nat) (ns : List Nod) : ((List.zip bs ns).map fun p : Nat × Nod => D.int ((p.1 + p.2.1 : Nat) : Int)) = natsD (rowsP bs ns) := by
  unfold natsD rowsP
  rw [List.map_zipWith]
  induction bs generalizing ns with
  | nil => rfl
  | cons b bs ih =>
    cases ns with
    | nil => rfl
    | cons n ns =>
      rw [List.zip_cons_cons, List.map_cons, List.zipWith_cons_cons, ih ns]
theorem ev_zip {ρ : FP.Env} {ga : DTA} {x y : D} {xs ys : List D} (h : EvA ga ρ [x, y]) (hx : seqD x = some xs) (hy : seqD y = some ys) : EvI (dIZip ga) ρ (zipD xs ys) := fun Q E q => h _ _ ⟨xs, ys, hx, hy, q⟩
/-! ### the law's own look at values -/
def oddL : List D := [.tup [.str "f", .int 0, .int 0], .tup [.int 0, .str "f"], .tup [.int 0, .str "f", .int 0, .int 0], .lst [.int 0, .str "f", .int 0], .non, .tup [.bl true, .str "f", .int 0]]
/-- a value as the law puts it into rows of nodes -/
def nodeC (d : D) : Prop := (∃ (b : Int) (h : Str) (c : Int), d = .tup [.int b, .str h, .int c] ∧ headW h ∧ -1 ≤ b ∧ b ≤ 900 ∧ -1 ≤ c ∧ c ≤ 900) ∨ d ∈ oddL
end KP
/-! KP43: plain programs. -/
namespace KP
open PySem L2 FP
variable [FP.Tabl]
/-- a plain program: binders, head, arguments -/
inductive Pt where
  | mk (b : Nat) (h : Str) (as : List Pt)
def Pt.b : Pt → Nat
  | .mk b _ _ => b
def Pt.h : Pt → Str
  | .mk _ h _ => h
def Pt.as : Pt → List Pt
  | .mk _ _ as => as
mutual
def ptD : Pt → D
  | .mk b h as => .tup [.int (b : Nat), .str h, .tup (ptDs as)]
def ptDs : List Pt → List D
  | [] => []
  | p :: r => ptD p :: ptDs r
end
theorem ptDs_map : ∀ as : List Pt, ptDs as = as.map ptD
  | [] => by rw [ptDs, List.map_nil]
  | p :: r => by rw [ptDs, ptDs_map r, List.map_cons]
theorem ptD_eq (b : Nat) (h : Str) (as : List Pt) : ptD (.mk b h as) = .tup [.int (b : Nat), .str h, .tup (as.map ptD)] := by rw [ptD, ptDs_map]
mutual
def nodesT : Pt → List Nod
  | .mk b h as => (b, h, as.length) :: nodesTs as
def nodesTs : List Pt → List Nod
  | [] => []
  | p :: r => nodesT p ++ nodesTs r
end
mutual
def partsT : Pt → List Pt
  | .mk b h as => .mk b h as :: partsTs as
def partsTs : List Pt → List Pt
  | [] => []
  | p :: r => partsT p ++ partsTs r
end
mutual
def sizeT : Pt → Nat
  | .mk _ _ as => 1 + sizeTs as
def sizeTs : List Pt → Nat
  | [] => 0
  | p :: r => sizeT p + sizeTs r
end
mutual
theorem nodes_len : ∀ p : Pt, (nodesT p).length = sizeT p
  | .mk b h as => by rw [nodesT, List.length_cons, nodes_lens as, sizeT, Nat.add_comm]
theorem nodes_lens : ∀ ps : List Pt, (nodesTs ps).length = sizeTs ps
  | [] => by rw [nodesTs, sizeTs]; rfl
  | p :: r => by rw [nodesTs, List.length_append, nodes_len p, nodes_lens r, sizeTs]
end
mutual
theorem parts_lenT : ∀ p : Pt, (partsT p).length = sizeT p
  | .mk b h as => by rw [partsT, List.length_cons, parts_lenTs as, sizeT, Nat.add_comm]
theorem parts_lenTs : ∀ ps : List Pt, (partsTs ps).length = sizeTs ps
  | [] => by rw [partsTs, sizeTs]; rfl
  | p :: r => by rw [partsTs, List.length_append, parts_lenT p, parts_lenTs r, sizeTs]
end
theorem nodesTs_app : ∀ ps qs : List Pt, nodesTs (ps ++ qs) = nodesTs ps ++ nodesTs qs
  | [], _ => by rw [List.nil_append, nodesTs, List.nil_append]
  | p :: r, qs => by rw [List.cons_append, nodesTs, nodesTs, nodesTs_app r, List.append_assoc]
theorem partsTs_app : ∀ ps qs : List Pt, partsTs (ps ++ qs) = partsTs ps ++ partsTs qs
  | [], _ => by rw [List.nil_append, partsTs, List.nil_append]
  | p :: r, qs => by rw [List.cons_append, partsTs, partsTs, partsTs_app r, List.append_assoc]
theorem sizeTs_app : ∀ ps qs : List Pt, sizeTs (ps ++ qs) = sizeTs ps + sizeTs qs
  | [], _ => by rw [List.nil_append, sizeTs, Nat.zero_add]
  | p :: r, qs => by rw [List.cons_append, sizeTs, sizeTs, sizeTs_app r, Nat.add_assoc]
theorem size_pos (p : Pt) : 1 ≤ sizeT p := by
  cases p with
  | mk b h as =>
    rw [sizeT]
    omega
theorem size_in : ∀ {ps : List Pt} {p : Pt}, p ∈ ps → sizeT p ≤ sizeTs ps
  | [], _, h => absurd h List.not_mem_nil
  | q :: r, p, h => by
    rw [sizeTs]
    rcases List.mem_cons.mp h with rfl | h
    · omega
    · have := size_in h
      omega
theorem sizeTs_len : ∀ ps : List Pt, ps.length ≤ sizeTs ps
  | [] => Nat.zero_le _
  | p :: r => by
    have h1 := size_pos p
    have h2 := sizeTs_len r
    rw [sizeTs, List.length_cons]
    omega
/-! ### drawn programs -/
/-- nodes of the law's rows -/
structure NodW (n : Nod) : Prop where
  g : NodG n
  w : headW n.2.1
/-! ### what the law's defs promise -/
def f_pnodes (d : Nat) : List D → M D := fun ds Q _ => match ds with
  | [x] => ∃ p : Pt, x = ptD p ∧ sizeT p < d ∧ sizeT p ≤ 60 ∧ Q (.lst ((nodesT p).map nodD))
  | _ => False
def f_ppartsT (d : Nat) : List D → M D := fun ds Q _ => match ds with
  | [x] => ∃ p : Pt, x = ptD p ∧ sizeT p < d ∧ sizeT p ≤ 60 ∧ Q (.lst ((partsT p).map ptD))
  | _ => False
theorem nope_pnodes (ds : List D) (Q : D → Prop) (E : XD → Prop) (h : f_pnodes 0 ds Q E) : False := by
  unfold f_pnodes at h
  split at h
  · obtain ⟨_, _, h, _⟩ := h
    omega
  · exact h
theorem nope_ppartsT (ds : List D) (Q : D → Prop) (E : XD → Prop) (h : f_ppartsT 0 ds Q E) : False := by
  unfold f_ppartsT at h
  split at h
  · obtain ⟨_, _, h, _⟩ := h
    omega
  · exact h
/-! ### small steps -/
section
variable {ρ : FP.Env} {f f1 f2 : DTE} {g : DTA} {gs : DTS} {N : Nd} {i j l : Nat}
theorem seq_par3L {xs : List D} (P : D → Prop) (d2 : D) (hf : EvP f1 ρ P) (h2 : Ev f2 ρ d2) (ha : EvA g ρ xs) (hg : ∀ d, P d → gs N (((ρ.set i (.d d)).set j (.d d2)).set l (.own xs))) : dSeq (dPar3L i j l f1 f2 g) gs N ρ := hf _ _ fun d p => h2 _ _ (ha _ _ (hg d p))
theorem seq_appP {xs : List D} (h : ρ[i]? = some (.own xs)) (P : D → Prop) (hs : xs.length < sizeLine) (hf : EvP f ρ P) (hg : ∀ d, P d → gs N (ρ.set i (.own (xs ++ [d])))) : dSeq (dApp i f) gs N ρ := by
  show dApp i f _ ρ
  unfold dApp
  rw [h]
  exact hf _ _ fun d p => ⟨hs, hg d p⟩
end
theorem x_len : ∀ k : Nat, k < 100 → (Str.ofString (toString (k : Int))).length ≤ 2 := by decide +kernel
theorem ev_xs {ρ : FP.Env} {f : DTE} {n : Nat} (hn : n < 100) (h : Ev f ρ (.int (n : Nat))) : Ev (dOp rdAdd (dC (.str "x")) (dCB rdStr (dCons f dNil))) ρ (.str (xS n)) := ev_op (x := .str "x") (y := .str (Str.ofString (toString (n : Int)))) (fun Q E q => q) (ev_cb (a1 h a0) fun Q q => ⟨log_small (by omega) (by omega), q⟩) fun Q q => ⟨by
  have h1 := x_len n hn
  have e1 : ("x" : Str).length = 1 := by decide +kernel
  rw [e1]
  exact size_small (by omega), q⟩
/-- ['x' + str(i) for i in range(e)] -/
theorem ev_names {ρ : FP.Env} {f : DTE} {n i : Nat} {vs : List Nat} (hn : n < 100) (h : Ev f ρ (.int (n : Nat))) (hi : ∀ k : Nat, ((wipeD ρ vs).set i (.d (.int ((0 : Int) + k))))[i]? = some (.d (.int ((0 : Int) + k)))) : Ev (dLc (dIRng1 (dCons f dNil)) (.one i) dYes (dOp rdAdd (dC (.str "x")) (dCB rdStr (dCons (dVar i) dNil))) vs) ρ (.lst ((List.range n).map fun k => .str (xS k))) :=
  ev_lc (fun k : Nat => D.int ((0 : Int) + k)) (fun k => .str (xS k)) (xs := List.range n) (fun Q E q => h _ _ ⟨by omega, by omega, by
    rw [Int.toNat_natCast]
    exact q⟩) (size_small (by rw [List.length_range]; omega)) fun k hk => ⟨_, rfl, ev_xs (by have := List.mem_range.mp hk; omega) fun Q E q => by
      show (match ((wipeD ρ vs).set i (.d (.int ((0 : Int) + k))))[i]? with | some (Sl.d x) => Q x | _ => False)
      rw [hi k]
      show Q (.int ((0 : Int) + k))
      rw [Int.zero_add]
      exact q⟩
end KP
/-! KP44: values near rows of nodes: small facts. -/
namespace KP
open PySem L2 FP
variable [FP.Tabl]
/-! ### steps -/
section
variable {ρ : FP.Env} {f f1 f2 : DTE} {g : DTA} {gs : DTS} {N : Nd} {i j l : Nat}
theorem eqNil {xs : List D} {Q : D → Prop} (h : shDs 63 xs = true) (q : Q (.bl xs.isEmpty)) : rdEq (.lst xs) (.lst []) Q := by
  obtain ⟨p, p1, p2, p3⟩ := shD_py 64 (.lst xs) (sh_lst h)
  obtain ⟨r, r1, r2, r3⟩ := shD_py 64 (.lst []) (sh_lst sh_nil)
  show ∃ p q, toPy _ = some p ∧ toPy _ = some q ∧ SeqAt.shaped p = true ∧ SeqAt.shaped q = true ∧ Q (.bl (PyData.eqv p q))
  refine ⟨p, r, p1, r1, sh_shaped p2 p3, sh_shaped r2 r3, ?_⟩
  obtain ⟨ps, q1, _, _⟩ := shDs_py 63 xs h
  rw [toPy, q1] at p1
  cases p1
  rw [toPy, toPys] at r1
  cases r1
  rw [PyData.eqv]
  have e : PyData.eqvAll ps [] = xs.isEmpty := by
    cases xs with
    | nil =>
      rw [toPys] at q1
      cases q1
      simp [PyData.eqvAll]
    | cons x r =>
      rw [toPys] at q1
      split at q1
      · cases q1
        simp [PyData.eqvAll]
      · cases q1
  rw [e]
  exact q
theorem neNil {xs : List D} {Q : D → Prop} (h : shDs 63 xs = true) (q : Q (.bl (!xs.isEmpty))) : rdNe (.lst xs) (.lst []) Q := by
  obtain ⟨p, p1, p2, p3⟩ := shD_py 64 (.lst xs) (sh_lst h)
  obtain ⟨r, r1, r2, r3⟩ := shD_py 64 (.lst []) (sh_lst sh_nil)
  show ∃ p q, toPy _ = some p ∧ toPy _ = some q ∧ SeqAt.shaped p = true ∧ SeqAt.shaped q = true ∧ Q (.bl (!PyData.eqv p q))
  refine ⟨p, r, p1, r1, sh_shaped p2 p3, sh_shaped r2 r3, ?_⟩
  obtain ⟨ps, q1, _, _⟩ := shDs_py 63 xs h
  rw [toPy, q1] at p1
  cases p1
  rw [toPy, toPys] at r1
  cases r1
  rw [PyData.eqv]
  have e : PyData.eqvAll ps [] = xs.isEmpty := by
    cases xs with
    | nil =>
      rw [toPys] at q1
      cases q1
      simp [PyData.eqvAll]
    | cons x r =>
      rw [toPys] at q1
      split at q1
      · cases q1
        simp [PyData.eqvAll]
      · cases q1
  rw [e]
  exact q
end
/-! ### values near nodes -/
theorem l_ok : ∀ h ∈ headL, PyData.strOk h = true ∧ (h.length ≤ 1000 ∧ (h.cps.toList.all fun c => decide (c < 1114112)) = true) := by decide +kernel
theorem x_ok : ∀ k < 100, PyData.strOk (xS k) = true ∧ ((xS k).length ≤ 1000 ∧ ((xS k).cps.toList.all fun c => decide (c < 1114112)) = true) := by decide +kernel
theorem headW.ok {h : Str} (w : headW h) : PyData.strOk h = true ∧ okStr h := by
  have e : PyData.strOk h = true ∧ (h.length ≤ 1000 ∧ (h.cps.toList.all fun c => decide (c < 1114112)) = true) := by
    rcases w with w | ⟨k, hk, rfl⟩
    · exact l_ok h w
    · exact x_ok k hk
  refine ⟨e.1, e.2.1, fun c hc => ?_⟩
  have h2 := e.2.2
  rw [List.all_eq_true] at h2
  exact of_decide_eq_true (h2 c hc)
theorem okStr_f : okStr "f" := (headW.ok (.inl (by decide +kernel))).2
theorem nodeC.ok {d : D} (h : nodeC d) : okNodeD d := by
  rcases h with ⟨b, h, c, rfl, w, _⟩ | h
  · exact ⟨trivial, w.ok.2, trivial⟩
  · simp only [oddL, List.mem_cons, List.not_mem_nil, or_false] at h
    rcases h with rfl | rfl | rfl | rfl | rfl | rfl
    · exact ⟨okStr_f, trivial, trivial⟩
    · exact trivial
    · exact trivial
    · exact trivial
    · exact trivial
    · exact ⟨trivial, okStr_f, trivial⟩
theorem NodW.c {n : Nod} (w : NodW n) : nodeC (nodD n) := .inl ⟨_, _, _, rfl, w.w, by have := w.g.b; omega, by have := w.g.b; omega, by have := w.g.c; omega, by have := w.g.c; omega⟩
/-! ### open rows -/
/-! ### odd values -/
/-! ### rows changed at a place -/
/-! ### what is taken -/
end KP
/-! KP45: steps over own lists. -/
namespace KP
open PySem L2 FP
end KP
/-! KP46: law k18: what is asked at the end. -/
namespace KP
open PySem L2 FP
/-! ### the four rows at the end -/
end KP
/-! KP47: plain programs and their rows of nodes: places, bound variables, ends, texts. -/
namespace KP
open PySem L2 FP
variable [FP.Tabl]
/-! ### places -/
def startsP : Nat → List Pt → List (Nat × Pt)
  | _, [] => []
  | i, p :: r => (i, p) :: startsP (i + sizeT p) r
def startsT (i : Nat) (ps : List Pt) : List Nat := (startsP i ps).map (·.1)
mutual
def kidsT : Nat → Pt → List (List Nat)
  | i, .mk _ _ as => startsT (i + 1) as :: kidsTs (i + 1) as
def kidsTs : Nat → List Pt → List (List Nat)
  | _, [] => []
  | i, p :: r => kidsT i p ++ kidsTs (i + sizeT p) r
end
mutual
def bndsT : Nat → Pt → List Nat
  | bd, .mk b _ as => bd :: bndsTs (bd + b) as
def bndsTs : Nat → List Pt → List Nat
  | _, [] => []
  | bd, p :: r => bndsT bd p ++ bndsTs bd r
end
mutual
def endsT : Nat → Pt → List Nat
  | i, .mk _ _ as => (i + 1 + sizeTs as) :: endsTs (i + 1) as
def endsTs : Nat → List Pt → List Nat
  | _, [] => []
  | i, p :: r => endsT i p ++ endsTs (i + sizeT p) r
end
mutual
theorem kidsT_len : ∀ (i : Nat) (p : Pt), (kidsT i p).length = sizeT p
  | i, .mk b h as => by rw [kidsT, List.length_cons, kidsTs_len, sizeT, Nat.add_comm]
theorem kidsTs_len : ∀ (i : Nat) (ps : List Pt), (kidsTs i ps).length = sizeTs ps
  | _, [] => by rw [kidsTs, sizeTs]; rfl
  | i, p :: r => by rw [kidsTs, List.length_append, kidsT_len, kidsTs_len, sizeTs]
end
mutual
theorem bndsT_len : ∀ (i : Nat) (p : Pt), (bndsT i p).length = sizeT p
  | i, .mk b h as => by rw [bndsT, List.length_cons, bndsTs_len, sizeT, Nat.add_comm]
theorem bndsTs_len : ∀ (i : Nat) (ps : List Pt), (bndsTs i ps).length = sizeTs ps
  | _, [] => by rw [bndsTs, sizeTs]; rfl
  | i, p :: r => by rw [bndsTs, List.length_append, bndsT_len, bndsTs_len, sizeTs]
end
mutual
theorem endsT_len : ∀ (i : Nat) (p : Pt), (endsT i p).length = sizeT p
  | i, .mk b h as => by rw [endsT, List.length_cons, endsTs_len, sizeT, Nat.add_comm]
theorem endsTs_len : ∀ (i : Nat) (ps : List Pt), (endsTs i ps).length = sizeTs ps
  | _, [] => by rw [endsTs, sizeTs]; rfl
  | i, p :: r => by rw [endsTs, List.length_append, endsT_len, endsTs_len, sizeTs]
end
theorem startsT_len (i : Nat) : ∀ (ps : List Pt), (startsT i ps).length = ps.length := by
  intro ps
  unfold startsT
  rw [List.length_map]
  induction ps generalizing i with
  | nil => rfl
  | cons p r ih => rw [startsP, List.length_cons, ih, List.length_cons]
theorem startsT_app (i : Nat) : ∀ (ps qs : List Pt), startsT i (ps ++ qs) = startsT i ps ++ startsT (i + sizeTs ps) qs := by
  intro ps qs
  unfold startsT
  rw [← List.map_append]
  congr 1
  induction ps generalizing i with
  | nil => rw [sizeTs]; rfl
  | cons p r ih =>
    rw [List.cons_append, startsP, startsP, ih, sizeTs, List.cons_append]
    congr 3
    omega
theorem kidsTs_app : ∀ (ps qs : List Pt) (i : Nat), kidsTs i (ps ++ qs) = kidsTs i ps ++ kidsTs (i + sizeTs ps) qs
  | [], qs, i => by rw [kidsTs, sizeTs]; rfl
  | p :: r, qs, i => by
    rw [List.cons_append, kidsTs, kidsTs, kidsTs_app r qs, sizeTs, List.append_assoc]
    congr 3
    omega
theorem bndsTs_app : ∀ (ps qs : List Pt) (bd : Nat), bndsTs bd (ps ++ qs) = bndsTs bd ps ++ bndsTs bd qs
  | [], qs, bd => by rw [bndsTs]; rfl
  | p :: r, qs, bd => by rw [List.cons_append, bndsTs, bndsTs, bndsTs_app r qs, List.append_assoc]
theorem endsTs_app : ∀ (ps qs : List Pt) (i : Nat), endsTs i (ps ++ qs) = endsTs i ps ++ endsTs (i + sizeTs ps) qs
  | [], qs, i => by rw [endsTs, sizeTs]; rfl
  | p :: r, qs, i => by
    rw [List.cons_append, endsTs, endsTs, endsTs_app r qs, sizeTs, List.append_assoc]
    congr 3
    omega
/-! ### what the program's rows are -/
mutual
theorem st_T : ∀ (p : Pt) (i : Nat) (r : List Nod) (w : List Nat) (K : List (List Nat)), stP (i + sizeT p) r = some (w, K) → stP i (nodesT p ++ r) = some (i :: w, kidsT i p ++ K)
  | .mk b h as, i, r, w, K, hs => by
    rw [sizeT] at hs
    have h1 := st_Ts as (i + 1) r w K (by rw [← hs]; congr 1; omega)
    rw [nodesT, List.cons_append, stP, h1]
    have e1 : (startsT (i + 1) as ++ w).take as.length = startsT (i + 1) as := List.take_left' (startsT_len _ _)
    have e2 : (startsT (i + 1) as ++ w).drop as.length = w := List.drop_left' (startsT_len _ _)
    have e3 : as.length ≤ (startsT (i + 1) as ++ w).length := by
      rw [List.length_append, startsT_len]
      omega
    show (if as.length ≤ (startsT (i + 1) as ++ w).length then some (i :: (startsT (i + 1) as ++ w).drop as.length, (startsT (i + 1) as ++ w).take as.length :: (kidsTs (i + 1) as ++ K)) else none) = _
    rw [if_pos e3, e1, e2, kidsT]
    rfl
theorem st_Ts : ∀ (ps : List Pt) (i : Nat) (r : List Nod) (w : List Nat) (K : List (List Nat)), stP (i + sizeTs ps) r = some (w, K) → stP i (nodesTs ps ++ r) = some (startsT i ps ++ w, kidsTs i ps ++ K)
  | [], i, r, w, K, hs => by
    rw [sizeTs] at hs
    rw [nodesTs, kidsTs]
    exact hs
  | p :: q, i, r, w, K, hs => by
    rw [sizeTs] at hs
    have h1 := st_Ts q (i + sizeT p) r w K (by rw [← hs]; congr 1; omega)
    have h2 := st_T p i (nodesTs q ++ r) _ _ h1
    rw [nodesTs, List.append_assoc, h2, kidsTs, List.append_assoc]
    unfold startsT
    rw [startsP]
    rfl
end
theorem kidsP_T (p : Pt) : kidsP (nodesT p) = some (kidsT 0 p) := by
  have h := st_T p 0 [] [] [] rfl
  rw [List.append_nil, List.append_nil] at h
  unfold kidsP
  rw [h]
  rfl
mutual
theorem bnds_T : ∀ (p : Pt) (bd : Nat) (t : List Nat) (r : List Nod), bndsP (bd :: t) (nodesT p ++ r) = bndsT bd p ++ bndsP t r
  | .mk b h as, bd, t, r => by
    rw [nodesT, List.cons_append, bndsP, bndsT]
    show bd :: bndsP (List.replicate as.length (bd + b) ++ t) (nodesTs as ++ r) = _
    rw [bnds_Ts as (bd + b) t r]
    rfl
theorem bnds_Ts : ∀ (ps : List Pt) (bd : Nat) (t : List Nat) (r : List Nod), bndsP (List.replicate ps.length bd ++ t) (nodesTs ps ++ r) = bndsTs bd ps ++ bndsP t r
  | [], bd, t, r => by
    rw [nodesTs, bndsTs]
    rfl
  | p :: q, bd, t, r => by
    rw [List.length_cons, List.replicate_succ, List.cons_append, nodesTs, List.append_assoc, bnds_T p bd _ _, bnds_Ts q bd t r, bndsTs, List.append_assoc]
end
theorem bndsP_T (p : Pt) : bndsP [0] (nodesT p) = bndsT 0 p := by
  have h := bnds_T p 0 [] []
  rw [List.append_nil] at h
  rw [h, bndsP, List.append_nil]
theorem endsTs_at (pre post : List Pt) (q : Pt) (i : Nat) (R : List Nat) : (endsTs i (pre ++ q :: post) ++ R)[sizeTs pre]? = some (i + sizeTs pre + sizeT q) := by
  rw [endsTs_app, endsTs, List.append_assoc, List.append_assoc, List.getElem?_append_right (by rw [endsTs_len]; exact Nat.le_refl _), endsTs_len, Nat.sub_self]
  cases q with
  | mk b h as =>
    rw [endsT, List.cons_append, List.getElem?_cons_zero, sizeT, Nat.add_assoc]
mutual
theorem ends_T : ∀ (p : Pt) (i : Nat) (R : List (List Nat)), endsP i (kidsT i p ++ R) = endsT i p ++ endsP (i + sizeT p) R
  | .mk b h as, i, R => by
    have ih := ends_Ts as (i + 1) R
    rw [kidsT, List.cons_append, endsP, ih, endsT, sizeT, List.cons_append]
    have e0 : i + 1 + sizeTs as = i + (1 + sizeTs as) := by omega
    rw [e0]
    congr 1
    cases hl : as.getLast? with
    | none =>
      have ha : as = [] := List.getLast?_eq_none_iff.mp hl
      subst ha
      rw [sizeTs]
      rfl
    | some q =>
      obtain ⟨pre, rfl⟩ := List.getLast?_eq_some_iff.mp hl
      have e1 : (startsT (i + 1) (pre ++ [q])).getLast? = some (i + 1 + sizeTs pre) := by
        rw [startsT_app]
        unfold startsT
        rw [startsP, startsP, List.map_cons, List.map_nil, List.getLast?_append]
        rfl
      rw [e1]
      show (endsTs (i + 1) (pre ++ [q]) ++ endsP (i + (1 + sizeTs (pre ++ [q]))) R).getD (i + 1 + sizeTs pre - (i + 1)) 0 = _
      rw [Nat.add_sub_cancel_left, List.getD_eq_getElem?_getD, endsTs_at, sizeTs_app, sizeTs, sizeTs]
      show i + 1 + sizeTs pre + sizeT q = _
      omega
theorem ends_Ts : ∀ (ps : List Pt) (i : Nat) (R : List (List Nat)), endsP i (kidsTs i ps ++ R) = endsTs i ps ++ endsP (i + sizeTs ps) R
  | [], i, R => by
    rw [kidsTs, endsTs, sizeTs]
    rfl
  | p :: q, i, R => by
    rw [kidsTs, List.append_assoc, ends_T p i _, ends_Ts q (i + sizeT p) R, endsTs, sizeTs, List.append_assoc]
    congr 3
    omega
end
theorem endsP_T (p : Pt) : endsP 0 (kidsT 0 p) = endsT 0 p := by
  have h := ends_T p 0 []
  rw [List.append_nil] at h
  rw [h, endsP, List.append_nil]
/-! ### a tree at a place of the rows -/
structure AtP (ns : List Nod) (K : List (List Nat)) (B E : List Nat) (p : Pt) (bd i : Nat) : Prop where
  n : ∃ r, ns.drop i = nodesT p ++ r
  k : ∃ r, K.drop i = kidsT i p ++ r
  b : ∃ r, B.drop i = bndsT bd p ++ r
  e : ∃ r, E.drop i = endsT i p ++ r
theorem drop_at {α : Type} {l a b : List α} {i n : Nat} (h : l.drop i = a ++ b) (hn : a.length = n) : l.drop (i + n) = b := by
  rw [← List.drop_drop, h, List.drop_left' hn]
theorem head_at {α : Type} {l r : List α} {x : α} {i : Nat} (h : l.drop i = x :: r) : l[i]? = some x := by
  have e : (l.drop i)[0]? = some x := by rw [h]; rfl
  rw [List.getElem?_drop, Nat.add_zero] at e
  exact e
section
variable {ns : List Nod} {K : List (List Nat)} {B E : List Nat} {b bd i : Nat} {h : Str} {as : List Pt}
theorem AtP.endd (a : AtP ns K B E (.mk b h as) bd i) : E[i]? = some (i + sizeT (.mk b h as)) := by
  obtain ⟨r, e⟩ := a.e
  rw [endsT, List.cons_append] at e
  rw [head_at e, sizeT]
  congr 1
  omega
theorem AtP.kid {pre post : List Pt} {q : Pt} (a : AtP ns K B E (.mk b h (pre ++ q :: post)) bd i) : AtP ns K B E q (bd + b) (i + 1 + sizeTs pre) := by
  obtain ⟨⟨r1, e1⟩, ⟨r2, e2⟩, ⟨r3, e3⟩, ⟨r4, e4⟩⟩ := a
  rw [nodesT, nodesTs_app, nodesTs, List.cons_append, List.append_assoc, List.append_assoc, ← List.cons_append] at e1
  rw [kidsT, kidsTs_app, kidsTs, List.cons_append, List.append_assoc, List.append_assoc, ← List.cons_append] at e2
  rw [bndsT, bndsTs_app, bndsTs, List.cons_append, List.append_assoc, List.append_assoc, ← List.cons_append] at e3
  rw [endsT, endsTs_app, endsTs, List.cons_append, List.append_assoc, List.append_assoc, ← List.cons_append] at e4
  have d1 := drop_at e1 (n := 1 + sizeTs pre) (by rw [List.length_cons, nodes_lens]; omega)
  have d2 := drop_at e2 (n := 1 + sizeTs pre) (by rw [List.length_cons, kidsTs_len]; omega)
  have d3 := drop_at e3 (n := 1 + sizeTs pre) (by rw [List.length_cons, bndsTs_len]; omega)
  have d4 := drop_at e4 (n := 1 + sizeTs pre) (by rw [List.length_cons, endsTs_len]; omega)
  rw [← Nat.add_assoc] at d1 d2 d3 d4
  exact ⟨⟨_, d1⟩, ⟨_, d2⟩, ⟨_, d3⟩, ⟨_, d4⟩⟩
end
/-- the places above a place: those whose programs reach behind it -/
structure AbE (E : List Nat) (i sz : Nat) (above : List Nat) : Prop where
  d : ∀ j < i, E.getD j 0 ≤ i ∨ i + sz ≤ E.getD j 0
  f : ((List.range i).filter fun j => decide (i < E.getD j 0)) = above
theorem endsTs_le : ∀ (ps : List Pt) (i : Nat), ∀ x ∈ endsTs i ps, x ≤ i + sizeTs ps
  | [], _, x, h => by
    rw [endsTs] at h
    exact absurd h List.not_mem_nil
  | .mk b h as :: r, i, x, hx => by
    rw [endsTs, endsT] at hx
    rw [sizeTs, sizeT]
    rcases List.mem_append.mp hx with hx | hx
    · rcases List.mem_cons.mp hx with rfl | hx
      · omega
      · have := endsTs_le as (i + 1) x hx
        omega
    · have := endsTs_le r (i + sizeT (.mk b h as)) x hx
      rw [sizeT] at this
      omega
theorem filter_cut {f g : Nat → Bool} {i c : Nat} (hic : i < c) (h1 : ∀ j < i, f j = g j) (h2 : f i = true) (h3 : ∀ j, i < j → j < c → f j = false) : (List.range c).filter f = (List.range i).filter g ++ [i] := by
  have e : List.range c = List.range i ++ (i :: (List.range (c - (i + 1))).map fun k => i + 1 + k) := by
    have e1 : c = (i + 1) + (c - (i + 1)) := by omega
    conv => lhs; rw [e1, List.range_add, List.range_succ]
    rw [List.append_assoc]
    rfl
  rw [e, List.filter_append, List.filter_cons, h2]
  congr 1
  · exact List.filter_congr fun j hj => h1 j (List.mem_range.mp hj)
  · rw [if_pos rfl, List.filter_eq_nil_iff.mpr fun x hx => ?_]
    obtain ⟨k, hk, rfl⟩ := List.mem_map.mp hx
    have hk := List.mem_range.mp hk
    rw [h3 _ (by omega) (by omega)]
    decide
theorem AbE.kid {E : List Nat} {b bd i : Nat} {h : Str} {pre post : List Pt} {q : Pt} {above : List Nat} {ns : List Nod} {K : List (List Nat)} {B : List Nat} (a : AtP ns K B E (.mk b h (pre ++ q :: post)) bd i) (ab : AbE E i (sizeT (.mk b h (pre ++ q :: post))) above) : AbE E (i + 1 + sizeTs pre) (sizeT q) (above ++ [i]) := by
  have hq := size_pos q
  have hsz : sizeT (.mk b h (pre ++ q :: post)) = 1 + (sizeTs pre + (sizeT q + sizeTs post)) := by rw [sizeT, sizeTs_app, sizeTs]
  have hi : E.getD i 0 = i + sizeT (.mk b h (pre ++ q :: post)) := by
    rw [List.getD_eq_getElem?_getD, a.endd]
    rfl
  have hmid : ∀ j, i < j → j < i + 1 + sizeTs pre → E.getD j 0 ≤ i + 1 + sizeTs pre := by
    intro j h1 h2
    obtain ⟨r, e⟩ := a.e
    rw [endsT, endsTs_app, List.cons_append, List.append_assoc] at e
    have e2 : E[j]? = (endsTs (i + 1) pre)[j - (i + 1)]? := by
      have e3 : (E.drop i)[j - i]? = E[j]? := by rw [List.getElem?_drop]; congr 1; omega
      rw [← e3, e, show j - i = (j - (i + 1)) + 1 by omega, List.getElem?_cons_succ, List.getElem?_append_left (by rw [endsTs_len]; omega)]
    rw [List.getD_eq_getElem?_getD, e2]
    have hl : j - (i + 1) < (endsTs (i + 1) pre).length := by rw [endsTs_len]; omega
    rw [List.getElem?_eq_getElem hl]
    exact endsTs_le pre (i + 1) _ (List.getElem_mem hl)
  constructor
  · intro j hj
    by_cases h1 : j < i
    · rcases ab.d j h1 with h2 | h2
      · exact .inl (by omega)
      · exact .inr (by omega)
    · by_cases h3 : j = i
      · subst h3
        exact .inr (by omega)
      · exact .inl (hmid j (by omega) hj)
  · rw [filter_cut (f := fun j => decide (i + 1 + sizeTs pre < E.getD j 0)) (g := fun j => decide (i < E.getD j 0)) (i := i) (c := i + 1 + sizeTs pre) (by omega) (fun j hj => ?_) (decide_eq_true (by omega)) fun j h1 h2 => decide_eq_false (by have := hmid j h1 h2; omega), ab.f]
    refine decide_eq_decide.mpr ?_
    rcases ab.d j hj with h2 | h2 <;> omega
end KP
/-! KP48: trees with heads in their scope are programs; their texts. -/
namespace KP
open PySem L2 FP
variable [FP.Tabl]
/-- a head: one of some words, or a variable in scope -/
def scH (W : Str → Prop) (inner : Nat) (h : Str) : Prop := W h ∨ ∃ k, k < inner ∧ h = xS k
mutual
def scT (W : Str → Prop) : Nat → Pt → Prop
  | bd, .mk b h as => b ≤ 15 ∧ as.length ≤ 15 ∧ bd + b ≤ 100 ∧ scH W (bd + b) h ∧ scTs W (bd + b) as
def scTs (W : Str → Prop) : Nat → List Pt → Prop
  | _, [] => True
  | bd, p :: r => scT W bd p ∧ scTs W bd r
end
theorem scTs_mem {W : Str → Prop} {bd : Nat} : ∀ {ps : List Pt}, scTs W bd ps → ∀ p ∈ ps, scT W bd p
  | [], _, p, h => absurd h List.not_mem_nil
  | q :: r, hs, p, h => by
    rw [scTs] at hs
    rcases List.mem_cons.mp h with rfl | h
    · exact hs.1
    · exact scTs_mem hs.2 p h
theorem letter_no_digit : ∀ c ∈ letters, c ∉ digL := by decide +kernel
theorem word_level {z : Str} (h : isWordS z = true) : levelS z = none := by
  have hl := word_letters h
  unfold levelS
  split
  · rename_i x a e
    rw [e] at hl
    rw [if_neg]
    rintro ⟨_, h2⟩
    exact letter_no_digit a (hl a (by simp)) h2
  · rename_i x a b e
    rw [e] at hl
    rw [if_neg]
    rintro ⟨_, h2, _⟩
    exact letter_no_digit a (hl a (by simp)) h2
  · rfl
/-- the words that are meant are words -/
def WordsP (W : Str → Prop) : Prop := ∀ h, W h → isWordS h = true
section
variable {W : Str → Prop} (hW : WordsP W)
include hW
theorem scH.g {inner : Nat} {h : Str} (hi : inner ≤ 100) (o : scH W inner h) : headG h = true := by
  unfold headG
  rcases o with o | ⟨k, hk, rfl⟩
  · rw [hW h o]
    rfl
  · rw [(x_level k (by omega)).1]
    simp
theorem scH.row {bd b c : Nat} {h : Str} (hi : bd + b ≤ 100) (o : scH W (bd + b) h) : rowOk bd (b, h, c) = true := by
  unfold rowOk
  rw [decide_eq_true (show bd + b ≤ 100 from hi), Bool.true_and]
  rcases o with o | ⟨k, hk, rfl⟩
  · show (match levelS h with | none => true | some l => decide (l < ((bd + b : Nat) : Int))) = true
    rw [word_level (hW h o)]
  · show (match levelS (xS k) with | none => true | some l => decide (l < ((bd + b : Nat) : Int))) = true
    rw [(x_level k (by omega)).1]
    exact decide_eq_true (by omega)
omit hW in
theorem rows_app : ∀ (a c : List Nat) (x y : List Nod), a.length = x.length → rowsOk (a ++ c) (x ++ y) = (rowsOk a x && rowsOk c y)
  | [], c, [], y, _ => rfl
  | [], _, _ :: _, _, h => by cases h
  | _ :: _, _, [], _, h => by cases h
  | a :: as, c, x :: xs, y, h => by
    show (rowOk a x && rowsOk (as ++ c) (xs ++ y)) = ((rowOk a x && rowsOk as xs) && rowsOk c y)
    rw [rows_app as c xs y (Nat.succ.inj h), Bool.and_assoc]
mutual
theorem rows_T : ∀ (p : Pt) (bd : Nat), scT W bd p → rowsOk (bndsT bd p) (nodesT p) = true
  | .mk b h as, bd, o => by
    rw [scT] at o
    rw [bndsT, nodesT]
    show (rowOk bd (b, h, as.length) && rowsOk (bndsTs (bd + b) as) (nodesTs as)) = true
    rw [scH.row hW o.2.2.1 o.2.2.2.1, rows_Ts as (bd + b) o.2.2.2.2]
    rfl
theorem rows_Ts : ∀ (ps : List Pt) (bd : Nat), scTs W bd ps → rowsOk (bndsTs bd ps) (nodesTs ps) = true
  | [], bd, _ => by
    rw [bndsTs, nodesTs]
    rfl
  | p :: r, bd, o => by
    rw [scTs] at o
    rw [bndsTs, nodesTs, rows_app _ _ _ _ (by rw [bndsT_len, nodes_len]), rows_T p bd o.1, rows_Ts r bd o.2]
    rfl
end
mutual
theorem good_T : ∀ (p : Pt) (bd : Nat), scT W bd p → ∀ n ∈ nodesT p, NodG n ∧ scH W 100 n.2.1
  | .mk b h as, bd, o, n, hn => by
    rw [scT] at o
    rw [nodesT] at hn
    rcases List.mem_cons.mp hn with rfl | hn
    · exact ⟨⟨o.1, o.2.1, scH.g hW o.2.2.1 o.2.2.2.1⟩, o.2.2.2.1.imp (fun x => x) fun ⟨k, hk, e⟩ => ⟨k, by omega, e⟩⟩
    · exact good_Ts as (bd + b) o.2.2.2.2 n hn
theorem good_Ts : ∀ (ps : List Pt) (bd : Nat), scTs W bd ps → ∀ n ∈ nodesTs ps, NodG n ∧ scH W 100 n.2.1
  | [], bd, _, n, hn => by
    rw [nodesTs] at hn
    exact absurd hn List.not_mem_nil
  | p :: r, bd, o, n, hn => by
    rw [scTs] at o
    rw [nodesTs] at hn
    rcases List.mem_append.mp hn with hn | hn
    · exact good_T p bd o.1 n hn
    · exact good_Ts r bd o.2 n hn
end
theorem are_T {p : Pt} (o : scT W 0 p) (h40 : sizeT p ≤ 40) : areP (.tup ((nodesT p).map nodD)) = true := by
  have h1 := size_pos p
  show (decide (1 ≤ ((nodesT p).map nodD).length) && (decide (((nodesT p).map nodD).length ≤ 40) && (((nodesT p).map nodD).all isNodeD && areN (((nodesT p).map nodD).map toNod)))) = true
  rw [toNods, List.length_map, nodes_len, decide_eq_true h1, decide_eq_true h40]
  have e : ((nodesT p).map nodD).all isNodeD = true := by
    rw [List.all_eq_true]
    intro x hx
    obtain ⟨n, hn, rfl⟩ := List.mem_map.mp hx
    exact nod_isNode (good_T hW p 0 o n hn).1
  rw [e]
  unfold areN
  rw [kidsP_T, bndsP_T, rows_T hW p 0 o]
  rfl
theorem scH.ok {h : Str} (o : scH W 100 h) : PyData.strOk h = true ∧ okStr h ∧ h.length ≤ 8 := by
  rcases o with o | ⟨k, hk, rfl⟩
  · exact ⟨(strOk_iff h).mpr (word_ok (hW h o)).2, word_ok (hW h o), (word_len (hW h o)).2⟩
  · have hx := headW.ok (.inr ⟨k, hk, rfl⟩)
    refine ⟨hx.1, hx.2, ?_⟩
    unfold xS
    rw [str_len, str_app, List.length_append, ← str_len, ← str_len]
    have h2 := x_len k hk
    have h1 : ("x" : Str).length = 1 := by decide +kernel
    omega
theorem sh_T {p : Pt} {bd n : Nat} (o : scT W bd p) : shDs (n + 1) ((nodesT p).map nodD) = true := shDs_of fun x hx => by
  obtain ⟨m, hm, rfl⟩ := List.mem_map.mp hx
  exact sh_tup (sh_cons sh_int (sh_cons (sh_str (scH.ok hW (good_T hW p bd o m hm).2).1) (sh_cons sh_int sh_nil)))
end
/-! ### texts -/
def xsL (bd b : Nat) : List Str := (List.range b).map fun k => xS (bd + k)
def headT (bd b : Nat) : Str := if b = 0 then "" else (("\\" : Str) ++ Str.join " " (xsL bd b)) ++ ". "
def flatT : Pt → Bool
  | .mk b _ as => decide (b = 0) && as.isEmpty
def parT (f : Bool) (t : Str) : Str := if f = true then t else (("(" : Str) ++ t) ++ ")"
mutual
def textT : Nat → Pt → Str
  | bd, .mk b h as => headT bd b ++ Str.join " " (h :: argsT (bd + b) as)
def argsT : Nat → List Pt → List Str
  | _, [] => []
  | bd, q :: r => parT (flatT q) (textT bd q) :: argsT bd r
end
theorem argsT_map (bd : Nat) : ∀ as : List Pt, argsT bd as = as.map fun q => parT (flatT q) (textT bd q)
  | [] => by rw [argsT, List.map_nil]
  | q :: r => by rw [argsT, argsT_map bd r, List.map_cons]
theorem join1_len (ys : List Str) : (Str.join " " ys).length ≤ (ys.map (·.length)).sum + ys.length * 1 := by
  have h := StrLaws.join_length_le " " ys
  have h1 : (" " : Str).length = 1 := by decide +kernel
  rw [h1] at h
  exact h
theorem xS_len {k : Nat} (h : k < 100) : (xS k).length ≤ 3 := by
  unfold xS
  rw [len_app]
  have h2 := x_len k h
  have h1 : ("x" : Str).length = 1 := by decide +kernel
  omega
theorem names_sum {bd b : Nat} (h : bd + b ≤ 100) : ((xsL bd b).map (·.length)).sum ≤ 3 * b := by
  induction b with
  | zero => exact Nat.le_refl 0
  | succ b ih =>
    have ih := ih (by omega)
    have hx := xS_len (k := bd + b) (by omega)
    unfold xsL at ih ⊢
    rw [List.range_succ, List.map_append, List.map_append, List.sum_append]
    show _ + ((xS (bd + b)).length + 0) ≤ _
    omega
theorem xsL_len (bd b : Nat) : (xsL bd b).length = b := by
  unfold xsL
  rw [List.length_map, List.length_range]
theorem headT_len {bd b : Nat} (hb : b ≤ 15) (h : bd + b ≤ 100) : (headT bd b).length ≤ 63 := by
  unfold headT
  split
  · exact Nat.zero_le _
  · have e1 : ("\\" : Str).length = 1 := by decide +kernel
    have e2 : (". " : Str).length = 2 := by decide +kernel
    have h1 := join1_len (xsL bd b)
    have h2 := names_sum h
    rw [xsL_len] at h1
    rw [len_app, len_app]
    omega
theorem parT_len (f : Bool) (t : Str) : (parT f t).length ≤ t.length + 2 := by
  unfold parT
  split
  · omega
  · have e1 : ("(" : Str).length = 1 := by decide +kernel
    have e2 : (")" : Str).length = 1 := by decide +kernel
    rw [len_app, len_app]
    omega
section
variable {W : Str → Prop} (hW : WordsP W)
include hW
theorem scH.len {inner : Nat} {h : Str} (hi : inner ≤ 100) (o : scH W inner h) : h.length ≤ 8 := (scH.ok hW (o.imp (fun x => x) fun ⟨k, hk, e⟩ => ⟨k, by omega, e⟩)).2.2
mutual
theorem txt_len : ∀ (p : Pt) (bd : Nat), scT W bd p → (textT bd p).length + 3 ≤ 83 * sizeT p
  | .mk b h as, bd, o => by
    rw [scT] at o
    have h1 := headT_len o.1 o.2.2.1
    have h2 := scH.len hW o.2.2.1 o.2.2.2.1
    have h3 := args_len as (bd + b) o.2.2.2.2
    have h4 := join1_len (h :: argsT (bd + b) as)
    rw [List.map_cons, List.sum_cons, List.length_cons] at h4
    rw [textT, len_app, sizeT]
    omega
theorem args_len : ∀ (ps : List Pt) (bd : Nat), scTs W bd ps → ((argsT bd ps).map (·.length)).sum + (argsT bd ps).length ≤ 83 * sizeTs ps
  | [], bd, _ => by
    rw [argsT]
    exact Nat.zero_le _
  | p :: r, bd, o => by
    rw [scTs] at o
    have h1 := txt_len p bd o.1
    have h2 := args_len r bd o.2
    have h3 := parT_len (flatT p) (textT bd p)
    have h4 := size_pos p
    rw [argsT, List.map_cons, List.sum_cons, List.length_cons, sizeTs]
    omega
end
end
end KP
/-! KP49: what the defs of programs promise; small steps. -/
namespace KP
open PySem L2 FP
variable [FP.Tabl]
/-- a program at hand -/
structure PG (W : Str → Prop) (p : Pt) : Prop where
  w : WordsP W
  s : scT W 0 p
  z : sizeT p ≤ 40
def progT (p : Pt) : List (Str × D) := [("own_nodes", .tup ((nodesT p).map nodD)), ("own_kids", .tup ((kidsT 0 p).map kidD)), ("own_ends", .tup (natsD (endsT 0 p))), ("own_bound", .tup (natsD (bndsT 0 p)))]
theorem progF_T (p : Pt) : progF ((nodesT p).map nodD) = progT p := by
  rw [progF_eq (kidsP_T p), endsP_T, bndsP_T]
  rfl
def progD (p : Pt) : D := .ins "Program" (progT p)
/-! ### texts -/
/-! ### programs told -/
def f_initPN : List D → ((List (Str × D)) → Prop) → (XD → Prop) → Prop := fun ds Q Ex => match ds with
  | [d] => f_initP [d] Q Ex ∨ ∃ p : Pt, d = .ins "Nodes" [("told_nodes", .tup ((nodesT p).map nodD))] ∧ sizeT p ≤ 900 ∧ Q (progT p)
  | _ => False
def f_nodesT : List D → M D := fun ds Q _ => match ds with
  | [x] => ∃ p : Pt, x = progD p ∧ Q (.tup ((nodesT p).map nodD))
  | _ => False
/-- a tree at a place of a program -/
def AtT (p q : Pt) (bd i : Nat) : Prop := AtP (nodesT p) (kidsT 0 p) (bndsT 0 p) (endsT 0 p) q bd i
theorem AtT.lt {p q : Pt} {bd i : Nat} (h : AtT p q bd i) : i + sizeT q ≤ sizeT p := by
  obtain ⟨r, e⟩ := h.n
  have h1 := congrArg List.length e
  rw [List.length_drop, List.length_append, nodes_len, nodes_len] at h1
  have := size_pos q
  omega
/-! ### order and equality of nodes -/
/-! ### other words -/
/-! ### small steps -/
section
variable {ρ : FP.Env} {f fo fe fa : DTE} {g : DTA} {gs : DTS} {N : Nd} {i : Nat}
theorem ev_joinS {a : Str} {ys : List Str} (ho : Ev fo ρ (.str a)) (he : Ev fe ρ (.lst (ys.map D.str))) (h : (ys.map (·.length)).sum + ys.length * a.length ≤ 16777216) : Ev (dJoin fo fe) ρ (.str (Str.join a ys)) := fun Q E q => ho _ _ (he _ _ ⟨ys, strsD_map ys, h, by
  rw [txt_join]
  exact q⟩)
end
end KP
/-! KP50: small facts for the defs of programs. -/
namespace KP
open PySem L2 FP
variable [FP.Tabl]
theorem isi_own (c : Str) (fs : List (Str × D)) : isiD [c] (fun _ => true) (.ins c fs) = some true := by
  show (if c ∈ [c] then some true else none) = some true
  rw [if_pos List.mem_cons_self]
/-! ### dicts of words -/
end KP
/-! KP51: drawn plain programs with some words; law k15 in plain words. -/
namespace KP
open PySem L2 FP
variable [FP.Tabl]
/-! ### drawn -/
def f_lptext (d : Nat) : List D → M D := fun ds Q _ => match ds with
  | [x, .int bd'] => ∃ (W : Str → Prop) (p : Pt) (bd : Nat), WordsP W ∧ x = ptD p ∧ bd' = (bd : Int) ∧ scT W bd p ∧ sizeT p < d ∧ sizeT p ≤ 60 ∧ Q (.str (textT bd p))
  | _ => False
theorem nope_lptext (ds : List D) (Q : D → Prop) (E : XD → Prop) (h : f_lptext 0 ds Q E) : False := by
  unfold f_lptext at h
  split at h
  · obtain ⟨_, _, _, _, _, _, _, h, _⟩ := h
    omega
  · exact h
/-! ### words of a drawn program -/
/-! ### shown -/
end KP
/-! KP52: what a program tells, shown; the end of law k15. -/
namespace KP
open PySem L2 FP
/-! ### the other words of the law -/
end KP
/-! KP53: law k15: small steps and the last program. -/
namespace KP
open PySem L2 FP
variable [FP.Tabl]
section
variable {ρ : FP.Env} {f f1 f2 : DTE} {g : DTA} {gs : DTS} {N : Nd} {i j : Nat}
theorem end_app {xs : List D} (h : ρ[i]? = some (.own xs)) (d : D) (hs : xs.length < sizeLine) (hf : Ev f ρ d) (hn : N.nx (ρ.set i (.own (xs ++ [d])))) : dApp i f N ρ := by
  show dApp i f N ρ
  unfold dApp
  rw [h]
  exact hf _ _ ⟨hs, hn⟩
theorem seq_parP (P1 P2 : D → Prop) (h1 : EvP f1 ρ P1) (h2 : EvP f2 ρ P2) (hg : ∀ d d2, P1 d → P2 d2 → gs N ((ρ.set i (.d d)).set j (.d d2))) : dSeq (dPar i j (dCons f1 (dCons f2 dNil))) gs N ρ := h1 _ _ fun d p => h2 _ _ fun d2 p2 => hg d d2 p p2
end
end KP
/-! KP54: programs of a kind: the law's own look, and the frames of the nodes in preorder. -/
namespace KP
open PySem L2 FP
variable [FP.Tabl]
def headK (L : Lib) (sc : List Kd) (h : Str) : Option Kd := match levelS h with
  | none => getL L h
  | some i => sc[i.toNat]?
abbrev Fr := Kd × List Kd × Kd
mutual
def hasK (L : Lib) : Kd → List Kd → Pt → Bool
  | g, sc, .mk b h as => match headK L (sc ++ g.as) h with
    | none => false
    | some k => decide (k.a = g.a) && (decide (b = g.as.length) && (decide (as.length = k.as.length) && hasKs L k.as (sc ++ g.as) as))
def hasKs (L : Lib) : List Kd → List Kd → List Pt → Bool
  | _, _, [] => true
  | gs, sc, p :: ps => match gs with
    | [] => true
    | g :: gr => hasK L g sc p && hasKs L gr sc ps
end
mutual
def framesT (L : Lib) : Kd → List Kd → Pt → List Fr
  | g, sc, .mk b h as => (g, sc ++ g.as, (headK L (sc ++ g.as) h).getD g) :: framesTs L ((headK L (sc ++ g.as) h).getD g).as (sc ++ g.as) as
def framesTs (L : Lib) : List Kd → List Kd → List Pt → List Fr
  | _, _, [] => []
  | gs, sc, p :: ps => match gs with
    | [] => []
    | g :: gr => framesT L g sc p ++ framesTs L gr sc ps
end
theorem hasK_eq (L : Lib) (g : Kd) (sc : List Kd) (b : Nat) (h : Str) (as : List Pt) {k : Kd} (hk : headK L (sc ++ g.as) h = some k) : hasK L g sc (.mk b h as) = (decide (k.a = g.a) && (decide (b = g.as.length) && (decide (as.length = k.as.length) && hasKs L k.as (sc ++ g.as) as))) := by
  rw [hasK]
  rw [hk]
theorem hasK_no (L : Lib) (g : Kd) (sc : List Kd) (b : Nat) (h : Str) (as : List Pt) (hk : headK L (sc ++ g.as) h = none) : hasK L g sc (.mk b h as) = false := by
  rw [hasK]
  rw [hk]
theorem hasK_mk {L : Lib} {g : Kd} {sc : List Kd} {b : Nat} {h : Str} {as : List Pt} (hh : hasK L g sc (.mk b h as) = true) : ∃ k, headK L (sc ++ g.as) h = some k ∧ k.a = g.a ∧ b = g.as.length ∧ as.length = k.as.length ∧ hasKs L k.as (sc ++ g.as) as = true := by
  cases hk : headK L (sc ++ g.as) h with
  | none =>
    rw [hasK_no L g sc b h as hk] at hh
    cases hh
  | some k =>
    rw [hasK_eq L g sc b h as hk] at hh
    simp only [Bool.and_eq_true, decide_eq_true_eq] at hh
    exact ⟨k, rfl, hh.1, hh.2.1, hh.2.2.1, hh.2.2.2⟩
mutual
theorem fr_len (L : Lib) : ∀ (p : Pt) (g : Kd) (sc : List Kd), hasK L g sc p = true → (framesT L g sc p).length = sizeT p
  | .mk b h as, g, sc, hh => by
    obtain ⟨k, hk, _, _, hl, hs⟩ := hasK_mk hh
    rw [framesT, List.length_cons, sizeT, hk, Nat.add_comm]
    congr 1
    exact fr_lens L as k.as (sc ++ g.as) hl.symm hs
theorem fr_lens (L : Lib) : ∀ (ps : List Pt) (gs : List Kd) (sc : List Kd), gs.length = ps.length → hasKs L gs sc ps = true → (framesTs L gs sc ps).length = sizeTs ps
  | [], gs, sc, _, _ => by rw [framesTs, sizeTs]; rfl
  | p :: ps, g :: gs, sc, hl, hs => by
    rw [hasKs, Bool.and_eq_true] at hs
    rw [framesTs, List.length_append, sizeTs, fr_len L p g sc hs.1, fr_lens L ps gs sc (Nat.succ.inj hl) hs.2]
end
theorem frs_app (L : Lib) : ∀ (ps qs : List Pt) (gs hs : List Kd) (sc : List Kd), gs.length = ps.length → framesTs L (gs ++ hs) sc (ps ++ qs) = framesTs L gs sc ps ++ framesTs L hs sc qs
  | [], qs, [], hs, sc, _ => by
    rw [List.nil_append, List.nil_append]
    conv => rhs; unfold framesTs
    cases qs <;> rfl
  | p :: ps, qs, g :: gs, hs, sc, hl => by
    rw [List.cons_append, List.cons_append, framesTs, framesTs]
    rw [frs_app L ps qs gs hs sc (Nat.succ.inj hl), List.append_assoc]
theorem hasKs_app (L : Lib) : ∀ (ps qs : List Pt) (gs hs : List Kd) (sc : List Kd), gs.length = ps.length → hasKs L (gs ++ hs) sc (ps ++ qs) = (hasKs L gs sc ps && hasKs L hs sc qs)
  | [], qs, [], hs, sc, _ => by
    rw [List.nil_append, List.nil_append]
    conv => rhs; unfold hasKs
    cases qs <;> rfl
  | p :: ps, qs, g :: gs, hs, sc, hl => by
    rw [List.cons_append, List.cons_append, hasKs, hasKs]
    rw [hasKs_app L ps qs gs hs sc (Nat.succ.inj hl), Bool.and_assoc]
/-- the frames of a tree at a place -/
structure AtF (fs : List Fr) (ns : List Nod) (L : Lib) (g : Kd) (sc : List Kd) (p : Pt) (i : Nat) : Prop where
  f : ∃ r, fs.drop i = framesT L g sc p ++ r
  n : ∃ r, ns.drop i = nodesT p ++ r
  h : hasK L g sc p = true
theorem AtF.get {fs : List Fr} {ns : List Nod} {L : Lib} {g : Kd} {sc : List Kd} {b : Nat} {h : Str} {as : List Pt} {i : Nat} (a : AtF fs ns L g sc (.mk b h as) i) : ∃ k, headK L (sc ++ g.as) h = some k ∧ k.a = g.a ∧ as.length = k.as.length ∧ fs[i]? = some (g, sc ++ g.as, k) := by
  obtain ⟨k, hk, ha, _, hl, _⟩ := hasK_mk a.h
  obtain ⟨r, e⟩ := a.f
  rw [framesT, hk, List.cons_append] at e
  exact ⟨k, hk, ha, hl, head_at e⟩
theorem AtF.kid {fs : List Fr} {ns : List Nod} {L : Lib} {g : Kd} {sc : List Kd} {b : Nat} {h : Str} {pre post : List Pt} {q : Pt} {i : Nat} {k j : Kd} {gs hs : List Kd} (a : AtF fs ns L g sc (.mk b h (pre ++ q :: post)) i) (hk : headK L (sc ++ g.as) h = some k) (hg : k.as = gs ++ j :: hs) (hl : gs.length = pre.length) : AtF fs ns L j (sc ++ g.as) q (i + 1 + sizeTs pre) := by
  obtain ⟨⟨r1, e1⟩, ⟨r2, e2⟩, hh⟩ := a
  obtain ⟨k', hk', _, _, _, hs'⟩ := hasK_mk hh
  rw [hk] at hk'
  cases hk'
  rw [hg, hasKs_app L _ _ _ _ _ hl, Bool.and_eq_true, hasKs, Bool.and_eq_true] at hs'
  rw [framesT, hk] at e1
  dsimp only [Option.getD_some] at e1
  rw [hg, frs_app L _ _ _ _ _ hl, framesTs, List.cons_append, List.append_assoc, List.append_assoc, ← List.cons_append] at e1
  rw [nodesT, nodesTs_app, nodesTs, List.cons_append, List.append_assoc, List.append_assoc, ← List.cons_append] at e2
  have d1 := drop_at e1 (n := 1 + sizeTs pre) (by rw [List.length_cons, fr_lens L _ _ _ hl hs'.1]; omega)
  have d2 := drop_at e2 (n := 1 + sizeTs pre) (by rw [List.length_cons, nodes_lens]; omega)
  rw [← Nat.add_assoc] at d1 d2
  exact ⟨⟨_, d1⟩, ⟨_, d2⟩, hs'.2.1⟩
/-! ### more parts -/
/-! ### the law's own words -/
def wL17 : List Str := ["f", "g", "h", "k", "z", "s", "p", "y", "w"]
def hd17 (h : Str) : Prop := h ∈ wL17 ∨ ∃ k, k < 100 ∧ h = xS k
structure K17 (L : Lib) : Prop where
  g : LibG L
  w : ∀ z ∈ keysL L, z ∈ wL17
  p : ∀ q ∈ L, (places q.2).length ≤ 5
  n1 : 1 ≤ L.length
  n5 : L.length ≤ 5
theorem K17.get {L : Lib} (K : K17 L) {z : Str} {k : Kd} (h : getL L z = some k) : Good k ∧ (places k).length ≤ 5 ∧ z ∈ wL17 := ⟨K.g.kid h, K.p _ (getL_some h), K.w z (List.mem_map.mpr ⟨_, getL_some h, rfl⟩)⟩
/-- a kind of the law: good, five places at most -/
def KB (k : Kd) : Prop := Good k ∧ (places k).length ≤ 5
theorem KB.as {k : Kd} (h : KB k) : k.as.length ≤ 4 ∧ ∀ j ∈ k.as, KB j := by
  cases k with
  | mk as a =>
    have hp := h.2
    rw [places, List.length_append] at hp
    have hp : (placesL as).length + 1 ≤ 5 := hp
    have hl := length_placesL as
    refine ⟨by show as.length ≤ 4; omega, fun j hj => ⟨h.1.kid hj, ?_⟩⟩
    have : (places j).length ≤ (placesL as).length := by
      obtain ⟨xs, ys, rfl⟩ := List.append_of_mem hj
      rw [placesL_app, placesL, List.length_append, List.length_append]
      omega
    omega
def N17 (m : Nat) (p : Pt) : Prop := ∀ n ∈ nodesT p, n.1 ≤ m ∧ n.2.2 ≤ 4 ∧ hd17 n.2.1
end KP
/-! KP55: programs of a kind are programs; near ones. -/
namespace KP
open PySem L2 FP
variable [FP.Tabl]
theorem nodesTs_mem {ps : List Pt} {p : Pt} {n : Nod} (hp : p ∈ ps) (hn : n ∈ nodesT p) : n ∈ nodesTs ps := by
  obtain ⟨xs, ys, rfl⟩ := List.append_of_mem hp
  rw [nodesTs_app, nodesTs]
  exact List.mem_append_right _ (List.mem_append_left _ hn)
theorem N17.kid {m : Nat} {b : Nat} {h : Str} {as : List Pt} (hn : N17 m (.mk b h as)) {p : Pt} (hp : p ∈ as) : N17 m p := fun n hn' => hn n (by rw [nodesT]; exact List.mem_cons_of_mem _ (nodesTs_mem hp hn'))
/-- the same shape with other labels -/
def cnt (ns : List Nod) : List Nat := ns.map fun n => n.2.2
end KP
/-! KP56: what the package's defs about programs of a kind promise. -/
namespace KP
open PySem L2 FP
end KP
/-! KP57: what law k17's own defs promise. -/
namespace KP
open PySem L2 FP
variable [FP.Tabl]
/-! ### heads by the law's own look -/
section
variable {ρ : FP.Env} {f fa fb : DTE} {N : Nd}
theorem ret_p (P : D → Prop) (hf : EvP f ρ P) (hq : ∀ d, P d → N.rt d ρ) : dRet f N ρ := hf _ _ hq
end
end KP
/-! KP58: small steps for law k17. -/
namespace KP
open PySem L2 FP
variable [FP.Tabl]
section
variable {ρ : FP.Env} {f fa fb : DTE} {k : Kd}
theorem ev_lenL {xs : List D} (h : Ev f ρ (.lst xs)) : Ev (dCB rdLen (dCons f dNil)) ρ (.int (xs.length : Nat)) := ev_cb (a1 h a0) fun Q q => q
theorem ev_rng {n : Nat} (hn : n ≤ 1000) (h : Ev f ρ (.int (n : Nat))) : EvI (dIRng1 (dCons f dNil)) ρ ((List.range n).map fun k : Nat => D.int ((0 : Int) + k)) := fun Q E q => h _ _ ⟨by omega, by omega, by
  rw [Int.toNat_natCast]
  exact q⟩
end
theorem len_strs (zs : List Str) : (zs.map D.str).length = zs.length := List.length_map _
end KP
namespace KP
open PySem L2 FP
variable [FP.Tabl]
section
variable {ρ : FP.Env} {f fa fb : DTE} {g : DTS} {N : Nd} {c : DTT} {f1 f2 : DTS}
theorem ev_notN {p : Pt} (h : Ev f ρ (ptD p)) : EvT (dB (dOp rdIsNot f (dC .non))) ρ true := b_v (ev_op (x := ptD p) (y := .non) h (fun Q E q => q) fun Q q => by
  cases p with
  | mk b h as =>
    rw [ptD_eq]
    exact q)
end
end KP
/-! KP59: law k16: the tokens of a program's text, and Reader's binders on them. -/
namespace KP
open PySem L2 FP
variable [FP.Tabl]
/-- the tokens of bound names, behind the sign of a binder -/
def binT (bd : Nat) : Nat → List Str
  | 0 => []
  | 1 => [xS bd, ". "]
  | b + 2 => xS bd :: " " :: binT (bd + 1) (b + 1)
def headToks (bd b : Nat) : List Str := if b = 0 then [] else ("\\" : Str) :: binT bd b
mutual
/-- the tokens of a program's text -/
def toksT : Nat → Pt → List Str
  | bd, .mk b h as => headToks bd b ++ h :: argToks (bd + b) as
def argToks : Nat → List Pt → List Str
  | _, [] => []
  | bd, p :: r => ((" " : Str) :: (if flatT p = true then toksT bd p else ("(" : Str) :: (toksT bd p ++ [(")" : Str)]))) ++ argToks bd r
end
/-- Reader.binders behind the sign of a binder: how many, and what is left -/
def bindP (bd : Nat) : Nat → List Str → Option (Nat × List Str)
  | _, [] => none
  | _, [_] => none
  | cnt, t :: s :: r => if t = xS (bd + cnt) then (if s = " " then bindP bd (cnt + 1) r else if s = ". " then some (cnt + 1, r) else none) else none
theorem sp_dot : ¬ (". " : Str) = " " := by decide +kernel
theorem bind_all (bd : Nat) : ∀ (b cnt : Nat) (r : List Str), bindP bd cnt (binT (bd + cnt) (b + 1) ++ r) = some (cnt + (b + 1), r)
  | 0, cnt, r => by
    show bindP bd cnt (xS (bd + cnt) :: ". " :: r) = _
    rw [bindP, if_pos rfl, if_neg sp_dot, if_pos rfl]
  | b + 1, cnt, r => by
    show bindP bd cnt (xS (bd + cnt) :: " " :: (binT (bd + cnt + 1) (b + 1) ++ r)) = _
    rw [bindP, if_pos rfl, if_pos rfl]
    have h := bind_all bd b (cnt + 1) r
    rw [← Nat.add_assoc] at h
    rw [h]
    congr 2
    omega
theorem bind_sound (bd : Nat) : ∀ (n cnt : Nat) (ts : List Str) (c : Nat) (r : List Str), ts.length ≤ n → bindP bd cnt ts = some (c, r) → ∃ b, c = cnt + (b + 1) ∧ ts = binT (bd + cnt) (b + 1) ++ r
  | _, _, [], _, _, _, h => by rw [bindP] at h; cases h
  | _, _, [_], _, _, _, h => by rw [bindP] at h; cases h
  | 0, _, _ :: _ :: _, _, _, hl, _ => by
    rw [List.length_cons] at hl
    omega
  | n + 1, cnt, t :: s :: r', c, r, hl, h => by
    rw [bindP] at h
    by_cases h1 : t = xS (bd + cnt)
    · rw [if_pos h1] at h
      by_cases h2 : s = " "
      · rw [if_pos h2] at h
        rw [List.length_cons, List.length_cons] at hl
        obtain ⟨b, e1, e2⟩ := bind_sound bd n (cnt + 1) r' c r (by omega) h
        refine ⟨b + 1, by omega, ?_⟩
        rw [h1, h2, e2]
        rfl
      · rw [if_neg h2] at h
        by_cases h3 : s = ". "
        · rw [if_pos h3] at h
          cases h
          exact ⟨0, rfl, by rw [h1, h3]; rfl⟩
        · rw [if_neg h3] at h
          cases h
    · rw [if_neg h1] at h
      cases h
end KP
/-! KP60: law k16: Reader's state by frames. -/
namespace KP
open PySem L2 FP
variable [FP.Tabl]
/-- an open program: binders, head, finished arguments -/
structure Fm where
  b : Nat
  h : Str
  as : List Pt
/-- the nodes of open programs from the root on -/
def nodesF : List Fm → List Nod
  | [] => []
  | [f] => (f.b, f.h, f.as.length) :: nodesTs f.as
  | f :: g :: r => (f.b, f.h, f.as.length + 1) :: (nodesTs f.as ++ nodesF (g :: r))
/-- the places and bounds of open programs -/
def openF : Nat → Nat → List Fm → List (Nat × Nat)
  | _, _, [] => []
  | i, bd, f :: r => (i, bd + f.b) :: openF (i + (1 + sizeTs f.as)) (bd + f.b) r
/-- the tokens taken for open programs -/
def toksF : Nat → List Fm → List Str
  | _, [] => []
  | bd, [f] => headToks bd f.b ++ f.h :: argToks (bd + f.b) f.as
  | bd, f :: g :: r => (headToks bd f.b ++ f.h :: argToks (bd + f.b) f.as) ++ (" " : Str) :: ("(" : Str) :: toksF (bd + f.b) (g :: r)
theorem argToks_app (bd : Nat) : ∀ (ps qs : List Pt), argToks bd (ps ++ qs) = argToks bd ps ++ argToks bd qs
  | [], qs => by rw [List.nil_append, argToks, List.nil_append]
  | p :: r, qs => by rw [List.cons_append, argToks, argToks, argToks_app bd r qs, List.append_assoc]
/-- the last open program gets an argument -/
def pushF (p : Pt) : List Fm → List Fm
  | [] => []
  | [f] => [⟨f.b, f.h, f.as ++ [p]⟩]
  | f :: g :: r => f :: pushF p (g :: r)
def bdF : Nat → List Fm → Nat
  | bd, [] => bd
  | bd, f :: r => bdF (bd + f.b) r
theorem toks_push (p : Pt) : ∀ (fs : List Fm) (bd : Nat), fs ≠ [] → toksF bd (pushF p fs) = toksF bd fs ++ argToks (bdF bd fs) [p]
  | [], _, h => absurd rfl h
  | [f], bd, _ => by
    show headToks bd f.b ++ f.h :: argToks (bd + f.b) (f.as ++ [p]) = (headToks bd f.b ++ f.h :: argToks (bd + f.b) f.as) ++ argToks (bd + f.b) [p]
    rw [argToks_app, List.append_assoc, List.cons_append]
  | f :: g :: r, bd, _ => by
    have h := toks_push p (g :: r) (bd + f.b) (by simp)
    have e : ∃ g' r', pushF p (g :: r) = g' :: r' := by
      cases r with
      | nil => exact ⟨_, _, rfl⟩
      | cons _ _ => exact ⟨_, _, rfl⟩
    obtain ⟨g', r', e⟩ := e
    show toksF bd (f :: pushF p (g :: r)) = _
    rw [e] at h ⊢
    rw [toksF, h, toksF]
    show _ = _ ++ argToks (bdF (bd + f.b) (g :: r)) [p]
    simp only [List.append_assoc, List.cons_append]
theorem push_ne (p : Pt) : ∀ {fs : List Fm}, fs ≠ [] → pushF p fs ≠ []
  | [], h => absurd rfl h
  | [_], _ => by intro q; cases q
  | _ :: _ :: _, _ => by intro q; cases q
/-- a finished program becomes an argument: the nodes are the same -/
theorem nodes_close (l : Fm) : ∀ (fs : List Fm), fs ≠ [] → nodesF (fs ++ [l]) = nodesF (pushF (.mk l.b l.h l.as) fs)
  | [], h => absurd rfl h
  | [f], _ => by
    show (f.b, f.h, f.as.length + 1) :: (nodesTs f.as ++ ((l.b, l.h, l.as.length) :: nodesTs l.as)) = (f.b, f.h, (f.as ++ [Pt.mk l.b l.h l.as]).length) :: nodesTs (f.as ++ [Pt.mk l.b l.h l.as])
    rw [nodesTs_app, nodesTs, nodesTs, nodesT, List.append_nil, List.length_append]
    rfl
  | f :: g :: r, _ => by
    have h := nodes_close l (g :: r) (by simp)
    obtain ⟨g', r', e⟩ : ∃ g' r', pushF (Pt.mk l.b l.h l.as) (g :: r) = g' :: r' := by
      cases r with
      | nil => exact ⟨_, _, rfl⟩
      | cons _ _ => exact ⟨_, _, rfl⟩
    show (f.b, f.h, f.as.length + 1) :: (nodesTs f.as ++ nodesF (g :: r ++ [l])) = nodesF (f :: pushF (Pt.mk l.b l.h l.as) (g :: r))
    rw [h, e]
    rfl
def idxF : List Fm → Nat
  | [] => 0
  | [_] => 0
  | f :: g :: r => 1 + sizeTs f.as + idxF (g :: r)
/-- the last open program's node -/
def lastF : List Fm → Fm
  | [] => ⟨0, Str.empty, []⟩
  | [f] => f
  | _ :: g :: r => lastF (g :: r)
theorem nodes_leaf (h : Str) : ∀ (fs : List Fm), fs ≠ [] → (nodesF fs).set (idxF fs) ((lastF fs).b, (lastF fs).h, (lastF fs).as.length + 1) ++ [(0, h, 0)] = nodesF (pushF (.mk 0 h []) fs)
  | [], q => absurd rfl q
  | [f], _ => by
    show ((f.b, f.h, f.as.length + 1) :: nodesTs f.as) ++ [((0 : Nat), h, (0 : Nat))] = (f.b, f.h, (f.as ++ [Pt.mk 0 h []]).length) :: nodesTs (f.as ++ [Pt.mk 0 h []])
    rw [nodesTs_app, nodesTs, nodesTs, nodesT, nodesTs, List.append_nil, List.length_append]
    rfl
  | f :: g :: r, _ => by
    have ih := nodes_leaf h (g :: r) (by simp)
    obtain ⟨g', r', e⟩ : ∃ g' r', pushF (Pt.mk 0 h []) (g :: r) = g' :: r' := by
      cases r with
      | nil => exact ⟨_, _, rfl⟩
      | cons _ _ => exact ⟨_, _, rfl⟩
    show ((f.b, f.h, f.as.length + 1) :: (nodesTs f.as ++ nodesF (g :: r))).set (1 + sizeTs f.as + idxF (g :: r)) ((lastF (g :: r)).b, (lastF (g :: r)).h, (lastF (g :: r)).as.length + 1) ++ [(0, h, 0)] = nodesF (f :: pushF (Pt.mk 0 h []) (g :: r))
    rw [e] at ih ⊢
    rw [show 1 + sizeTs f.as + idxF (g :: r) = (sizeTs f.as + idxF (g :: r)) + 1 by omega, List.set_cons_succ, List.set_append_right _ _ (by rw [nodes_lens]; omega), nodes_lens, Nat.add_sub_cancel_left]
    show (f.b, f.h, f.as.length + 1) :: (nodesTs f.as ++ (nodesF (g :: r)).set (idxF (g :: r)) ((lastF (g :: r)).b, (lastF (g :: r)).h, (lastF (g :: r)).as.length + 1) ++ [(0, h, 0)]) = (f.b, f.h, f.as.length + 1) :: (nodesTs f.as ++ nodesF (g' :: r'))
    rw [List.append_assoc, ih]
end KP
/-! KP61: law k16: Reader as a machine on frames: sound and complete. -/
namespace KP
open PySem L2 FP
variable [FP.Tabl]
def szF (fs : List Fm) : Nat := (nodesF fs).length
theorem szF_cons (f : Fm) (r : List Fm) : szF (f :: r) = 1 + sizeTs f.as + szF r := by
  unfold szF
  cases r with
  | nil =>
    show ((f.b, f.h, f.as.length) :: nodesTs f.as).length = 1 + sizeTs f.as + 0
    rw [List.length_cons, nodes_lens]
    omega
  | cons g r =>
    show ((f.b, f.h, f.as.length + 1) :: (nodesTs f.as ++ nodesF (g :: r))).length = _
    rw [List.length_cons, List.length_append, nodes_lens]
    omega
theorem szF_snoc : ∀ (fs : List Fm) (g : Fm), szF (fs ++ [g]) = szF fs + (1 + sizeTs g.as)
  | [], g => by
    rw [List.nil_append, szF_cons]
    show _ + 0 = 0 + _
    omega
  | f :: r, g => by rw [List.cons_append, szF_cons, szF_cons, szF_snoc r g]; omega
theorem szF_push (p : Pt) : ∀ {fs : List Fm}, fs ≠ [] → szF (pushF p fs) = szF fs + sizeT p
  | [], h => absurd rfl h
  | [f], _ => by
    show szF [⟨f.b, f.h, f.as ++ [p]⟩] = _
    rw [szF_cons, szF_cons]
    show 1 + sizeTs (f.as ++ [p]) + 0 = 1 + sizeTs f.as + 0 + sizeT p
    rw [sizeTs_app, sizeTs, sizeTs]
    omega
  | f :: g :: r, _ => by
    show szF (f :: pushF p (g :: r)) = _
    rw [szF_cons, szF_cons f, szF_push p (fs := g :: r) (by simp)]
    omega
theorem open_snoc (g : Fm) : ∀ (fs : List Fm) (i bd : Nat), openF i bd (fs ++ [g]) = openF i bd fs ++ [(i + szF fs, bdF bd fs + g.b)]
  | [], i, bd => rfl
  | f :: r, i, bd => by
    show (i, bd + f.b) :: openF (i + (1 + sizeTs f.as)) (bd + f.b) (r ++ [g]) = (i, bd + f.b) :: (openF (i + (1 + sizeTs f.as)) (bd + f.b) r ++ [(i + szF (f :: r), bdF (bd + f.b) r + g.b)])
    rw [open_snoc g r, szF_cons, Nat.add_assoc i]
theorem open_push (p : Pt) : ∀ (fs : List Fm) (i bd : Nat), openF i bd (pushF p fs) = openF i bd fs
  | [], _, _ => rfl
  | [f], _, _ => rfl
  | f :: g :: r, i, bd => by
    show (i, bd + f.b) :: openF (i + (1 + sizeTs f.as)) (bd + f.b) (pushF p (g :: r)) = _
    rw [open_push p (g :: r)]
    rfl
theorem open_last : ∀ (fs : List Fm) (i bd : Nat), fs ≠ [] → (openF i bd fs).getLast? = some (i + idxF fs, bdF bd fs)
  | [], _, _, h => absurd rfl h
  | [f], i, bd, _ => rfl
  | f :: g :: r, i, bd, _ => by
    show ((i, bd + f.b) :: openF (i + (1 + sizeTs f.as)) (bd + f.b) (g :: r)).getLast? = some (i + (1 + sizeTs f.as + idxF (g :: r)), bdF (bd + f.b) (g :: r))
    have h := open_last (g :: r) (i + (1 + sizeTs f.as)) (bd + f.b) (by simp)
    rw [List.getLast?_cons, h, Option.getD_some, Nat.add_assoc]
theorem bd_push (p : Pt) : ∀ (fs : List Fm) (bd : Nat), bdF bd (pushF p fs) = bdF bd fs
  | [], _ => rfl
  | [f], _ => rfl
  | f :: g :: r, bd => by
    show bdF (bd + f.b) (pushF p (g :: r)) = bdF (bd + f.b) (g :: r)
    exact bd_push p (g :: r) _
theorem bd_snoc (g : Fm) : ∀ (fs : List Fm) (bd : Nat), bdF bd (fs ++ [g]) = bdF bd fs + g.b
  | [], bd => rfl
  | f :: r, bd => bd_snoc g r (bd + f.b)
theorem nodes_at : ∀ (fs : List Fm), fs ≠ [] → (nodesF fs)[idxF fs]? = some ((lastF fs).b, (lastF fs).h, (lastF fs).as.length)
  | [], h => absurd rfl h
  | [f], _ => rfl
  | f :: g :: r, _ => by
    show ((f.b, f.h, f.as.length + 1) :: (nodesTs f.as ++ nodesF (g :: r)))[1 + sizeTs f.as + idxF (g :: r)]? = some ((lastF (g :: r)).b, (lastF (g :: r)).h, (lastF (g :: r)).as.length)
    rw [show 1 + sizeTs f.as + idxF (g :: r) = (sizeTs f.as + idxF (g :: r)) + 1 by omega, List.getElem?_cons_succ, List.getElem?_append_right (by rw [nodes_lens]; omega), nodes_lens, Nat.add_sub_cancel_left]
    exact nodes_at (g :: r) (by simp)
theorem nodes_begin (b : Nat) (h : Str) : ∀ (fs : List Fm), fs ≠ [] → (nodesF fs).set (idxF fs) ((lastF fs).b, (lastF fs).h, (lastF fs).as.length + 1) ++ [(b, h, 0)] = nodesF (fs ++ [⟨b, h, []⟩])
  | [], q => absurd rfl q
  | [f], _ => by
    show ((f.b, f.h, f.as.length + 1) :: nodesTs f.as) ++ [(b, h, (0 : Nat))] = (f.b, f.h, f.as.length + 1) :: (nodesTs f.as ++ ((b, h, 0) :: nodesTs []))
    rw [nodesTs]
    rfl
  | f :: g :: r, _ => by
    have ih := nodes_begin b h (g :: r) (by simp)
    show ((f.b, f.h, f.as.length + 1) :: (nodesTs f.as ++ nodesF (g :: r))).set (1 + sizeTs f.as + idxF (g :: r)) ((lastF (g :: r)).b, (lastF (g :: r)).h, (lastF (g :: r)).as.length + 1) ++ [(b, h, 0)] = (f.b, f.h, f.as.length + 1) :: (nodesTs f.as ++ nodesF (g :: r ++ [⟨b, h, []⟩]))
    rw [← ih, show 1 + sizeTs f.as + idxF (g :: r) = (sizeTs f.as + idxF (g :: r)) + 1 by omega, List.set_cons_succ, List.set_append_right _ _ (by rw [nodes_lens]; omega), nodes_lens, Nat.add_sub_cancel_left, List.cons_append, List.append_assoc]
theorem lastF_snoc (g : Fm) : ∀ fs : List Fm, lastF (fs ++ [g]) = g
  | [] => rfl
  | [_] => rfl
  | f :: g' :: r => by
    show lastF (g' :: r ++ [g]) = g
    exact lastF_snoc g (g' :: r)
theorem snocF {fs : List Fm} (h : fs ≠ []) : ∃ r, fs = r ++ [lastF fs] := by
  refine ⟨fs.dropLast, ?_⟩
  have e := List.dropLast_concat_getLast h
  have e2 : lastF fs = fs.getLast h := by
    have e3 := lastF_snoc (fs.getLast h) fs.dropLast
    rw [e] at e3
    exact e3
  rw [e2, e]
theorem toks_snoc (g : Fm) : ∀ (fs : List Fm) (bd : Nat), fs ≠ [] → toksF bd (fs ++ [g]) = toksF bd fs ++ (" " : Str) :: ("(" : Str) :: toksF (bdF bd fs) [g]
  | [], _, h => absurd rfl h
  | [f], bd, _ => rfl
  | f :: f2 :: r, bd, _ => by
    show (headToks bd f.b ++ f.h :: argToks (bd + f.b) f.as) ++ (" " : Str) :: ("(" : Str) :: toksF (bd + f.b) (f2 :: r ++ [g]) = ((headToks bd f.b ++ f.h :: argToks (bd + f.b) f.as) ++ (" " : Str) :: ("(" : Str) :: toksF (bd + f.b) (f2 :: r)) ++ (" " : Str) :: ("(" : Str) :: toksF (bdF (bd + f.b) (f2 :: r)) [g]
    rw [toks_snoc g (f2 :: r) (bd + f.b) (by simp)]
    simp only [List.append_assoc, List.cons_append]
/-! ### the machine -/
def okG (h : Str) : Bool := isWordS h || (levelS h).isSome || decide (h = ("?" : Str))
def bindHd (bd : Nat) : List Str → Option (Nat × List Str)
  | [] => some (0, [])
  | t :: r => if t = ("\\" : Str) then bindP bd 0 r else some (0, t :: r)
def newF (fs : List Fm) (r : List Str) : Option (List Fm × List Str) :=
  match bindHd (bdF 0 fs) r with
  | none => none
  | some (c, r') => if okG (r'.headD "") = true ∧ szF fs + 1 ≤ 40 then some (fs ++ [⟨c, r'.headD "", []⟩], r'.tail) else none
def leafF (fs : List Fm) (r : List Str) : Option (List Fm × List Str) :=
  if okG (r.headD "") = true ∧ szF fs + 1 ≤ 40 then some (pushF (.mk 0 (r.headD "") []) fs, r.tail) else none
def closeF (fs : List Fm) (r : List Str) : Option (List Fm × List Str) :=
  if fs.dropLast ≠ [] ∧ (0 < (lastF fs).b ∨ 0 < (lastF fs).as.length) then some (pushF (.mk (lastF fs).b (lastF fs).h (lastF fs).as) fs.dropLast, r) else none
def goF (fs : List Fm) : List Str → Option (List Fm × List Str)
  | [] => none
  | t :: r => if t = (")" : Str) then closeF fs r else if t = (" " : Str) then (if r.headD "" = ("(" : Str) then newF fs r.tail else leafF fs r) else none
def runF : Nat → List Fm → List Str → Option (List Fm)
  | _, fs, [] => some fs
  | 0, _, _ :: _ => none
  | n + 1, fs, t :: r => match goF fs (t :: r) with
    | none => none
    | some (fs', r') => runF n fs' r'
theorem bindHd_cons (bd : Nat) (t : Str) (r : List Str) : bindHd bd (t :: r) = if t = ("\\" : Str) then bindP bd 0 r else some (0, t :: r) := rfl
theorem goF_cons (fs : List Fm) (t : Str) (r : List Str) : goF fs (t :: r) = if t = (")" : Str) then closeF fs r else if t = (" " : Str) then (if r.headD "" = ("(" : Str) then newF fs r.tail else leafF fs r) else none := rfl
theorem bindHd_sound {bd : Nat} {ts : List Str} {c : Nat} {r : List Str} (h : bindHd bd ts = some (c, r)) : ts = headToks bd c ++ r := by
  cases ts with
  | nil =>
    cases h
    rfl
  | cons t ts =>
    rw [bindHd_cons] at h
    by_cases q : t = ("\\" : Str)
    · rw [if_pos q] at h
      obtain ⟨b, e1, e2⟩ := bind_sound bd _ 0 ts c r (Nat.le_refl _) h
      subst e1
      unfold headToks
      rw [if_neg (by omega), q, e2, show 0 + (b + 1) = b + 1 by omega]
      rfl
    · rw [if_neg q] at h
      cases h
      rfl
theorem okG_ne (h : Str) (hh : okG h = true) : h ≠ "" ∧ h ≠ ("\\" : Str) ∧ h ≠ ("(" : Str) ∧ h ≠ (")" : Str) := by
  refine ⟨?_, ?_, ?_, ?_⟩ <;> (rintro rfl; revert hh; decide +kernel)
theorem bindHd_all (bd b : Nat) {h : Str} (hh : okG h = true) (r : List Str) : bindHd bd (headToks bd b ++ h :: r) = some (b, h :: r) := by
  cases b with
  | zero =>
    show bindHd bd (h :: r) = _
    rw [bindHd_cons]
    rw [if_neg (okG_ne h hh).2.1]
  | succ b =>
    unfold headToks
    rw [if_neg (by omega)]
    show bindHd bd (("\\" : Str) :: (binT bd (b + 1) ++ h :: r)) = _
    rw [bindHd_cons]
    rw [if_pos rfl]
    have e := bind_all bd b 0 (h :: r)
    rw [Nat.add_zero] at e
    rw [e, Nat.zero_add]
theorem head_tail {r : List Str} (h : okG (r.headD "") = true) : r = r.headD "" :: r.tail := by
  cases r with
  | nil => exact absurd rfl (okG_ne _ h).1
  | cons t r => rfl
mutual
def okHT : Pt → Prop
  | .mk _ h as => okG h = true ∧ okHTs as
def okHTs : List Pt → Prop
  | [] => True
  | p :: r => okHT p ∧ okHTs r
end
theorem newF_toks {fs fs' : List Fm} {r r' : List Str} (hn : fs ≠ []) (h : newF fs r = some (fs', r')) : fs' ≠ [] ∧ toksF 0 fs' ++ r' = toksF 0 fs ++ (" " : Str) :: ("(" : Str) :: r := by
  unfold newF at h
  cases q : bindHd (bdF 0 fs) r with
  | none =>
    rw [q] at h
    cases h
  | some x =>
    obtain ⟨c, r2⟩ := x
    rw [q] at h
    dsimp only at h
    split at h
    · rename_i ho
      cases h
      refine ⟨by simp, ?_⟩
      rw [toks_snoc _ _ _ hn, bindHd_sound q]
      show (toksF 0 fs ++ (" " : Str) :: ("(" : Str) :: (headToks (bdF 0 fs) c ++ r2.headD "" :: argToks (bdF 0 fs + c) [])) ++ r2.tail = _
      have e := head_tail ho.1
      rw [argToks]
      rw (config := { occs := .pos [3] }) [e]
      simp only [List.append_assoc, List.cons_append, List.nil_append]
    · cases h
theorem new0_toks {fs' : List Fm} {r r' : List Str} (h : newF [] r = some (fs', r')) : fs' ≠ [] ∧ toksF 0 fs' ++ r' = r := by
  unfold newF at h
  cases q : bindHd (bdF 0 []) r with
  | none =>
    rw [q] at h
    cases h
  | some x =>
    obtain ⟨c, r2⟩ := x
    rw [q] at h
    dsimp only at h
    split at h
    · rename_i ho
      cases h
      refine ⟨by simp, ?_⟩
      rw [bindHd_sound q]
      show (headToks 0 c ++ r2.headD "" :: argToks (0 + c) []) ++ r2.tail = headToks 0 c ++ r2
      have e := head_tail ho.1
      rw [argToks]
      rw (config := { occs := .pos [3] }) [e]
      simp only [List.append_assoc, List.cons_append, List.nil_append]
    · cases h
theorem leaf_toks {fs fs' : List Fm} {r r' : List Str} (hn : fs ≠ []) (h : leafF fs r = some (fs', r')) : fs' ≠ [] ∧ toksF 0 fs' ++ r' = toksF 0 fs ++ (" " : Str) :: r := by
  unfold leafF at h
  split at h
  · rename_i ho
    cases h
    refine ⟨push_ne _ hn, ?_⟩
    rw [toks_push _ _ _ hn, argToks, argToks]
    have e : flatT (.mk 0 (r.headD "") []) = true := rfl
    rw [if_pos e, toksT, argToks]
    rw (config := { occs := .pos [3] }) [head_tail ho.1]
    show (toksF 0 fs ++ ((" " : Str) :: ([] ++ [r.headD ""]) ++ [])) ++ r.tail = _
    simp only [List.append_assoc, List.cons_append, List.nil_append]
  · cases h
theorem not_flat {f : Fm} (h : 0 < f.b ∨ 0 < f.as.length) : flatT (.mk f.b f.h f.as) = false := by
  show (decide (f.b = 0) && f.as.isEmpty) = false
  rcases h with h | h
  · rw [decide_eq_false (by omega)]
    rfl
  · rw [Bool.and_eq_false_iff]
    refine .inr ?_
    cases e : f.as with
    | nil =>
      rw [e] at h
      cases h
    | cons _ _ => rfl
theorem close_toks {fs fs' : List Fm} {r r' : List Str} (hn : fs ≠ []) (h : closeF fs r = some (fs', r')) : fs' ≠ [] ∧ toksF 0 fs' ++ r' = toksF 0 fs ++ (")" : Str) :: r := by
  unfold closeF at h
  split at h
  · rename_i ho
    cases h
    refine ⟨push_ne _ ho.1, ?_⟩
    obtain ⟨r0, e⟩ := snocF hn
    have hd : fs.dropLast = r0 := by rw [e, List.dropLast_concat]
    rw [hd] at ho ⊢
    generalize lastF fs = l at e ho ⊢
    subst e
    rw [toks_push _ _ _ ho.1, argToks, argToks, not_flat ho.2, if_neg Bool.false_ne_true, toksT, toks_snoc _ _ _ ho.1]
    show (toksF 0 r0 ++ ((" " : Str) :: ("(" : Str) :: ((headToks (bdF 0 r0) l.b ++ l.h :: argToks (bdF 0 r0 + l.b) l.as) ++ [(")" : Str)]) ++ [])) ++ r = (toksF 0 r0 ++ (" " : Str) :: ("(" : Str) :: (headToks (bdF 0 r0) l.b ++ l.h :: argToks (bdF 0 r0 + l.b) l.as)) ++ (")" : Str) :: r
    simp only [List.append_assoc, List.cons_append, List.nil_append]
  · cases h
theorem go_toks {fs fs' : List Fm} {r r' : List Str} (hn : fs ≠ []) (h : goF fs r = some (fs', r')) : fs' ≠ [] ∧ toksF 0 fs' ++ r' = toksF 0 fs ++ r := by
  cases r with
  | nil => cases h
  | cons t r =>
    rw [goF_cons] at h
    split at h
    · rename_i e
      rw [e]
      exact close_toks hn h
    · split at h
      · rename_i e
        rw [e]
        split at h
        · rename_i e2
          cases r with
          | nil => exact absurd e2 (by decide +kernel)
          | cons t2 r2 =>
            have e2 : t2 = ("(" : Str) := e2
            rw [e2]
            exact newF_toks hn h
        · exact leaf_toks hn h
      · cases h
theorem run_toks : ∀ (n : Nat) (fs fs' : List Fm) (r : List Str), fs ≠ [] → runF n fs r = some fs' → fs' ≠ [] ∧ toksF 0 fs' = toksF 0 fs ++ r
  | n, fs, fs', [], hn, h => by
    have h : some fs = some fs' := by
      rw [← h]
      cases n <;> rfl
    cases h
    exact ⟨hn, by rw [List.append_nil]⟩
  | 0, _, _, _ :: _, _, h => by cases h
  | n + 1, fs, fs', t :: r, hn, h => by
    unfold runF at h
    cases q : goF fs (t :: r) with
    | none =>
      rw [q] at h
      cases h
    | some x =>
      obtain ⟨fs2, r2⟩ := x
      rw [q] at h
      obtain ⟨h1, h2⟩ := go_toks hn q
      obtain ⟨h3, h4⟩ := run_toks n fs2 fs' r2 h1 h
      exact ⟨h3, by rw [h4, h2]⟩
end KP
/-! KP62: law k16: the machine reads every program's tokens. -/
namespace KP
open PySem L2 FP
variable [FP.Tabl]
theorem newF_len {fs fs' : List Fm} {r r' : List Str} (h : newF fs r = some (fs', r')) : r'.length < r.length := by
  unfold newF at h
  cases q : bindHd (bdF 0 fs) r with
  | none =>
    rw [q] at h
    cases h
  | some x =>
    obtain ⟨c, r2⟩ := x
    rw [q] at h
    dsimp only at h
    split at h
    · rename_i ho
      cases h
      rw [bindHd_sound q, List.length_append]
      have e := congrArg List.length (head_tail ho.1)
      rw [List.length_cons] at e
      omega
    · cases h
theorem go_len {fs fs' : List Fm} {r r' : List Str} (h : goF fs r = some (fs', r')) : r'.length < r.length := by
  cases r with
  | nil => cases h
  | cons t r =>
    rw [goF_cons] at h
    split at h
    · unfold closeF at h
      split at h
      · cases h
        rw [List.length_cons]
        omega
      · cases h
    · split at h
      · split at h
        · have e := newF_len h
          rw [List.length_tail] at e
          rw [List.length_cons]
          omega
        · unfold leafF at h
          split at h
          · cases h
            rw [List.length_tail, List.length_cons]
            omega
          · cases h
      · cases h
theorem runF_nil (n : Nat) (fs : List Fm) : runF n fs [] = some fs := by cases n <;> rfl
theorem runF_fuel : ∀ (n m : Nat) (fs : List Fm) (r : List Str), r.length ≤ n → r.length ≤ m → runF n fs r = runF m fs r
  | n, m, fs, [], _, _ => by rw [runF_nil, runF_nil]
  | 0, _, _, _ :: _, h, _ => by simp at h
  | _, 0, _, _ :: _, _, h => by simp at h
  | n + 1, m + 1, fs, t :: r, h, h' => by
    unfold runF
    cases q : goF fs (t :: r) with
    | none => rfl
    | some x =>
      obtain ⟨fs2, r2⟩ := x
      have e := go_len q
      dsimp only
      rw [List.length_cons] at h h' e
      exact runF_fuel n m fs2 r2 (by omega) (by omega)
def runP (fs : List Fm) (r : List Str) : Option (List Fm) := runF r.length fs r
theorem runP_nil (fs : List Fm) : runP fs [] = some fs := rfl
theorem runP_none {fs : List Fm} {t : Str} {r : List Str} (h : goF fs (t :: r) = none) : runP fs (t :: r) = none := by
  unfold runP
  rw [List.length_cons, runF, h]
theorem runP_some {fs fs' : List Fm} {t : Str} {r r' : List Str} (h : goF fs (t :: r) = some (fs', r')) : runP fs (t :: r) = runP fs' r' := by
  unfold runP
  have e := go_len h
  rw [List.length_cons] at e ⊢
  rw [runF, h]
  exact runF_fuel _ _ _ _ (by omega) (Nat.le_refl _)
def pushL (as : List Pt) (fs : List Fm) : List Fm := as.foldl (fun fs p => pushF p fs) fs
theorem push_snoc (p : Pt) (b : Nat) (h : Str) (as : List Pt) : ∀ fs : List Fm, pushF p (fs ++ [⟨b, h, as⟩]) = fs ++ [⟨b, h, as ++ [p]⟩]
  | [] => rfl
  | [f] => rfl
  | f :: g :: r => by
    show f :: pushF p (g :: r ++ [⟨b, h, as⟩]) = f :: (g :: r ++ [⟨b, h, as ++ [p]⟩])
    rw [push_snoc p b h as (g :: r)]
theorem pushL_snoc (b : Nat) (h : Str) (fs : List Fm) : ∀ (as as0 : List Pt), pushL as (fs ++ [⟨b, h, as0⟩]) = fs ++ [⟨b, h, as0 ++ as⟩]
  | [], as0 => by
    rw [List.append_nil]
    rfl
  | p :: as, as0 => by
    show pushL as (pushF p (fs ++ [⟨b, h, as0⟩])) = _
    rw [push_snoc, pushL_snoc b h fs as (as0 ++ [p]), List.append_assoc]
    rfl
theorem newF_all {fs : List Fm} (b : Nat) {h : Str} (hh : okG h = true) (hs : szF fs + 1 ≤ 40) (r : List Str) : newF fs (headToks (bdF 0 fs) b ++ h :: r) = some (fs ++ [⟨b, h, []⟩], r) := by
  unfold newF
  rw [bindHd_all _ _ hh]
  dsimp only
  rw [if_pos ⟨hh, hs⟩]
  rfl
theorem sp_par : ¬ (" " : Str) = ")" := by decide +kernel
theorem go_leaf {fs : List Fm} {h : Str} (hh : okG h = true) (hs : szF fs + 1 ≤ 40) (r : List Str) : goF fs ((" " : Str) :: h :: r) = some (pushF (.mk 0 h []) fs, r) := by
  rw [goF_cons]
  rw [if_neg sp_par, if_pos rfl]
  show (if h = ("(" : Str) then newF fs r else leafF fs (h :: r)) = _
  rw [if_neg (okG_ne h hh).2.2.1]
  unfold leafF
  rw [if_pos ⟨hh, hs⟩]
  rfl
theorem go_new {fs : List Fm} (b : Nat) {h : Str} (hh : okG h = true) (hs : szF fs + 1 ≤ 40) (r : List Str) : goF fs ((" " : Str) :: ("(" : Str) :: (headToks (bdF 0 fs) b ++ h :: r)) = some (fs ++ [⟨b, h, []⟩], r) := by
  rw [goF_cons]
  rw [if_neg sp_par, if_pos rfl]
  show (if ("(" : Str) = ("(" : Str) then newF fs (headToks (bdF 0 fs) b ++ h :: r) else _) = _
  rw [if_pos rfl]
  exact newF_all b hh hs r
theorem go_close {fs : List Fm} {b : Nat} {h : Str} {as : List Pt} (hn : fs ≠ []) (hf : flatT (.mk b h as) = false) (r : List Str) : goF (fs ++ [⟨b, h, as⟩]) ((")" : Str) :: r) = some (pushF (.mk b h as) fs, r) := by
  rw [goF_cons]
  rw [if_pos rfl]
  unfold closeF
  rw [List.dropLast_concat, lastF_snoc, if_pos]
  refine ⟨hn, ?_⟩
  have hf : (decide (b = 0) && as.isEmpty) = false := hf
  cases b with
  | succ b => exact .inl (by show 0 < b + 1; omega)
  | zero =>
    cases as with
    | nil => cases hf
    | cons a as => exact .inr (by show 0 < (a :: as).length; rw [List.length_cons]; omega)
theorem flat_shape : ∀ {p : Pt}, flatT p = true → ∃ h, p = .mk 0 h []
  | .mk b h as, e => by
    have e : (decide (b = 0) && as.isEmpty) = true := e
    rw [Bool.and_eq_true] at e
    have h1 := of_decide_eq_true e.1
    have h2 := List.isEmpty_iff.mp e.2
    subst h1
    subst h2
    exact ⟨h, rfl⟩
mutual
theorem all_T : ∀ (p : Pt) (fs : List Fm) (r : List Str), fs ≠ [] → okHT p → szF fs + sizeT p ≤ 40 → runP fs (argToks (bdF 0 fs) [p] ++ r) = runP (pushF p fs) r
  | .mk b h as, fs, r, hn, ho, hs => by
    rw [okHT] at ho
    rw [sizeT] at hs
    rw [argToks, argToks, List.append_nil]
    cases hf : flatT (.mk b h as) with
    | true =>
      obtain ⟨h', e⟩ := flat_shape hf
      cases e
      rw [if_pos rfl, toksT, argToks]
      show runP fs ((" " : Str) :: h :: r) = _
      exact runP_some (go_leaf ho.1 (by omega) r)
    | false =>
      rw [if_neg Bool.false_ne_true, toksT]
      have e : (" " : Str) :: ("(" : Str) :: (headToks (bdF 0 fs) b ++ h :: argToks (bdF 0 fs + b) as ++ [(")" : Str)]) ++ r = (" " : Str) :: ("(" : Str) :: (headToks (bdF 0 fs) b ++ h :: (argToks (bdF 0 fs + b) as ++ (")" : Str) :: r)) := by
        simp only [List.append_assoc, List.cons_append, List.nil_append]
      rw [e, runP_some (go_new b ho.1 (by omega) _)]
      have h2 := all_Ts as (fs ++ [⟨b, h, []⟩]) ((")" : Str) :: r) (by simp) ho.2 (by
        rw [szF_snoc]
        show szF fs + (1 + sizeTs []) + sizeTs as ≤ 40
        rw [sizeTs]
        omega)
      rw [bd_snoc] at h2
      rw [h2, pushL_snoc, List.nil_append]
      exact runP_some (go_close hn hf r)
theorem all_Ts : ∀ (as : List Pt) (fs : List Fm) (r : List Str), fs ≠ [] → okHTs as → szF fs + sizeTs as ≤ 40 → runP fs (argToks (bdF 0 fs) as ++ r) = runP (pushL as fs) r
  | [], fs, r, _, _, _ => by
    rw [argToks]
    rfl
  | p :: as, fs, r, hn, ho, hs => by
    rw [okHTs] at ho
    rw [sizeTs] at hs
    have e : argToks (bdF 0 fs) (p :: as) = argToks (bdF 0 fs) [p] ++ argToks (bdF 0 fs) as := argToks_app _ [p] as
    rw [e, List.append_assoc, all_T p fs _ hn ho.1 (by omega)]
    have h2 := all_Ts as (pushF p fs) r (push_ne p hn) ho.2 (by rw [szF_push p hn]; omega)
    rw [bd_push] at h2
    exact h2
end
/-- what is read from tokens -/
def rdTk (ts : List Str) : Option Pt :=
  match newF [] ts with
  | none => none
  | some (fs, r) => match runP fs r with
    | some [f] => some (.mk f.b f.h f.as)
    | _ => none
theorem rdTk_sound {ts : List Str} {p : Pt} (h : rdTk ts = some p) : ts = toksT 0 p := by
  unfold rdTk at h
  cases q : newF [] ts with
  | none =>
    rw [q] at h
    cases h
  | some x =>
    obtain ⟨fs, r⟩ := x
    rw [q] at h
    dsimp only at h
    obtain ⟨h1, h2⟩ := new0_toks q
    cases q2 : runP fs r with
    | none =>
      rw [q2] at h
      cases h
    | some fs2 =>
      rw [q2] at h
      obtain ⟨h3, h4⟩ := run_toks _ fs fs2 r h1 q2
      match fs2, h with
      | [f], h =>
        cases h
        rw [← h2, ← h4, toksT]
        rfl
theorem rdTk_all {p : Pt} (ho : okHT p) (hs : sizeT p ≤ 40) : rdTk (toksT 0 p) = some p := by
  cases p with
  | mk b h as =>
  rw [okHT] at ho
  rw [sizeT] at hs
  unfold rdTk
  have e := newF_all (fs := []) b ho.1 (by show 0 + 1 ≤ 40; omega) (argToks (0 + b) as)
  rw [toksT]
  have e : newF [] (headToks 0 b ++ h :: argToks (0 + b) as) = some ([⟨b, h, []⟩], argToks (0 + b) as) := e
  rw [e]
  have h2 := all_Ts as [⟨b, h, []⟩] [] (by simp) ho.2 (by
    rw [szF_cons]
    show 1 + sizeTs [] + 0 + sizeTs as ≤ 40
    rw [sizeTs]
    omega)
  rw [List.append_nil] at h2
  have h2 : runP [⟨b, h, []⟩] (argToks (0 + b) as) = runP (pushL as [⟨b, h, []⟩]) [] := h2
  have h3 := pushL_snoc b h [] as []
  have h3 : pushL as [⟨b, h, []⟩] = [⟨b, h, as⟩] := h3
  dsimp only
  rw [h2, h3, runP_nil]
end KP
/-! KP63: law k16: the tokens of a text. -/
namespace KP
open PySem L2 FP
variable [FP.Tabl]
/-- letters and digits -/
def isA (c : Nat) : Bool := decide (c ∈ letters ++ digL)
def signL : List Nat := (" ()\\?" : Str).cps.toList
def tkO : Nat → List Nat → Option (List Str)
  | _, [] => some []
  | 0, _ :: _ => none
  | n + 1, c :: r =>
    if isA c = true then (tkO n (r.dropWhile isA)).map (List.cons (⟨(c :: r.takeWhile isA).toArray⟩ : Str))
    else if (c :: r).take 2 = [46, 32] then (tkO n (r.drop 1)).map (List.cons (". " : Str))
    else if c ∈ signL then (tkO n r).map (List.cons (⟨#[c]⟩ : Str))
    else none
def tkP (xs : List Nat) : Option (List Str) := tkO xs.length xs
theorem tkO_nil (n : Nat) : tkO n [] = some [] := by cases n <;> rfl
theorem tkO_fuel : ∀ (n m : Nat) (xs : List Nat), xs.length ≤ n → xs.length ≤ m → tkO n xs = tkO m xs
  | n, m, [], _, _ => by rw [tkO_nil, tkO_nil]
  | 0, _, _ :: _, h, _ => by simp at h
  | _, 0, _ :: _, _, h => by simp at h
  | n + 1, m + 1, c :: r, h, h' => by
    have h1 : r.length ≤ n := by simpa using h
    have h2 : r.length ≤ m := by simpa using h'
    have hd : (r.dropWhile isA).length ≤ r.length := (List.dropWhile_sublist isA).length_le
    have hp : (r.drop 1).length ≤ r.length := by simp
    rw [tkO, tkO, tkO_fuel n m _ (Nat.le_trans hd h1) (Nat.le_trans hd h2), tkO_fuel n m _ (Nat.le_trans hp h1) (Nat.le_trans hp h2), tkO_fuel n m r h1 h2]
theorem tkP_cons (c : Nat) (r : List Nat) : tkP (c :: r) =
    if isA c = true then (tkP (r.dropWhile isA)).map (List.cons (⟨(c :: r.takeWhile isA).toArray⟩ : Str))
    else if (c :: r).take 2 = [46, 32] then (tkP (r.drop 1)).map (List.cons (". " : Str))
    else if c ∈ signL then (tkP r).map (List.cons (⟨#[c]⟩ : Str))
    else none := by
  have hd : (r.dropWhile isA).length ≤ r.length := (List.dropWhile_sublist isA).length_le
  have hp : (r.drop 1).length ≤ r.length := by simp
  unfold tkP
  rw [List.length_cons, tkO, tkO_fuel r.length _ _ hd (Nat.le_refl _), tkO_fuel r.length _ _ hp (Nat.le_refl _)]
def catL (ts : List Str) : List Nat := (ts.map fun t => t.cps.toList).flatten
theorem catL_nil : catL [] = [] := rfl
theorem catL_cons (t : Str) (r : List Str) : catL (t :: r) = t.cps.toList ++ catL r := rfl
theorem catL_app : ∀ (a b : List Str), catL (a ++ b) = catL a ++ catL b
  | [], b => rfl
  | t :: r, b => by rw [List.cons_append, catL_cons, catL_cons, catL_app r b, List.append_assoc]
theorem tk_sound : ∀ (n : Nat) (xs : List Nat) (ts : List Str), xs.length ≤ n → tkP xs = some ts → catL ts = xs
  | n, [], ts, _, h => by
    cases h
    rfl
  | 0, _ :: _, _, h, _ => by simp at h
  | n + 1, c :: r, ts, hl, h => by
    have h1 : r.length ≤ n := by simpa using hl
    rw [tkP_cons] at h
    split at h
    · have hd : (r.dropWhile isA).length ≤ r.length := (List.dropWhile_sublist isA).length_le
      cases q : tkP (r.dropWhile isA) with
      | none =>
        rw [q] at h
        cases h
      | some ts2 =>
        rw [q] at h
        cases h
        rw [catL_cons, tk_sound n _ ts2 (Nat.le_trans hd h1) q]
        show c :: r.takeWhile isA ++ r.dropWhile isA = c :: r
        rw [List.cons_append, List.takeWhile_append_dropWhile]
    · split at h
      · rename_i ha
        cases q : tkP (r.drop 1) with
        | none =>
          rw [q] at h
          cases h
        | some ts2 =>
          rw [q] at h
          cases h
          rw [catL_cons, tk_sound n _ ts2 (by rw [List.length_drop]; omega) q]
          cases r with
          | nil => simp at ha
          | cons d r =>
            simp at ha
            rw [ha.1, ha.2]
            rfl
      · split at h
        · cases q : tkP r with
          | none =>
            rw [q] at h
            cases h
          | some ts2 =>
            rw [q] at h
            cases h
            rw [catL_cons, tk_sound n _ ts2 h1 q]
            rfl
        · cases h
/-! ### tokens that stand sepT -/
def isWtok (t : Str) : Bool := !t.cps.toList.isEmpty && t.cps.toList.all isA
def isStok (t : Str) : Bool := decide (t ∈ ([" ", "(", ")", "\\", "?", ". "] : List Str))
/-- no word behind a word -/
def sepT : Bool → List Str → Bool
  | _, [] => true
  | b, t :: r => (isWtok t && (!b && sepT true r)) || (isStok t && sepT false r)
theorem sepT_mono : ∀ {ts : List Str}, sepT true ts = true → sepT false ts = true
  | [], _ => rfl
  | t :: r, h => by
    have h : ((isWtok t && (!true && sepT true r)) || (isStok t && sepT false r)) = true := h
    show ((isWtok t && (!false && sepT true r)) || (isStok t && sepT false r)) = true
    cases q : (isStok t && sepT false r) with
    | true => rw [Bool.or_true]
    | false =>
      rw [q] at h
      simp at h
theorem takeWhile_app {p : Nat → Bool} : ∀ {a : List Nat} (b : List Nat), a.all p = true → (∀ c r, b = c :: r → p c = false) → (a ++ b).takeWhile p = a ∧ (a ++ b).dropWhile p = b
  | [], b, _, h => by
    cases b with
    | nil => exact ⟨rfl, rfl⟩
    | cons c r =>
      have e := h c r rfl
      rw [List.nil_append, List.takeWhile_cons, List.dropWhile_cons, e]
      exact ⟨rfl, rfl⟩
  | x :: a, b, ha, h => by
    rw [List.all_cons, Bool.and_eq_true] at ha
    obtain ⟨e1, e2⟩ := takeWhile_app b ha.2 h
    rw [List.cons_append, List.takeWhile_cons, List.dropWhile_cons, ha.1, if_pos rfl, if_pos rfl, e1, e2]
    exact ⟨rfl, rfl⟩
theorem sign_head : ∀ t ∈ ([" ", "(", ")", "\\", "?", ". "] : List Str), ∃ c r, t.cps.toList = c :: r ∧ isA c = false ∧ ((c ∈ signL ∧ r = [] ∧ c ≠ 46 ∧ t = ⟨#[c]⟩) ∨ (t = ". " ∧ c = 46 ∧ r = [32])) := by
  intro t ht
  simp only [List.mem_cons, List.not_mem_nil, or_false] at ht
  rcases ht with rfl | rfl | rfl | rfl | rfl | rfl
  · exact ⟨32, [], by decide +kernel⟩
  · exact ⟨40, [], by decide +kernel⟩
  · exact ⟨41, [], by decide +kernel⟩
  · exact ⟨92, [], by decide +kernel⟩
  · exact ⟨63, [], by decide +kernel⟩
  · exact ⟨46, [32], by decide +kernel⟩
theorem sepT_head {ts : List Str} (h : sepT true ts = true) : ∀ c r, catL ts = c :: r → isA c = false := by
  intro c r e
  cases ts with
  | nil => cases e
  | cons t ts =>
    have h : ((isWtok t && (!true && sepT true ts)) || (isStok t && sepT false ts)) = true := h
    have h : (isStok t && sepT false ts) = true := by simpa using h
    rw [Bool.and_eq_true] at h
    obtain ⟨c', r', e1, e2, _⟩ := sign_head t (of_decide_eq_true h.1)
    rw [catL_cons, e1] at e
    cases e
    exact e2
theorem tk_all : ∀ (ts : List Str) (b : Bool), sepT b ts = true → tkP (catL ts) = some ts
  | [], _, _ => rfl
  | t :: r, b, h => by
    have h : ((isWtok t && (!b && sepT true r)) || (isStok t && sepT false r)) = true := h
    rw [Bool.or_eq_true] at h
    rcases h with h | h
    · rw [Bool.and_eq_true, Bool.and_eq_true] at h
      obtain ⟨h1, h2, h3⟩ := h
      unfold isWtok at h1
      rw [Bool.and_eq_true] at h1
      cases e : t.cps.toList with
      | nil =>
        rw [e] at h1
        exact absurd h1.1 (by simp)
      | cons c w =>
        rw [e, List.all_cons, Bool.and_eq_true] at h1
        obtain ⟨e1, e2⟩ := takeWhile_app (catL r) h1.2.2 (sepT_head h3)
        rw [catL_cons, e, List.cons_append, tkP_cons, if_pos h1.2.1, e1, e2, tk_all r true h3]
        show some ((⟨(c :: w).toArray⟩ : Str) :: r) = some (t :: r)
        rw [← e]
    · rw [Bool.and_eq_true] at h
      obtain ⟨c, w, e1, e2, e3⟩ := sign_head t (of_decide_eq_true h.1)
      have hn : ¬ isA c = true := by rw [e2]; exact Bool.false_ne_true
      rcases e3 with ⟨h1, h2, h3, h4⟩ | ⟨h1, h2, h3⟩
      · subst h2
        rw [catL_cons, e1]
        show tkP (c :: catL r) = _
        rw [tkP_cons, if_neg hn, if_neg, if_pos h1, tk_all r false h.2, h4]
        · rfl
        · intro q
          rw [List.take_succ_cons] at q
          exact h3 (List.cons.inj q).1
      · subst h2
        subst h3
        rw [catL_cons, e1]
        show tkP (46 :: 32 :: catL r) = _
        rw [tkP_cons, if_neg hn, if_pos (show (46 :: 32 :: catL r).take 2 = [46, 32] from rfl)]
        show (tkP (catL r)).map _ = _
        rw [tk_all r false h.2, h1]
        rfl
/-! ### a program's text by its tokens -/
theorem joinH : ∀ (ws : List Str) (h : Str), (Str.join " " (h :: ws)).cps.toList = h.cps.toList ++ (ws.map fun w => 32 :: w.cps.toList).flatten
  | [], h => by
    show h.cps.toList = _
    rw [List.map_nil, List.flatten_nil, List.append_nil]
  | w :: r, h => by
    show (h ++ " " ++ Str.join " " (w :: r)).cps.toList = _
    rw [str_app, str_app, joinH r w, List.map_cons, List.flatten_cons]
    show h.cps.toList ++ [32] ++ _ = _
    simp only [List.append_assoc, List.cons_append, List.nil_append]
theorem xsL_cons (bd b : Nat) : xsL bd (b + 1) = xS bd :: xsL (bd + 1) b := by
  unfold xsL
  rw [List.range_succ_eq_map, List.map_cons, List.map_map]
  congr 1
  refine List.map_congr_left fun k _ => ?_
  show xS (bd + (k + 1)) = xS (bd + 1 + k)
  congr 1
  omega
theorem bin_cat : ∀ (b bd : Nat), catL (binT bd (b + 1)) = (Str.join " " (xsL bd (b + 1))).cps.toList ++ [46, 32]
  | 0, bd => by
    show (xS bd).cps.toList ++ ([46, 32] ++ []) = _
    rw [List.append_nil]
    rfl
  | b + 1, bd => by
    show (xS bd).cps.toList ++ ([32] ++ catL (binT (bd + 1) (b + 1))) = _
    rw [bin_cat b (bd + 1), xsL_cons bd (b + 1), joinH, xsL_cons (bd + 1) b, joinH, List.map_cons, List.flatten_cons]
    simp only [List.append_assoc, List.cons_append, List.nil_append]
theorem head_cat (bd b : Nat) : catL (headToks bd b) = (headT bd b).cps.toList := by
  cases b with
  | zero => rfl
  | succ b =>
    unfold headToks headT
    rw [if_neg (by omega), if_neg (by omega), catL_cons, bin_cat, str_app, str_app, List.append_assoc]
    rfl
mutual
theorem toks_cat : ∀ (p : Pt) (bd : Nat), catL (toksT bd p) = (textT bd p).cps.toList
  | .mk b h as, bd => by
    rw [toksT, catL_app, catL_cons, head_cat, args_cat as (bd + b), textT, str_app, joinH]
theorem args_cat : ∀ (as : List Pt) (bd : Nat), catL (argToks bd as) = ((argsT bd as).map fun w => 32 :: w.cps.toList).flatten
  | [], _ => by
    rw [argToks, argsT]
    rfl
  | p :: r, bd => by
    rw [argToks, argsT, catL_app, args_cat r bd, List.map_cons, List.flatten_cons]
    congr 1
    unfold parT
    cases flatT p with
    | true =>
      rw [if_pos rfl, if_pos rfl, catL_cons, toks_cat p bd]
      rfl
    | false =>
      rw [if_neg Bool.false_ne_true, if_neg Bool.false_ne_true, catL_cons, catL_cons, catL_app, toks_cat p bd, str_app, str_app]
      show [32] ++ ([40] ++ ((textT bd p).cps.toList ++ ([41] ++ []))) = 32 :: ([40] ++ (textT bd p).cps.toList ++ [41])
      simp only [List.append_assoc, List.cons_append, List.nil_append, List.append_nil]
end
theorem text_cat (p : Pt) (bd : Nat) : textT bd p = ⟨(catL (toksT bd p)).toArray⟩ := by rw [toks_cat]
/-! ### the tokens of a program stand sepT -/
theorem word_isW {h : Str} (hh : isWordS h = true) : isWtok h = true := by
  have hl := word_letters hh
  have h1 := (word_len hh).1
  unfold isWtok
  rw [Bool.and_eq_true]
  refine ⟨?_, ?_⟩
  · rw [str_len] at h1
    cases e : h.cps.toList with
    | nil =>
      rw [e] at h1
      simp at h1
    | cons _ _ => rfl
  · rw [List.all_eq_true]
    intro c hc
    unfold isA
    exact decide_eq_true (List.mem_append_left _ (hl c hc))
theorem xS_isW : ∀ k < 100, isWtok (xS k) = true := by decide +kernel
theorem sepT_w {b : Bool} {t : Str} {r : List Str} (h : isWtok t = true) (hb : b = false) (hr : sepT true r = true) : sepT b (t :: r) = true := by
  show ((isWtok t && (!b && sepT true r)) || _) = true
  rw [h, hb, hr]
  rfl
theorem sepT_s {b : Bool} {t : Str} {r : List Str} (h : isStok t = true) (hr : sepT false r = true) : sepT b (t :: r) = true := by
  show (_ || (isStok t && sepT false r)) = true
  rw [h, hr]
  simp
theorem sepT_bin : ∀ (b bd : Nat) (r : List Str), bd + (b + 1) ≤ 100 → sepT false r = true → sepT false (binT bd (b + 1) ++ r) = true
  | 0, bd, r, hb, hr => sepT_w (xS_isW bd (by omega)) rfl (sepT_s (by decide +kernel) hr)
  | b + 1, bd, r, hb, hr => sepT_w (xS_isW bd (by omega)) rfl (sepT_s (by decide +kernel) (sepT_bin b (bd + 1) r (by omega) hr))
theorem sepT_hd {b bd : Nat} {r : List Str} (hb : bd + b ≤ 100) (hr : sepT false r = true) : sepT false (headToks bd b ++ r) = true := by
  cases b with
  | zero => exact hr
  | succ b =>
    unfold headToks
    rw [if_neg (by omega)]
    exact sepT_s (by decide +kernel) (sepT_bin b bd r hb hr)
section
variable {W : Str → Prop} (hW : WordsP W)
include hW
theorem scH_isW {inner : Nat} {h : Str} (hi : inner ≤ 100) (o : scH W inner h) : isWtok h = true := by
  rcases o with o | ⟨k, hk, rfl⟩
  · exact word_isW (hW h o)
  · exact xS_isW k (by omega)
mutual
theorem sepT_T : ∀ (p : Pt) (bd : Nat) (r : List Str), scT W bd p → sepT true r = true → sepT false (toksT bd p ++ r) = true
  | .mk b h as, bd, r, o, hr => by
    rw [scT] at o
    rw [toksT, List.append_assoc]
    refine sepT_hd o.2.2.1 ?_
    exact sepT_w (scH_isW hW o.2.2.1 o.2.2.2.1) rfl (sepT_Ts as (bd + b) r o.2.2.2.2 hr)
theorem sepT_Ts : ∀ (as : List Pt) (bd : Nat) (r : List Str), scTs W bd as → sepT true r = true → sepT true (argToks bd as ++ r) = true
  | [], _, r, _, hr => by
    rw [argToks]
    exact hr
  | p :: as, bd, r, o, hr => by
    rw [scTs] at o
    have ih := sepT_Ts as bd r o.2 hr
    rw [argToks, List.append_assoc]
    refine sepT_s (by decide +kernel) ?_
    cases flatT p with
    | true =>
      rw [if_pos rfl]
      exact sepT_T p bd _ o.1 ih
    | false =>
      rw [if_neg Bool.false_ne_true]
      refine sepT_s (by decide +kernel) ?_
      show sepT false ((toksT bd p ++ [(")" : Str)]) ++ (argToks bd as ++ r)) = true
      rw [List.append_assoc]
      exact sepT_T p bd _ o.1 (sepT_s (by decide +kernel) (sepT_mono ih))
end
/-- the tokens of a program's text -/
theorem tk_T {p : Pt} (o : scT W 0 p) : tkP (textT 0 p).cps.toList = some (toksT 0 p) := by
  rw [← toks_cat]
  have h := sepT_T hW p 0 [] o rfl
  rw [List.append_nil] at h
  exact tk_all _ _ h
end
end KP
/-! KP64: law k16: the law's own reader of texts: sound and complete. -/
namespace KP
open PySem L2 FP
variable [FP.Tabl]
def blS : List Nat := [32]
def dotS : List Nat := [46, 32]
theorem par_sound {b a p q : List Nat} (hb : b ≠ []) (h : TL.par b [] a = some (p, q)) : a = p ++ b ++ q := by
  have e := StrLaws.partition_sum (SX.S a) (SX.S b)
  rw [SX.partition_some hb h] at e
  have e : SX.S p ++ SX.S b ++ SX.S q = SX.S a := e
  rw [SX.S_cat, SX.S_cat] at e
  exact (SX.S_inj e).symm
/-- up to the sign that closes, and what is behind it -/
def closeL : Nat → List Nat → Option (List Nat × List Nat)
  | _, [] => none
  | d, c :: r =>
    if c = 40 then (closeL (d + 1) r).map fun x => (c :: x.1, x.2)
    else if c = 41 then (if d ≤ 1 then some ([], r) else (closeL (d - 1) r).map fun x => (c :: x.1, x.2))
    else (closeL d r).map fun x => (c :: x.1, x.2)
theorem close_sound : ∀ (xs : List Nat) (d : Nat) (u v : List Nat), closeL d xs = some (u, v) → xs = u ++ 41 :: v
  | [], _, _, _, h => by cases h
  | c :: r, d, u, v, h => by
    unfold closeL at h
    have key : ∀ d', (closeL d' r).map (fun x => (c :: x.1, x.2)) = some (u, v) → c :: r = u ++ 41 :: v := by
      intro d' h
      cases q : closeL d' r with
      | none =>
        rw [q] at h
        cases h
      | some x =>
        obtain ⟨u', v'⟩ := x
        rw [q] at h
        cases h
        rw [close_sound r d' u' v' q]
        rfl
    split at h
    · exact key _ h
    · split at h
      · rename_i hc
        split at h
        · cases h
          rw [hc]
          rfl
        · exact key _ h
      · exact key _ h
def balL (xs : List Nat) : Prop := ∀ (d : Nat) (more : List Nat), 1 ≤ d → closeL d (xs ++ more) = (closeL d more).map fun x => (xs ++ x.1, x.2)
theorem bal_nil : balL [] := fun d more _ => by
  rw [List.nil_append]
  cases closeL d more <;> rfl
theorem bal_app {a b : List Nat} (ha : balL a) (hb : balL b) : balL (a ++ b) := fun d more hd => by
  rw [List.append_assoc, ha d _ hd, hb d _ hd]
  cases closeL d more with
  | none => rfl
  | some x => simp
theorem bal_one {c : Nat} (h1 : c ≠ 40) (h2 : c ≠ 41) : balL [c] := fun d more _ => by
  show closeL d (c :: more) = _
  rw [closeL, if_neg h1, if_neg h2]
  rfl
theorem bal_all : ∀ {xs : List Nat}, 40 ∉ xs → 41 ∉ xs → balL xs
  | [], _, _ => bal_nil
  | c :: r, h1, h2 => bal_app (a := [c]) (bal_one (fun e => h1 (by rw [e]; exact List.mem_cons_self)) fun e => h2 (by rw [e]; exact List.mem_cons_self)) (bal_all (fun m => h1 (List.mem_cons_of_mem _ m)) fun m => h2 (List.mem_cons_of_mem _ m))
theorem bal_wrap {xs : List Nat} (h : balL xs) : balL (40 :: (xs ++ [41])) := fun d more hd => by
  have e : (40 :: (xs ++ [41])) ++ more = 40 :: (xs ++ (41 :: more)) := by simp
  rw [e, closeL, if_pos rfl, h (d + 1) _ (by omega), closeL, if_neg (by decide), if_pos rfl, if_neg (by omega), Nat.add_sub_cancel]
  cases closeL d more with
  | none => rfl
  | some x => simp
theorem bal_close {xs : List Nat} (h : balL xs) (more : List Nat) : closeL 1 (xs ++ 41 :: more) = some (xs, more) := by
  rw [h 1 _ (Nat.le_refl 1), closeL, if_neg (by decide), if_pos rfl, if_pos (Nat.le_refl 1)]
  simp
/-! ### the reader -/
def headP (xs : List Nat) (bd : Nat) : Option (Nat × List Nat) :=
  match xs with
  | [] => some (0, [])
  | c :: r => if c = 92 then (match TL.par dotS [] r with
      | none => none
      | some (u, v) => if Txt.split (SX.S u) (SX.S blS) = xsL bd (Txt.split (SX.S u) (SX.S blS)).length then some ((Txt.split (SX.S u) (SX.S blS)).length, v) else none)
    else some (0, c :: r)
theorem headP_cons (c : Nat) (r : List Nat) (bd : Nat) : headP (c :: r) bd = if c = 92 then (match TL.par dotS [] r with
      | none => none
      | some (u, v) => if Txt.split (SX.S u) (SX.S blS) = xsL bd (Txt.split (SX.S u) (SX.S blS)).length then some ((Txt.split (SX.S u) (SX.S blS)).length, v) else none)
    else some (0, c :: r) := rfl
def headB (inner : Nat) (h : Str) : Bool := decide (h ∈ xsL 0 inner) || isWordS h
def nextP : List Nat → Option (List Nat)
  | [] => some []
  | c :: w => if c = 32 ∧ w ≠ [] then some w else none
/-- the first argument's text and what is behind it -/
def pieceP (c : Nat) (r : List Nat) : Option (List Nat × List Nat) :=
  if c = 40 then closeL 1 r else some ((c :: r).takeWhile (· != 32), (c :: r).dropWhile (· != 32))
def argsP (T : List Nat → Option Pt) : Nat → List Nat → List Pt → Option (List Pt)
  | _, [], as => some as
  | 0, _ :: _, _ => none
  | k + 1, c :: r, as =>
    match pieceP c r with
    | none => none
    | some (u, v) => if 14 < as.length then none else
      match T u with
      | none => none
      | some p => if flatT p = decide (c = 40) then none else
        match nextP v with
        | none => none
        | some w => argsP T k w (as ++ [p])
def toldR : Nat → List Nat → Nat → Option Pt
  | 0, _, _ => none
  | n + 1, xs, bd =>
    match headP xs bd with
    | none => none
    | some (b, ys) =>
      match TL.par blS [] ys with
      | none => if headB (bd + b) (SX.S ys) = true then some (.mk b (SX.S ys) []) else none
      | some (u, v) => if headB (bd + b) (SX.S u) = true ∧ v ≠ [] then (argsP (fun zs => toldR n zs (bd + b)) v.length v []).map (fun as => .mk b (SX.S u) as) else none
/-! ### sound -/
mutual
def scL : Nat → Pt → Prop
  | bd, .mk b h as => as.length ≤ 15 ∧ headB (bd + b) h = true ∧ scLs (bd + b) as
def scLs : Nat → List Pt → Prop
  | _, [] => True
  | bd, p :: r => scL bd p ∧ scLs bd r
end
theorem spl_ne (S : List Nat) : ∀ (k : Nat) (acc l : List Nat), TL.spl S k acc l ≠ []
  | k, acc, [] => by
    rw [TL.spl_nil]
    simp
  | 0, acc, c :: r => by
    show (if TL.pre S (c :: r) = true then acc :: TL.spl S (S.length - 1) [] r else TL.spl S 0 (acc ++ [c]) r) ≠ []
    split
    · simp
    · exact spl_ne S 0 _ r
  | k + 1, acc, _ :: r => spl_ne S k acc r
theorem split_ne (u : List Nat) : Txt.split (SX.S u) (SX.S blS) ≠ [] := fun e => by
  rw [SX.split_S (by decide) (by decide)] at e
  exact spl_ne _ _ _ _ (List.map_eq_nil_iff.mp e)
theorem headP_sound {xs ys : List Nat} {bd b : Nat} (h : headP xs bd = some (b, ys)) : xs = catL (headToks bd b) ++ ys := by
  cases xs with
  | nil =>
    cases h
    rfl
  | cons c r =>
    rw [headP_cons] at h
    split at h
    · rename_i hc
      cases q : TL.par dotS [] r with
      | none =>
        rw [q] at h
        cases h
      | some x =>
        obtain ⟨u, v⟩ := x
        rw [q] at h
        dsimp only at h
        split at h
        · rename_i hs
          have e := StrLaws.join_split (SX.S u) (SX.S blS)
          have hne := split_ne u
          generalize Txt.split (SX.S u) (SX.S blS) = ns at h hs e hne
          cases h
          have hr := par_sound (by decide) q
          cases hn : ns.length with
          | zero =>
            exact absurd (List.length_eq_zero_iff.mp hn) hne
          | succ m =>
            rw [hn] at hs
            rw [head_cat]
            unfold headT
            rw [if_neg (by omega), str_app, str_app, ← hs]
            have e2 : (Str.join " " ns).cps.toList = u := congrArg (fun z : Str => z.cps.toList) e
            rw [e2, hc, hr]
            show 92 :: (u ++ [46, 32] ++ ys) = ([92] ++ u) ++ [46, 32] ++ ys
            simp
        · cases h
    · cases h
      rfl
def sepL : List Nat → List Nat
  | [] => []
  | c :: r => 32 :: c :: r
theorem next_sound {v w : List Nat} (h : nextP v = some w) : v = sepL w := by
  cases v with
  | nil =>
    cases h
    rfl
  | cons c r =>
    have h : (if c = 32 ∧ r ≠ [] then some r else none) = some w := h
    split at h
    · rename_i hc
      cases h
      cases w with
      | nil => exact absurd rfl hc.2
      | cons d r => rw [hc.1]; rfl
    · cases h
theorem next_all (w : List Nat) : nextP (sepL w) = some w := by
  cases w with
  | nil => rfl
  | cons c r =>
    show (if 32 = 32 ∧ c :: r ≠ [] then some (c :: r) else none) = _
    rw [if_pos ⟨rfl, by simp⟩]
theorem piece_sound {c : Nat} {r u v : List Nat} (h : pieceP c r = some (u, v)) : c :: r = (if c = 40 then 40 :: (u ++ [41]) else u) ++ v := by
  unfold pieceP at h
  split at h
  · rename_i hc
    rw [if_pos hc, hc, close_sound _ _ _ _ h]
    simp
  · rename_i hc
    cases h
    rw [if_neg hc, List.takeWhile_append_dropWhile]
theorem arg_cat (bd : Nat) (p : Pt) (r : List Pt) : catL (argToks bd (p :: r)) = 32 :: ((if flatT p = true then catL (toksT bd p) else 40 :: (catL (toksT bd p) ++ [41])) ++ catL (argToks bd r)) := by
  rw [argToks, catL_app]
  cases flatT p with
  | true =>
    rw [if_pos rfl, if_pos rfl, catL_cons]
    rfl
  | false =>
    rw [if_neg Bool.false_ne_true, if_neg Bool.false_ne_true, catL_cons, catL_cons, catL_app]
    rfl
theorem argsP_nil (T : List Nat → Option Pt) (k : Nat) (as : List Pt) : argsP T k [] as = some as := by cases k <;> rfl
theorem args_sound {bd : Nat} {T : List Nat → Option Pt} (hT : ∀ u p, T u = some p → u = catL (toksT bd p) ∧ scL bd p) : ∀ (k : Nat) (xs : List Nat) (as bs : List Pt), as.length ≤ 15 → argsP T k xs as = some bs → ∃ cs, bs = as ++ cs ∧ scLs bd cs ∧ bs.length ≤ 15 ∧ catL (argToks bd cs) = sepL xs
  | k, [], as, bs, ha, h => by
    rw [argsP_nil] at h
    cases h
    exact ⟨[], by rw [List.append_nil], trivial, ha, rfl⟩
  | 0, _ :: _, _, _, _, h => by cases h
  | k + 1, c :: r, as, bs, ha, h => by
    unfold argsP at h
    cases q : pieceP c r with
    | none =>
      rw [q] at h
      cases h
    | some x =>
      obtain ⟨u, v⟩ := x
      rw [q] at h
      dsimp only at h
      split at h
      · cases h
      · rename_i hl
        cases q2 : T u with
        | none =>
          rw [q2] at h
          cases h
        | some p =>
          rw [q2] at h
          dsimp only at h
          split at h
          · cases h
          · rename_i hf
            cases q3 : nextP v with
            | none =>
              rw [q3] at h
              cases h
            | some w =>
              rw [q3] at h
              dsimp only at h
              obtain ⟨h1, h2⟩ := hT u p q2
              obtain ⟨cs, e1, e2, e3, e4⟩ := args_sound hT k w (as ++ [p]) bs (by rw [List.length_append, List.length_singleton]; omega) h
              refine ⟨p :: cs, by rw [e1, List.append_assoc]; rfl, by rw [scLs]; exact ⟨h2, e2⟩, e3, ?_⟩
              rw [arg_cat, e4, ← next_sound q3, ← h1]
              have hp := piece_sound q
              show _ = 32 :: c :: r
              rw [hp]
              congr 2
              by_cases hc : c = 40
              · rw [decide_eq_true hc] at hf
                rw [if_neg hf, if_pos hc]
              · rw [decide_eq_false hc] at hf
                have hf : flatT p = true := by
                  cases z : flatT p with
                  | true => rfl
                  | false => exact absurd z hf
                rw [if_pos hf, if_neg hc]
theorem told_sound : ∀ (n : Nat) (xs : List Nat) (bd : Nat) (p : Pt), toldR n xs bd = some p → xs = catL (toksT bd p) ∧ scL bd p
  | 0, _, _, _, h => by cases h
  | n + 1, xs, bd, p, h => by
    unfold toldR at h
    cases q : headP xs bd with
    | none =>
      rw [q] at h
      cases h
    | some x =>
      obtain ⟨b, ys⟩ := x
      rw [q] at h
      dsimp only at h
      have hx := headP_sound q
      cases q2 : TL.par blS [] ys with
      | none =>
        rw [q2] at h
        dsimp only at h
        split at h
        · rename_i hh
          cases h
          refine ⟨?_, by rw [scL]; exact ⟨by simp, hh, trivial⟩⟩
          rw [toksT, catL_app, catL_cons, argToks, catL_nil, List.append_nil]
          exact hx
        · cases h
      | some x =>
        obtain ⟨u, v⟩ := x
        rw [q2] at h
        dsimp only at h
        split at h
        · rename_i hh
          cases q3 : argsP (fun zs => toldR n zs (bd + b)) v.length v [] with
          | none =>
            rw [q3] at h
            cases h
          | some as =>
            rw [q3] at h
            cases h
            obtain ⟨cs, e1, e2, e3, e4⟩ := args_sound (bd := bd + b) (fun u p h => told_sound n u (bd + b) p h) _ _ _ _ (by simp) q3
            rw [List.nil_append] at e1
            subst e1
            refine ⟨?_, by rw [scL]; exact ⟨e3, hh.1, e2⟩⟩
            rw [toksT, catL_app, catL_cons, e4, hx, par_sound (by decide) q2]
            cases v with
            | nil => exact absurd rfl hh.2
            | cons c r =>
              show _ = catL (headToks bd b) ++ (u ++ 32 :: c :: r)
              simp [blS]
        · cases h
/-! ### complete -/
theorem isA_ne {c : Nat} (h : isA c = true) : c ≠ 32 ∧ c ≠ 40 ∧ c ≠ 41 ∧ c ≠ 46 ∧ c ≠ 92 := by
  refine ⟨?_, ?_, ?_, ?_, ?_⟩ <;> (rintro rfl; revert h; decide +kernel)
theorem isW_all {t : Str} (h : isWtok t = true) : t.cps.toList ≠ [] ∧ ∀ c ∈ t.cps.toList, isA c = true := by
  unfold isWtok at h
  rw [Bool.and_eq_true, List.all_eq_true] at h
  refine ⟨fun e => ?_, h.2⟩
  rw [e] at h
  exact absurd h.1 (by decide)
theorem isW_not {t : Str} (h : isWtok t = true) : 32 ∉ t.cps.toList ∧ 40 ∉ t.cps.toList ∧ 41 ∉ t.cps.toList ∧ 46 ∉ t.cps.toList ∧ 92 ∉ t.cps.toList := by
  have h2 := (isW_all h).2
  exact ⟨fun m => (isA_ne (h2 _ m)).1 rfl, fun m => (isA_ne (h2 _ m)).2.1 rfl, fun m => (isA_ne (h2 _ m)).2.2.1 rfl, fun m => (isA_ne (h2 _ m)).2.2.2.1 rfl, fun m => (isA_ne (h2 _ m)).2.2.2.2 rfl⟩
theorem bal_W {t : Str} (h : isWtok t = true) : balL t.cps.toList := bal_all (isW_not h).2.1 (isW_not h).2.2.1
theorem bal_bin : ∀ (b bd : Nat), bd + (b + 1) ≤ 100 → balL (catL (binT bd (b + 1)))
  | 0, bd, hb => bal_app (bal_W (xS_isW bd (by omega))) (bal_all (xs := [46, 32]) (by decide) (by decide))
  | b + 1, bd, hb => bal_app (bal_W (xS_isW bd (by omega))) (bal_app (a := [32]) (bal_all (by decide) (by decide)) (bal_bin b (bd + 1) (by omega)))
theorem bal_hd {b bd : Nat} (hb : bd + b ≤ 100) : balL (catL (headToks bd b)) := by
  cases b with
  | zero => exact bal_nil
  | succ b =>
    unfold headToks
    rw [if_neg (by omega)]
    exact bal_app (a := [92]) (bal_all (by decide) (by decide)) (bal_bin b bd hb)
section
variable {W : Str → Prop} (hW : WordsP W)
include hW
mutual
theorem bal_T : ∀ (p : Pt) (bd : Nat), scT W bd p → balL (catL (toksT bd p))
  | .mk b h as, bd, o => by
    rw [scT] at o
    rw [toksT, catL_app, catL_cons]
    exact bal_app (bal_hd o.2.2.1) (bal_app (bal_W (scH_isW hW o.2.2.1 o.2.2.2.1)) (bal_Ts as (bd + b) o.2.2.2.2))
theorem bal_Ts : ∀ (as : List Pt) (bd : Nat), scTs W bd as → balL (catL (argToks bd as))
  | [], _, _ => by
    rw [argToks]
    exact bal_nil
  | p :: r, bd, o => by
    rw [scTs] at o
    rw [arg_cat]
    refine bal_app (a := [32]) (bal_all (by decide) (by decide)) (bal_app ?_ (bal_Ts r bd o.2))
    split
    · exact bal_T p bd o.1
    · exact bal_wrap (bal_T p bd o.1)
end
theorem text_ne {p : Pt} {bd : Nat} (o : scT W bd p) : catL (toksT bd p) ≠ [] := by
  cases p with
  | mk b h as =>
  rw [scT] at o
  rw [toksT, catL_app, catL_cons]
  have h1 := (isW_all (scH_isW hW o.2.2.1 o.2.2.2.1)).1
  intro e
  rw [List.append_eq_nil_iff, List.append_eq_nil_iff] at e
  exact h1 e.2.1
theorem args_sep {as : List Pt} {bd : Nat} (o : scTs W bd as) : catL (argToks bd as) = sepL (catL (argToks bd as)).tail := by
  cases as with
  | nil =>
    rw [argToks]
    rfl
  | cons p r =>
    rw [scTs] at o
    rw [arg_cat, List.tail_cons]
    have hn := text_ne hW o.1
    have e : ∃ c t, (if flatT p = true then catL (toksT bd p) else 40 :: (catL (toksT bd p) ++ [41])) ++ catL (argToks bd r) = c :: t := by
      split
      · cases q : catL (toksT bd p) with
        | nil => exact absurd q hn
        | cons c t => exact ⟨c, _, rfl⟩
      · exact ⟨40, _, rfl⟩
    obtain ⟨c, t, e⟩ := e
    rw [e]
    rfl
theorem args_all {bd : Nat} {T : List Nat → Option Pt} : ∀ (cs : List Pt) (k : Nat) (xs : List Nat) (as : List Pt), scTs W bd cs → (∀ p ∈ cs, T (catL (toksT bd p)) = some p) → as.length + cs.length ≤ 15 → xs.length ≤ k → catL (argToks bd cs) = sepL xs → argsP T k xs as = some (as ++ cs)
  | [], k, xs, as, _, _, _, _, e => by
    rw [argToks] at e
    cases xs with
    | nil => rw [argsP_nil, List.append_nil]
    | cons c r => cases e
  | p :: r, k, xs, as, o, hT, hl, hk, e => by
    have o2 := o
    rw [scTs] at o2
    rw [arg_cat, args_sep hW o2.2] at e
    generalize hw : (catL (argToks bd r)).tail = w at e
    have hn := text_ne hW o2.1
    cases xs with
    | nil => cases e
    | cons c t =>
    cases k with
    | zero => simp at hk
    | succ k =>
    rw [List.length_cons] at hl
    have e : (if flatT p = true then catL (toksT bd p) else 40 :: (catL (toksT bd p) ++ [41])) ++ sepL w = c :: t := (List.cons.inj e).2
    have hpc : pieceP c t = some (catL (toksT bd p), sepL w) ∧ flatT p = !decide (c = 40) := by
      cases hf : flatT p with
      | false =>
        rw [hf, if_neg Bool.false_ne_true] at e
        have e : 40 :: ((catL (toksT bd p) ++ [41]) ++ sepL w) = c :: t := e
        obtain ⟨e1, e2⟩ := List.cons.inj e
        subst e1
        refine ⟨?_, rfl⟩
        unfold pieceP
        rw [if_pos rfl, ← e2, List.append_assoc]
        exact bal_close (bal_T hW p bd o2.1) _
      | true =>
        rw [hf, if_pos rfl] at e
        obtain ⟨h, rfl⟩ := flat_shape hf
        have o3 := o2.1
        rw [scT] at o3
        have hw := scH_isW hW o3.2.2.1 o3.2.2.2.1
        have ht : catL (toksT bd (.mk 0 h [])) = h.cps.toList := by
          rw [toksT, argToks, catL_app, catL_cons, catL_nil, List.append_nil]
          rfl
        rw [ht] at e hn ⊢
        have hc : c ≠ 40 := by
          cases q : h.cps.toList with
          | nil => exact absurd q hn
          | cons c' t' =>
            rw [q] at e
            have e1 := (List.cons.inj e).1
            rw [← e1]
            exact (isA_ne ((isW_all hw).2 c' (by rw [q]; exact List.mem_cons_self))).2.1
        refine ⟨?_, by rw [decide_eq_false hc]; rfl⟩
        unfold pieceP
        rw [if_neg hc, ← e]
        obtain ⟨e1, e2⟩ := takeWhile_app (p := (· != 32)) (a := h.cps.toList) (sepL w) (by
          rw [List.all_eq_true]
          intro x hx
          rw [bne_iff_ne]
          exact (isA_ne ((isW_all hw).2 x hx)).1) (by
          intro c' r' q
          cases w with
          | nil => cases q
          | cons _ _ =>
            have q := (List.cons.inj q).1
            rw [← q]
            rfl)
        rw [e1, e2]
    unfold argsP
    rw [hpc.1]
    dsimp only
    rw [if_neg (by omega), hT p List.mem_cons_self]
    dsimp only
    rw [if_neg (by rw [hpc.2]; cases decide (c = 40) <;> decide), next_all]
    dsimp only
    have hlen := congrArg List.length e
    have hpos : 1 ≤ (if flatT p = true then catL (toksT bd p) else 40 :: (catL (toksT bd p) ++ [41])).length := by
      split
      · exact List.length_pos_iff.mpr hn
      · simp
    have hs : w.length ≤ (sepL w).length := by cases w <;> simp [sepL]
    rw [List.length_append, List.length_cons] at hlen
    rw [List.length_cons] at hk
    have ih := args_all r k w (as ++ [p]) o2.2 (fun q hq => hT q (List.mem_cons_of_mem _ hq)) (by rw [List.length_append, List.length_singleton]; omega) (by omega) (by rw [args_sep hW o2.2, hw])
    rw [ih, List.append_assoc]
    rfl
omit hW in
theorem headP_all {b bd c : Nat} {ys : List Nat} (hb : bd + b ≤ 100) (hc : c ≠ 92) : headP (catL (headToks bd b) ++ c :: ys) bd = some (b, c :: ys) := by
  cases b with
  | zero =>
    show headP (c :: ys) bd = _
    rw [headP_cons, if_neg hc]
  | succ b =>
    have e : catL (headToks bd (b + 1)) ++ c :: ys = 92 :: ((Str.join " " (xsL bd (b + 1))).cps.toList ++ (dotS ++ c :: ys)) := by
      unfold headToks
      rw [if_neg (by omega), catL_cons, bin_cat]
      show ([92] ++ ((Str.join " " (xsL bd (b + 1))).cps.toList ++ [46, 32])) ++ c :: ys = 92 :: ((Str.join " " (xsL bd (b + 1))).cps.toList ++ ([46, 32] ++ c :: ys))
      simp
    have hx : ∀ t ∈ xsL bd (b + 1), isWtok t = true := by
      intro t ht
      unfold xsL at ht
      obtain ⟨k, hk, rfl⟩ := List.mem_map.mp ht
      exact xS_isW _ (by have := List.mem_range.mp hk; omega)
    have h46 : 46 ∉ (Str.join " " (xsL bd (b + 1))).cps.toList := by
      rw [xsL_cons, joinH]
      intro m
      rcases List.mem_append.mp m with m | m
      · exact (isW_not (hx _ (by rw [xsL_cons]; exact List.mem_cons_self))).2.2.2.1 m
      · obtain ⟨l, hl, hm⟩ := List.mem_flatten.mp m
        obtain ⟨t, ht, rfl⟩ := List.mem_map.mp hl
        rcases List.mem_cons.mp hm with q | q
        · cases q
        · exact (isW_not (hx t (by rw [xsL_cons]; exact List.mem_cons_of_mem _ ht))).2.2.2.1 q
    have hp : TL.par dotS [] ((Str.join " " (xsL bd (b + 1))).cps.toList ++ (dotS ++ c :: ys)) = some ((Str.join " " (xsL bd (b + 1))).cps.toList, c :: ys) := SX.par_head _ h46
    have hs : Txt.split (SX.S (Str.join " " (xsL bd (b + 1))).cps.toList) (SX.S blS) = xsL bd (b + 1) := by
      have e2 : SX.S (Str.join " " (xsL bd (b + 1))).cps.toList = Txt.join " " (xsL bd (b + 1)) := by rw [SX.S_tl, TL.join_eq]
      rw [e2]
      refine TL.split_join (y := " ") (s := 32) (S := []) rfl (by decide +kernel) ?_ fun t ht => (isW_not (hx t ht)).1
      rw [xsL_cons]
      simp
    rw [e, headP_cons, if_pos rfl, hp]
    dsimp only
    rw [hs, xsL_len, if_pos rfl]
end
theorem headB_of {inner : Nat} {h : Str} (o : scH (fun z => isWordS z = true) inner h) : headB inner h = true := by
  unfold headB
  rcases o with o | ⟨k, hk, rfl⟩
  · rw [o, Bool.or_true]
  · rw [decide_eq_true, Bool.true_or]
    unfold xsL
    exact List.mem_map.mpr ⟨k, List.mem_range.mpr hk, by rw [Nat.zero_add]⟩
theorem headB_sc {inner : Nat} {h : Str} (o : headB inner h = true) : scH (fun z => isWordS z = true) inner h := by
  unfold headB at o
  rw [Bool.or_eq_true] at o
  rcases o with o | o
  · have o := of_decide_eq_true o
    unfold xsL at o
    obtain ⟨k, hk, rfl⟩ := List.mem_map.mp o
    exact .inr ⟨k, List.mem_range.mp hk, by rw [Nat.zero_add]⟩
  · exact .inl o
abbrev isWP : Str → Prop := fun z => isWordS z = true
theorem isWP_w : WordsP isWP := fun _ h => h
theorem told_all : ∀ (n : Nat) (p : Pt) (bd : Nat), sizeT p ≤ n → scT isWP bd p → toldR n (catL (toksT bd p)) bd = some p
  | 0, p, _, h, _ => by
    have := size_pos p
    omega
  | n + 1, .mk b h as, bd, hn, o => by
    have o2 := o
    rw [scT] at o2
    rw [sizeT] at hn
    obtain ⟨hb, hal, hbb, hh, hsa⟩ := o2
    have hw := scH_isW isWP_w hbb hh
    have e : catL (toksT bd (.mk b h as)) = catL (headToks bd b) ++ (h.cps.toList ++ catL (argToks (bd + b) as)) := by
      rw [toksT, catL_app, catL_cons]
    have hc : ∃ c t, h.cps.toList ++ catL (argToks (bd + b) as) = c :: t ∧ c ≠ 92 := by
      cases q : h.cps.toList with
      | nil => exact absurd q (isW_all hw).1
      | cons c t => exact ⟨c, _, rfl, (isA_ne ((isW_all hw).2 c (by rw [q]; exact List.mem_cons_self))).2.2.2.2⟩
    obtain ⟨c, t, e2, hc⟩ := hc
    unfold toldR
    rw [e, e2, headP_all hbb hc]
    dsimp only
    rw [← e2]
    cases as with
    | nil =>
      rw [argToks, catL_nil, List.append_nil]
      have hp : TL.par blS [] h.cps.toList = none := SX.par_head_none (isW_not hw).1
      rw [hp]
      dsimp only
      rw [SX.S_tl, if_pos (headB_of hh)]
    | cons p r =>
      have hsep := args_sep isWP_w hsa
      have hne : (catL (argToks (bd + b) (p :: r))).tail ≠ [] := by
        intro q
        rw [q] at hsep
        rw [arg_cat] at hsep
        cases hsep
      generalize hwd : (catL (argToks (bd + b) (p :: r))).tail = w at hsep hne
      have hse : sepL w = blS ++ w := by
        cases w with
        | nil => exact absurd rfl hne
        | cons _ _ => rfl
      rw [hsep, hse]
      have hp : TL.par blS [] (h.cps.toList ++ (blS ++ w)) = some (h.cps.toList, w) := SX.par_head _ (isW_not hw).1
      rw [hp]
      dsimp only
      rw [SX.S_tl, if_pos ⟨headB_of hh, hne⟩, args_all isWP_w (p :: r) w.length w [] hsa (fun q hq => told_all n q (bd + b) (by
        have := size_in hq
        omega) (scTs_mem hsa q hq)) (by simpa using hal) (Nat.le_refl _) hsep]
      rfl
end KP
/-! KP65: law k16: reading as a whole; texts near a text. -/
namespace KP
open PySem L2 FP
variable [FP.Tabl]
def isZD : D → Bool
  | .int i => decide (i = 0)
  | _ => false
/-- a node of a program, or of one with gaps -/
def isNodeG (g : Bool) : D → Bool
  | .tup [x, .str h, y] => inRow x 0 15 && (inRow y 0 15 && (headG h || (g && (decide (h = ("?" : Str)) && isZD y))))
  | _ => false
def areG (g : Bool) : D → Bool
  | .tup xs => decide (1 ≤ xs.length) && (decide (xs.length ≤ 40) && (xs.all (isNodeG g) && areN (xs.map toNod)))
  | _ => false
theorem isNodeG_false : isNodeG false = isNodeD := by
  funext d
  unfold isNodeG isNodeD
  split
  · rw [Bool.false_and, Bool.or_false]
  · rename_i hne
    first
      | rfl
      | (split
         · rename_i x h y
           exact absurd rfl (hne x h y)
         · rfl)
theorem areG_false (d : D) : areG false d = areP d := by
  unfold areG areP
  rw [isNodeG_false]
  first
    | done
    | (cases d <;> rfl)
theorem isNodeG_true {d : D} (h : isNodeD d = true) : isNodeG true d = true := by
  unfold isNodeD at h
  split at h
  · rename_i x h' y
    simp only [Bool.and_eq_true] at h
    show (inRow x 0 15 && (inRow y 0 15 && (headG h' || (true && (decide (h' = ("?" : Str)) && isZD y))))) = true
    rw [h.1, h.2.1, h.2.2]
    rfl
  · cases h
theorem areG_true {d : D} (h : areP d = true) : areG true d = true := by
  cases d with
  | tup xs =>
    have h : (decide (1 ≤ xs.length) && (decide (xs.length ≤ 40) && (xs.all isNodeD && areN (xs.map toNod)))) = true := h
    show (decide (1 ≤ xs.length) && (decide (xs.length ≤ 40) && (xs.all (isNodeG true) && areN (xs.map toNod)))) = true
    simp only [Bool.and_eq_true] at h
    have e : xs.all (isNodeG true) = true := by
      rw [List.all_eq_true]
      intro x hx
      exact isNodeG_true (List.all_eq_true.mp h.2.2.1 x hx)
    rw [h.1, h.2.1, e, h.2.2.2]
    rfl
  | _ => cases h
abbrev nodesD (p : Pt) : D := .tup ((nodesT p).map nodD)
def rdG (z : Str) : Option Pt := match (tkP z.cps.toList).bind rdTk with
  | none => none
  | some p => if areG true (nodesD p) = true then some p else none
/-- Program.read -/
def rdS (z : Str) : Option Pt := match rdG z with
  | none => none
  | some p => if areP (nodesD p) = true then some p else none
theorem dig_one : ∀ a ∈ digL, (⟨#[120, a]⟩ : Str) = xS (a - 48) ∧ a - 48 < 100 ∧ ((a : Int) - 48) = ((a - 48 : Nat) : Int) := by decide +kernel
theorem dig_two : ∀ a ∈ digL, a ≠ 48 → ∀ b ∈ digL, (⟨#[120, a, b]⟩ : Str) = xS ((a - 48) * 10 + (b - 48)) ∧ (a - 48) * 10 + (b - 48) < 100 ∧ (((a : Int) - 48) * 10 + ((b : Int) - 48)) = (((a - 48) * 10 + (b - 48) : Nat) : Int) := by decide +kernel
theorem level_x {h : Str} {l : Int} (e : levelS h = some l) : ∃ k : Nat, l = (k : Int) ∧ h = xS k := by
  unfold levelS at e
  have hs : h = ⟨h.cps.toList.toArray⟩ := rfl
  split at e
  · rename_i x a q
    split at e
    · rename_i hc
      cases e
      obtain ⟨h1, _, h3⟩ := dig_one a hc.2
      rw [q, hc.1] at hs
      exact ⟨a - 48, h3, hs.trans h1⟩
    · cases e
  · rename_i x a b q
    split at e
    · rename_i hc
      cases e
      obtain ⟨h1, _, h3⟩ := dig_two a hc.2.1 hc.2.2.2 b hc.2.2.1
      rw [q, hc.1] at hs
      exact ⟨_, h3, hs.trans h1⟩
    · cases e
  · cases e
mutual
theorem sc_of_rows : ∀ (p : Pt) (bd : Nat), (∀ n ∈ nodesT p, NodG n) → rowsOk (bndsT bd p) (nodesT p) = true → scT isWP bd p
  | .mk b h as, bd, hg, hr => by
    rw [nodesT] at hg
    rw [bndsT, nodesT] at hr
    have hr : (rowOk bd (b, h, as.length) && rowsOk (bndsTs (bd + b) as) (nodesTs as)) = true := hr
    rw [Bool.and_eq_true] at hr
    have g := hg _ List.mem_cons_self
    have h1 := hr.1
    unfold rowOk at h1
    rw [Bool.and_eq_true] at h1
    have h100 : bd + b ≤ 100 := of_decide_eq_true h1.1
    rw [scT]
    refine ⟨g.b, g.c, h100, ?_, sc_of_rowss as (bd + b) (fun n hn => hg n (List.mem_cons_of_mem _ hn)) hr.2⟩
    have gh := g.h
    unfold headG at gh
    rw [Bool.or_eq_true] at gh
    rcases gh with gh | gh
    · exact .inl gh
    · obtain ⟨l, hl⟩ := Option.isSome_iff_exists.mp gh
      have hl : levelS h = some l := hl
      have h2 := h1.2
      have h2 : (match levelS h with | none => true | some l => decide (l < ((bd + b : Nat) : Int))) = true := h2
      rw [hl] at h2
      have h2 : l < ((bd + b : Nat) : Int) := of_decide_eq_true h2
      obtain ⟨k, hk, e⟩ := level_x hl
      exact .inr ⟨k, by show k < bd + b; omega, e⟩
theorem sc_of_rowss : ∀ (ps : List Pt) (bd : Nat), (∀ n ∈ nodesTs ps, NodG n) → rowsOk (bndsTs bd ps) (nodesTs ps) = true → scTs isWP bd ps
  | [], _, _, _ => trivial
  | p :: r, bd, hg, hr => by
    rw [nodesTs] at hg
    rw [bndsTs, nodesTs, rows_app _ _ _ _ (by rw [bndsT_len, nodes_len]), Bool.and_eq_true] at hr
    rw [scTs]
    exact ⟨sc_of_rows p bd (fun n hn => hg n (List.mem_append_left _ hn)) hr.1, sc_of_rowss r bd (fun n hn => hg n (List.mem_append_right _ hn)) hr.2⟩
end
theorem sc_of_are {p : Pt} (h : areP (nodesD p) = true) : scT isWP 0 p ∧ sizeT p ≤ 40 := by
  have h : (decide (1 ≤ ((nodesT p).map nodD).length) && (decide (((nodesT p).map nodD).length ≤ 40) && (((nodesT p).map nodD).all isNodeD && areN (((nodesT p).map nodD).map toNod)))) = true := h
  rw [toNods, List.length_map, nodes_len] at h
  simp only [Bool.and_eq_true] at h
  refine ⟨sc_of_rows p 0 (fun n hn => ?_) ?_, of_decide_eq_true h.2.1⟩
  · have := (isNode_nod (List.all_eq_true.mp h.2.2.1 (nodD n) (List.mem_map.mpr ⟨n, hn, rfl⟩))).2
    rw [toNod_nod] at this
    exact this
  · have h2 := h.2.2.2
    unfold areN at h2
    rw [Bool.and_eq_true, bndsP_T] at h2
    exact h2.2
theorem okG_of {h : Str} (g : headG h = true) : okG h = true := by
  unfold okG
  unfold headG at g
  rw [g]
  rfl
mutual
theorem ok_of_sc : ∀ (p : Pt) (bd : Nat), scT isWP bd p → okHT p
  | .mk b h as, bd, o => by
    rw [scT] at o
    rw [okHT]
    exact ⟨okG_of (scH.g isWP_w o.2.2.1 o.2.2.2.1), oks_of_sc as (bd + b) o.2.2.2.2⟩
theorem oks_of_sc : ∀ (ps : List Pt) (bd : Nat), scTs isWP bd ps → okHTs ps
  | [], _, _ => trivial
  | p :: r, bd, o => by
    rw [scTs] at o
    rw [okHTs]
    exact ⟨ok_of_sc p bd o.1, oks_of_sc r bd o.2⟩
end
theorem rdS_sound {z : Str} {p : Pt} (h : rdS z = some p) : z = textT 0 p ∧ scT isWP 0 p ∧ sizeT p ≤ 40 := by
  unfold rdS rdG at h
  cases q : tkP z.cps.toList with
  | none =>
    rw [q] at h
    cases h
  | some ts =>
    rw [q] at h
    cases q2 : rdTk ts with
    | none =>
      have h : (match (match rdTk ts with | none => none | some p => if areG true (nodesD p) = true then some p else none) with | none => none | some p => if areP (nodesD p) = true then some p else none) = some p := h
      rw [q2] at h
      cases h
    | some p' =>
      have h : (match (match rdTk ts with | none => none | some p => if areG true (nodesD p) = true then some p else none) with | none => none | some p => if areP (nodesD p) = true then some p else none) = some p := h
      rw [q2] at h
      dsimp only at h
      by_cases h1 : areG true (nodesD p') = true
      · rw [if_pos h1] at h
        dsimp only at h
        by_cases h2 : areP (nodesD p') = true
        · rw [if_pos h2] at h
          cases h
          obtain ⟨a, b⟩ := sc_of_are h2
          refine ⟨?_, a, b⟩
          have e := tk_sound _ _ ts (Nat.le_refl _) q
          rw [rdTk_sound q2] at e
          rw [text_cat, e]
        · rw [if_neg h2] at h
          cases h
      · rw [if_neg h1] at h
        cases h
theorem rdS_all {p : Pt} (o : scT isWP 0 p) (hs : sizeT p ≤ 40) : rdS (textT 0 p) = some p := by
  have ha := are_T isWP_w o hs
  unfold rdS rdG
  rw [tk_T isWP_w o]
  show (match (match rdTk (toksT 0 p) with | none => none | some p => if areG true (nodesD p) = true then some p else none) with | none => none | some p => if areP (nodesD p) = true then some p else none) = some p
  rw [rdTk_all (ok_of_sc p 0 o) hs]
  dsimp only
  rw [if_pos (areG_true ha)]
  dsimp only
  rw [if_pos ha]
/-- both readers agree where what is told is no more than is asked -/
theorem agree {z : Str} (h : ∀ p, toldR 64 z.cps.toList 0 = some p → scT isWP 0 p ∧ sizeT p ≤ 40) : rdS z = toldR 64 z.cps.toList 0 := by
  cases q : toldR 64 z.cps.toList 0 with
  | some p =>
    obtain ⟨h1, h2⟩ := h p q
    have e := (told_sound _ _ _ _ q).1
    have ez : z = textT 0 p := by rw [text_cat, ← e]
    rw [ez]
    exact rdS_all h1 h2
  | none =>
    cases q2 : rdS z with
    | none => rfl
    | some p =>
      obtain ⟨e, h1, h2⟩ := rdS_sound q2
      have := told_all 64 p 0 (by omega) h1
      rw [toks_cat, ← e, q] at this
      cases this
/-! ### counting -/
mutual
/-- all variables that are bound -/
def tbT : Pt → Nat
  | .mk b _ as => b + tbTs as
def tbTs : List Pt → Nat
  | [] => 0
  | p :: r => tbT p + tbTs r
end
mutual
/-- how often variables are bound -/
def grT : Pt → Nat
  | .mk b _ as => (if b = 0 then 0 else 1) + grTs as
def grTs : List Pt → Nat
  | [] => 0
  | p :: r => grT p + grTs r
end
theorem isW_count {t : Str} (h : isWtok t = true) : t.cps.toList.count 32 = 0 ∧ t.cps.toList.count 92 = 0 ∧ t.cps.toList.count 46 = 0 ∧ t.cps.toList.count 40 = 0 := by
  have q := isW_not h
  exact ⟨List.count_eq_zero.mpr q.1, List.count_eq_zero.mpr q.2.2.2.2, List.count_eq_zero.mpr q.2.2.2.1, List.count_eq_zero.mpr q.2.1⟩
theorem bin_count : ∀ (b bd : Nat), bd + (b + 1) ≤ 100 → (catL (binT bd (b + 1))).count 32 = b + 1 ∧ (catL (binT bd (b + 1))).count 92 = 0 ∧ (catL (binT bd (b + 1))).count 46 = 1 ∧ (catL (binT bd (b + 1))).count 40 = 0
  | 0, bd, hb => by
    have h := isW_count (xS_isW bd (by omega))
    show ((xS bd).cps.toList ++ ([46, 32] ++ [])).count 32 = _ ∧ ((xS bd).cps.toList ++ ([46, 32] ++ [])).count 92 = _ ∧ ((xS bd).cps.toList ++ ([46, 32] ++ [])).count 46 = _ ∧ ((xS bd).cps.toList ++ ([46, 32] ++ [])).count 40 = _
    simp only [List.count_append]
    rw [h.1, h.2.1, h.2.2.1, h.2.2.2]
    decide
  | b + 1, bd, hb => by
    have h := isW_count (xS_isW bd (by omega))
    have ih := bin_count b (bd + 1) (by omega)
    show ((xS bd).cps.toList ++ ([32] ++ catL (binT (bd + 1) (b + 1)))).count 32 = _ ∧ ((xS bd).cps.toList ++ ([32] ++ catL (binT (bd + 1) (b + 1)))).count 92 = _ ∧ ((xS bd).cps.toList ++ ([32] ++ catL (binT (bd + 1) (b + 1)))).count 46 = _ ∧ ((xS bd).cps.toList ++ ([32] ++ catL (binT (bd + 1) (b + 1)))).count 40 = _
    simp only [List.count_append]
    rw [h.1, h.2.1, h.2.2.1, h.2.2.2, ih.1, ih.2.1, ih.2.2.1, ih.2.2.2, show ([32] : List Nat).count 32 = 1 by decide, show ([32] : List Nat).count 92 = 0 by decide, show ([32] : List Nat).count 46 = 0 by decide, show ([32] : List Nat).count 40 = 0 by decide]
    omega
theorem hd_count {b bd : Nat} (hb : bd + b ≤ 100) : (catL (headToks bd b)).count 32 = b ∧ (catL (headToks bd b)).count 92 = (if b = 0 then 0 else 1) ∧ (catL (headToks bd b)).count 46 = (if b = 0 then 0 else 1) ∧ (catL (headToks bd b)).count 40 = 0 := by
  cases b with
  | zero => exact ⟨rfl, rfl, rfl, rfl⟩
  | succ b =>
    have h := bin_count b bd hb
    unfold headToks
    rw [if_neg (by omega), if_neg (by omega), catL_cons]
    show ([92] ++ catL (binT bd (b + 1))).count 32 = _ ∧ ([92] ++ catL (binT bd (b + 1))).count 92 = _ ∧ ([92] ++ catL (binT bd (b + 1))).count 46 = _ ∧ ([92] ++ catL (binT bd (b + 1))).count 40 = _
    simp only [List.count_append]
    rw [h.1, h.2.1, h.2.2.1, h.2.2.2, show ([92] : List Nat).count 32 = 0 by decide, show ([92] : List Nat).count 92 = 1 by decide, show ([92] : List Nat).count 46 = 0 by decide, show ([92] : List Nat).count 40 = 0 by decide]
    omega
section
variable {W : Str → Prop} (hW : WordsP W)
include hW
mutual
theorem T_count : ∀ (p : Pt) (bd : Nat), scT W bd p → (catL (toksT bd p)).count 32 + 1 = sizeT p + tbT p ∧ (catL (toksT bd p)).count 92 = grT p ∧ (catL (toksT bd p)).count 46 = grT p ∧ (catL (toksT bd p)).count 40 + 1 ≤ sizeT p
  | .mk b h as, bd, o => by
    rw [scT] at o
    have h1 := hd_count o.2.2.1
    have h2 := isW_count (scH_isW hW o.2.2.1 o.2.2.2.1)
    have h3 := Ts_count as (bd + b) o.2.2.2.2
    rw [toksT, catL_app, catL_cons]
    simp only [List.count_append]
    rw [h1.1, h1.2.1, h1.2.2.1, h1.2.2.2, h2.1, h2.2.1, h2.2.2.1, h2.2.2.2, h3.1, h3.2.1, h3.2.2.1, sizeT, tbT, grT]
    have h4 := h3.2.2.2
    omega
theorem Ts_count : ∀ (ps : List Pt) (bd : Nat), scTs W bd ps → (catL (argToks bd ps)).count 32 = sizeTs ps + tbTs ps ∧ (catL (argToks bd ps)).count 92 = grTs ps ∧ (catL (argToks bd ps)).count 46 = grTs ps ∧ (catL (argToks bd ps)).count 40 ≤ sizeTs ps
  | [], _, _ => by
    rw [argToks, sizeTs, tbTs, grTs]
    decide
  | p :: r, bd, o => by
    rw [scTs] at o
    have h1 := T_count p bd o.1
    have h2 := Ts_count r bd o.2
    rw [arg_cat, sizeTs, tbTs, grTs]
    show ([32] ++ ((if flatT p = true then catL (toksT bd p) else [40] ++ (catL (toksT bd p) ++ [41])) ++ catL (argToks bd r))).count 32 = _ ∧ ([32] ++ ((if flatT p = true then catL (toksT bd p) else [40] ++ (catL (toksT bd p) ++ [41])) ++ catL (argToks bd r))).count 92 = _ ∧ ([32] ++ ((if flatT p = true then catL (toksT bd p) else [40] ++ (catL (toksT bd p) ++ [41])) ++ catL (argToks bd r))).count 46 = _ ∧ ([32] ++ ((if flatT p = true then catL (toksT bd p) else [40] ++ (catL (toksT bd p) ++ [41])) ++ catL (argToks bd r))).count 40 ≤ _
    split
    all_goals
      simp only [List.count_append]
      rw [h2.1, h2.2.1, h2.2.2.1, h1.2.1, h1.2.2.1]
      have h3 := h1.1
      have h4 := h1.2.2.2
      have h5 := h2.2.2.2
      simp only [show ([32] : List Nat).count 32 = 1 by decide, show ([32] : List Nat).count 92 = 0 by decide, show ([32] : List Nat).count 46 = 0 by decide, show ([32] : List Nat).count 40 = 0 by decide, show ([40] : List Nat).count 32 = 0 by decide, show ([40] : List Nat).count 92 = 0 by decide, show ([40] : List Nat).count 46 = 0 by decide, show ([40] : List Nat).count 40 = 1 by decide, show ([41] : List Nat).count 32 = 0 by decide, show ([41] : List Nat).count 92 = 0 by decide, show ([41] : List Nat).count 46 = 0 by decide, show ([41] : List Nat).count 40 = 0 by decide]
      omega
end
end
end KP
/-! KP66: law k16: texts near the text of a program. -/
namespace KP
open PySem L2 FP
variable [FP.Tabl]
theorem bin_mem : ∀ (b bd k : Nat), k < b + 1 → ∀ c ∈ (xS (bd + k)).cps.toList, c ∈ catL (binT bd (b + 1))
  | 0, bd, k, hk, c, hc => by
    rw [show bd + k = bd by omega] at hc
    exact List.mem_append_left _ hc
  | b + 1, bd, 0, hk, c, hc => List.mem_append_left _ hc
  | b + 1, bd, k + 1, hk, c, hc => by
    rw [show bd + (k + 1) = bd + 1 + k by omega] at hc
    exact List.mem_append_right _ (List.mem_append_right [32] (bin_mem b (bd + 1) k (by omega) c hc))
theorem six_in : 54 ∈ (xS 6).cps.toList := by decide +kernel
theorem hd_six {b bd : Nat} (hb : bd ≤ 6) (h : 54 ∉ catL (headToks bd b)) : bd + b ≤ 6 := by
  cases b with
  | zero => omega
  | succ b =>
    by_cases q : bd + (b + 1) ≤ 6
    · exact q
    · refine absurd ?_ h
      unfold headToks
      rw [if_neg (by omega)]
      refine List.mem_append_right _ (bin_mem b bd (6 - bd) (by omega) 54 ?_)
      rw [show bd + (6 - bd) = 6 by omega]
      exact six_in
mutual
theorem lev6 : ∀ (p : Pt) (bd : Nat), scL bd p → 54 ∉ catL (toksT bd p) → bd ≤ 6 → scT isWP bd p ∧ tbT p ≤ 6 * grT p
  | .mk b h as, bd, o, hn, hb => by
    rw [scL] at o
    rw [toksT, catL_app, catL_cons] at hn
    have h6 := hd_six hb (fun m => hn (List.mem_append_left _ m))
    obtain ⟨h1, h2⟩ := lev6s as (bd + b) o.2.2 (fun m => hn (List.mem_append_right _ (List.mem_append_right _ m))) h6
    rw [scT, tbT, grT]
    refine ⟨⟨by omega, o.1, by omega, headB_sc o.2.1, h1⟩, ?_⟩
    split <;> omega
theorem lev6s : ∀ (ps : List Pt) (bd : Nat), scLs bd ps → 54 ∉ catL (argToks bd ps) → bd ≤ 6 → scTs isWP bd ps ∧ tbTs ps ≤ 6 * grTs ps
  | [], _, _, _, _ => by
    rw [tbTs, grTs]
    exact ⟨trivial, by omega⟩
  | p :: r, bd, o, hn, hb => by
    rw [scLs] at o
    rw [arg_cat] at hn
    have h1 := lev6 p bd o.1 (fun m => hn (List.mem_cons_of_mem _ (List.mem_append_left _ (by
      split
      · exact m
      · exact List.mem_cons_of_mem _ (List.mem_append_left _ m))))) hb
    have h2 := lev6s r bd o.2 (fun m => hn (List.mem_cons_of_mem _ (List.mem_append_right _ m))) hb
    rw [scTs, tbTs, grTs]
    exact ⟨⟨h1.1, h2.1⟩, by have := h1.2; have := h2.2; omega⟩
end
mutual
theorem gr_tb : ∀ (p : Pt), grT p ≤ tbT p
  | .mk b h as => by
    have := gr_tbs as
    rw [grT, tbT]
    split <;> omega
theorem gr_tbs : ∀ (ps : List Pt), grTs ps ≤ tbTs ps
  | [] => by rw [grTs, tbTs]; exact Nat.le_refl 0
  | p :: r => by
    have h1 := gr_tb p
    have h2 := gr_tbs r
    rw [grTs, tbTs]
    omega
end
theorem bin_len : ∀ (b bd : Nat), bd + (b + 1) ≤ 100 → (catL (binT bd (b + 1))).length ≤ 4 * (b + 1) + 1
  | 0, bd, hb => by
    have h := xS_len (k := bd) (by omega)
    show ((xS bd).cps.toList ++ ([46, 32] ++ [])).length ≤ _
    rw [List.length_append, ← str_len]
    show (xS bd).length + 2 ≤ _
    omega
  | b + 1, bd, hb => by
    have h := xS_len (k := bd) (by omega)
    have ih := bin_len b (bd + 1) (by omega)
    show ((xS bd).cps.toList ++ ([32] ++ catL (binT (bd + 1) (b + 1)))).length ≤ _
    rw [List.length_append, List.length_append, ← str_len]
    show (xS bd).length + (1 + _) ≤ _
    omega
theorem isA_small : ∀ c, isA c = true → c < 128 := by
  intro c h
  unfold isA at h
  have h := of_decide_eq_true h
  have k : ∀ c ∈ letters ++ digL, c < 128 := by decide +kernel
  exact k c h
theorem bin_small : ∀ (b bd : Nat), bd + (b + 1) ≤ 100 → ∀ c ∈ catL (binT bd (b + 1)), c < 128
  | 0, bd, hb, c, hc => by
    rcases List.mem_append.mp hc with hc | hc
    · exact isA_small c ((isW_all (xS_isW bd (by omega))).2 c hc)
    · have k : ∀ c ∈ ([46, 32] ++ [] : List Nat), c < 128 := by decide
      exact k c hc
  | b + 1, bd, hb, c, hc => by
    rcases List.mem_append.mp hc with hc | hc
    · exact isA_small c ((isW_all (xS_isW bd (by omega))).2 c hc)
    · rcases List.mem_append.mp (show c ∈ [32] ++ catL (binT (bd + 1) (b + 1)) from hc) with hc | hc
      · have k : ∀ c ∈ ([32] : List Nat), c < 128 := by decide
        exact k c hc
      · exact bin_small b (bd + 1) (by omega) c hc
section
variable {W : Str → Prop} (hW : WordsP W)
include hW
mutual
theorem T_len : ∀ (p : Pt) (bd : Nat), scT W bd p → (catL (toksT bd p)).length + 3 ≤ 13 * sizeT p + 4 * tbT p
  | .mk b h as, bd, o => by
    rw [scT] at o
    have h1 : (catL (headToks bd b)).length ≤ 4 * b + 2 := by
      cases b with
      | zero => exact Nat.zero_le _
      | succ b =>
        unfold headToks
        rw [if_neg (by omega)]
        have := bin_len b bd o.2.2.1
        show (92 :: catL (binT bd (b + 1))).length ≤ _
        rw [List.length_cons]
        omega
    have h2 := scH.len hW o.2.2.1 o.2.2.2.1
    have h3 := Ts_len as (bd + b) o.2.2.2.2
    rw [str_len] at h2
    rw [toksT, catL_app, catL_cons, List.length_append, List.length_append, sizeT, tbT]
    omega
theorem Ts_len : ∀ (ps : List Pt) (bd : Nat), scTs W bd ps → (catL (argToks bd ps)).length ≤ 13 * sizeTs ps + 4 * tbTs ps
  | [], _, _ => by
    rw [argToks]
    exact Nat.zero_le _
  | p :: r, bd, o => by
    rw [scTs] at o
    have h1 := T_len p bd o.1
    have h2 := Ts_len r bd o.2
    rw [arg_cat, List.length_cons, List.length_append, sizeTs, tbTs]
    split
    · omega
    · rw [List.length_cons, List.length_append, List.length_singleton]
      omega
end
mutual
theorem T_small : ∀ (p : Pt) (bd : Nat), scT W bd p → ∀ c ∈ catL (toksT bd p), c < 128
  | .mk b h as, bd, o, c, hc => by
    rw [scT] at o
    rw [toksT, catL_app, catL_cons] at hc
    rcases List.mem_append.mp hc with hc | hc
    · cases b with
      | zero => cases hc
      | succ b =>
        unfold headToks at hc
        rw [if_neg (by omega)] at hc
        rcases List.mem_append.mp (show c ∈ [92] ++ catL (binT bd (b + 1)) from hc) with hc | hc
        · rw [List.mem_singleton.mp hc]
          decide
        · exact bin_small b bd o.2.2.1 c hc
    · rcases List.mem_append.mp hc with hc | hc
      · exact isA_small c ((isW_all (scH_isW hW o.2.2.1 o.2.2.2.1)).2 c hc)
      · exact Ts_small as (bd + b) o.2.2.2.2 c hc
theorem Ts_small : ∀ (ps : List Pt) (bd : Nat), scTs W bd ps → ∀ c ∈ catL (argToks bd ps), c < 128
  | [], _, _, c, hc => by
    rw [argToks] at hc
    cases hc
  | p :: r, bd, o, c, hc => by
    rw [scTs] at o
    rw [arg_cat] at hc
    rcases List.mem_cons.mp hc with hc | hc
    · rw [hc]
      decide
    · rcases List.mem_append.mp hc with hc | hc
      · split at hc
        · exact T_small p bd o.1 c hc
        · rcases List.mem_cons.mp hc with hc | hc
          · rw [hc]
            decide
          · rcases List.mem_append.mp hc with hc | hc
            · exact T_small p bd o.1 c hc
            · rw [List.mem_singleton.mp hc]
              decide
      · exact Ts_small r bd o.2 c hc
end
end
/-! ### bent -/
def insL : List Str := [" ", "(", ")", "x0", "x1", "f", "\\x0. ", "\\", ". ", "x", ""]
theorem ins_facts : ∀ s ∈ insL, s.cps.toList.length ≤ 5 ∧ s.cps.toList.count 32 ≤ 1 ∧ s.cps.toList.count 40 ≤ 1 ∧ 54 ∉ s.cps.toList ∧ ∀ c ∈ s.cps.toList, c < 128 := by decide +kernel
def bentL (xs : List Nat) (a m : Nat) (s : Str) : List Nat := xs.take a ++ s.cps.toList ++ xs.drop (a + m)
theorem three_cut (xs : List Nat) (a m : Nat) : xs = xs.take a ++ ((xs.drop a).take m ++ xs.drop (a + m)) := by
  have e : (xs.drop a).take m ++ (xs.drop a).drop m = xs.drop a := List.take_append_drop m _
  rw [List.drop_drop] at e
  rw [e, List.take_append_drop]
theorem count_cut (xs : List Nat) (a m c : Nat) : xs.count c = (xs.take a).count c + (((xs.drop a).take m).count c + (xs.drop (a + m)).count c) := by
  conv => lhs; rw [three_cut xs a m]
  rw [List.count_append, List.count_append]
theorem two_count : ∀ (xs : List Nat), xs.count 92 + xs.count 46 ≤ xs.length
  | [] => Nat.le_refl 0
  | c :: r => by
    have ih := two_count r
    rw [List.count_cons, List.count_cons, List.length_cons]
    by_cases h : c = 92
    · subst h
      rw [if_pos (by decide), if_neg (by decide)]
      omega
    · rw [if_neg (by simpa using h)]
      split <;> omega
/-- the state of a text that is bent -/
structure TI (k : Nat) (p : Pt) : Prop where
  sc : scT isWP 0 p
  sz : sizeT p ≤ 19
  six : 54 ∉ catL (toksT 0 p)
  sp : sizeT p + tbT p ≤ 30 + k
  gr : tbT p ≤ 6 * grT p
/-- how deep the law's reader can go -/
def deepL (xs : List Nat) : Nat := 2 * xs.count 40 + (if 32 ∈ xs then 1 else 0)
section
variable {k : Nat} {p : Pt} {a m : Nat} {s : Str} (t : TI k p) (hk : k ≤ 11) (hm : m ≤ 3) (hs : s ∈ insL)
include t hk hm hs
theorem bent_len : (bentL (catL (toksT 0 p)) a m s).length ≤ 500 := by
  have h1 := T_len isWP_w p 0 t.sc
  have h2 := t.sz
  have h3 := t.sp
  have h4 := (ins_facts s hs).1
  unfold bentL
  rw [List.length_append, List.length_append, List.length_take, List.length_drop]
  omega
theorem bent_small : ∀ c ∈ bentL (catL (toksT 0 p)) a m s, c < 128 := by
  intro c hc
  unfold bentL at hc
  rcases List.mem_append.mp hc with hc | hc
  · rcases List.mem_append.mp hc with hc | hc
    · exact T_small isWP_w p 0 t.sc c (List.mem_of_mem_take hc)
    · exact (ins_facts s hs).2.2.2.2 c hc
  · exact T_small isWP_w p 0 t.sc c (List.mem_of_mem_drop hc)
theorem bent_deep : deepL (bentL (catL (toksT 0 p)) a m s) < 60 := by
  have h1 := (T_count isWP_w p 0 t.sc).2.2.2
  have h2 := t.sz
  have h3 := (ins_facts s hs).2.2.1
  have h4 := count_cut (catL (toksT 0 p)) a m 40
  unfold deepL bentL
  rw [List.count_append, List.count_append]
  split <;> omega
theorem bent_told {p' : Pt} (h : toldR 64 (bentL (catL (toksT 0 p)) a m s) 0 = some p') : bentL (catL (toksT 0 p)) a m s = catL (toksT 0 p') ∧ scT isWP 0 p' ∧ sizeT p' ≤ 40 ∧ (sizeT p' < 20 → TI (k + 1) p') := by
  obtain ⟨e, o⟩ := told_sound _ _ _ _ h
  have h6 : 54 ∉ catL (toksT 0 p') := by
    rw [← e]
    intro hc
    unfold bentL at hc
    rcases List.mem_append.mp hc with hc | hc
    · rcases List.mem_append.mp hc with hc | hc
      · exact t.six (List.mem_of_mem_take hc)
      · exact (ins_facts s hs).2.2.2.1 hc
    · exact t.six (List.mem_of_mem_drop hc)
  obtain ⟨h1, h2⟩ := lev6 p' 0 o h6 (Nat.zero_le _)
  have c0 := T_count isWP_w p 0 t.sc
  have c1 := T_count isWP_w p' 0 h1
  rw [← e] at c1
  have f1 := (ins_facts s hs).2.1
  have g := gr_tb p'
  have a32 := count_cut (catL (toksT 0 p)) a m 32
  have a92 := count_cut (catL (toksT 0 p)) a m 92
  have a46 := count_cut (catL (toksT 0 p)) a m 46
  have w := two_count (((catL (toksT 0 p)).drop a).take m)
  have wl : (((catL (toksT 0 p)).drop a).take m).length ≤ 3 := by
    rw [List.length_take]
    omega
  have b32 : (bentL (catL (toksT 0 p)) a m s).count 32 = ((catL (toksT 0 p)).take a).count 32 + s.cps.toList.count 32 + ((catL (toksT 0 p)).drop (a + m)).count 32 := by
    unfold bentL
    rw [List.count_append, List.count_append]
  have b92 : (bentL (catL (toksT 0 p)) a m s).count 92 = ((catL (toksT 0 p)).take a).count 92 + s.cps.toList.count 92 + ((catL (toksT 0 p)).drop (a + m)).count 92 := by
    unfold bentL
    rw [List.count_append, List.count_append]
  have b46 : (bentL (catL (toksT 0 p)) a m s).count 46 = ((catL (toksT 0 p)).take a).count 46 + s.cps.toList.count 46 + ((catL (toksT 0 p)).drop (a + m)).count 46 := by
    unfold bentL
    rw [List.count_append, List.count_append]
  obtain ⟨c1a, c1b, c1c, _⟩ := c1
  obtain ⟨c0a, c0b, c0c, _⟩ := c0
  have z1 := t.sz
  have z2 := t.sp
  have z3 := t.gr
  refine ⟨e, h1, ?_, fun h20 => ⟨h1, by omega, h6, by omega, h2⟩⟩
  omega
end
/-! ### drawn -/
mutual
/-- a drawn program, not higher than so much -/
def dhT (L : List Str) : Nat → Nat → Pt → Prop
  | 0, _, _ => False
  | H + 1, bd, .mk b h as => b ≤ 2 ∧ as.length ≤ 3 ∧ scH (fun z => z ∈ L) (bd + b) h ∧ dhTs L H (bd + b) as
def dhTs (L : List Str) : Nat → Nat → List Pt → Prop
  | _, _, [] => True
  | H, bd, p :: r => dhT L H bd p ∧ dhTs L H bd r
end
end KP
/-! KP67: law k16: drawn programs; what the defs do. -/
namespace KP
open PySem L2 FP
variable [FP.Tabl]
mutual
theorem dh_mono {L : List Str} : ∀ (p : Pt) (H H' bd : Nat), dhT L H bd p → H ≤ H' → dhT L H' bd p
  | .mk b h as, 0, _, _, o, _ => by
    rw [dhT] at o
    exact o.elim
  | .mk b h as, H + 1, 0, _, _, hl => by omega
  | .mk b h as, H + 1, H' + 1, bd, o, hl => by
    rw [dhT] at o ⊢
    exact ⟨o.1, o.2.1, o.2.2.1, dhs_mono as H H' (bd + b) o.2.2.2 (by omega)⟩
theorem dhs_mono {L : List Str} : ∀ (ps : List Pt) (H H' bd : Nat), dhTs L H bd ps → H ≤ H' → dhTs L H' bd ps
  | [], _, _, _, _, _ => trivial
  | p :: r, H, H', bd, o, hl => by
    rw [dhTs] at o ⊢
    exact ⟨dh_mono p H H' bd o.1 hl, dhs_mono r H H' bd o.2 hl⟩
end
theorem dhs_app {L : List Str} {H : Nat} : ∀ {bd : Nat} {ps qs : List Pt}, dhTs L H bd ps → dhTs L H bd qs → dhTs L H bd (ps ++ qs)
  | _, [], _, _, h => h
  | bd, p :: r, qs, h1, h2 => by
    rw [List.cons_append, dhTs]
    rw [dhTs] at h1
    exact ⟨h1.1, dhs_app h1.2 h2⟩
/-- words without a six -/
def no6L (L : List Str) : Prop := ∀ h ∈ L, isWordS h = true ∧ 54 ∉ h.cps.toList
theorem xS_no6 : ∀ k < 6, 54 ∉ (xS k).cps.toList := by decide +kernel
theorem bin_no6 : ∀ (b bd : Nat), bd + (b + 1) ≤ 6 → 54 ∉ catL (binT bd (b + 1))
  | 0, bd, hb, m => by
    rcases List.mem_append.mp m with m | m
    · exact xS_no6 bd (by omega) m
    · have k : 54 ∉ ([46, 32] ++ [] : List Nat) := by decide
      exact k m
  | b + 1, bd, hb, m => by
    rcases List.mem_append.mp m with m | m
    · exact xS_no6 bd (by omega) m
    · rcases List.mem_append.mp (show 54 ∈ [32] ++ catL (binT (bd + 1) (b + 1)) from m) with m | m
      · have k : 54 ∉ ([32] : List Nat) := by decide
        exact k m
      · exact bin_no6 b (bd + 1) (by omega) m
theorem hd_no6 {b bd : Nat} (hb : bd + b ≤ 6) : 54 ∉ catL (headToks bd b) := by
  cases b with
  | zero => intro m; cases m
  | succ b =>
    unfold headToks
    rw [if_neg (by omega)]
    intro m
    rcases List.mem_append.mp (show 54 ∈ [92] ++ catL (binT bd (b + 1)) from m) with m | m
    · have k : 54 ∉ ([92] : List Nat) := by decide
      exact k m
    · exact bin_no6 b bd hb m
section
variable {L : List Str} (hL : no6L L)
include hL
mutual
theorem dh_all : ∀ (p : Pt) (H bd : Nat), dhT L H bd p → bd + 2 * H ≤ 6 → scT isWP bd p ∧ 54 ∉ catL (toksT bd p) ∧ tbT p ≤ 2 * sizeT p ∧ tbT p ≤ 2 * grT p
  | .mk b h as, 0, _, o, _ => by
    rw [dhT] at o
    exact o.elim
  | .mk b h as, H + 1, bd, o, hl => by
    rw [dhT] at o
    obtain ⟨h1, h2, h3, h4⟩ := dhs_all as H (bd + b) o.2.2.2 (by omega)
    have o1 := o.1
    have o2 := o.2.1
    have hh : scH isWP (bd + b) h ∧ 54 ∉ h.cps.toList := by
      rcases o.2.2.1 with q | ⟨k, hk, e⟩
      · exact ⟨.inl (hL h q).1, (hL h q).2⟩
      · refine ⟨.inr ⟨k, hk, e⟩, ?_⟩
        rw [e]
        exact xS_no6 k (by omega)
    rw [scT, toksT, catL_app, catL_cons, tbT, sizeT, grT]
    refine ⟨⟨by omega, by omega, by omega, hh.1, h1⟩, fun m => ?_, by omega, by split <;> omega⟩
    rcases List.mem_append.mp m with m | m
    · exact hd_no6 (by omega) m
    · rcases List.mem_append.mp m with m | m
      · exact hh.2 m
      · exact h2 m
theorem dhs_all : ∀ (ps : List Pt) (H bd : Nat), dhTs L H bd ps → bd + 2 * H ≤ 6 → scTs isWP bd ps ∧ 54 ∉ catL (argToks bd ps) ∧ tbTs ps ≤ 2 * sizeTs ps ∧ tbTs ps ≤ 2 * grTs ps
  | [], _, _, _, _ => by
    rw [tbTs, argToks]
    exact ⟨trivial, List.not_mem_nil, Nat.zero_le _, Nat.zero_le _⟩
  | p :: r, H, bd, o, hl => by
    rw [dhTs] at o
    obtain ⟨h1, h2, h3, h4⟩ := dh_all p H bd o.1 hl
    obtain ⟨g1, g2, g3, g4⟩ := dhs_all r H bd o.2 hl
    rw [scTs, arg_cat, tbTs, sizeTs, grTs]
    refine ⟨⟨h1, g1⟩, fun m => ?_, by omega, by omega⟩
    rcases List.mem_cons.mp m with m | m
    · cases m
    · rcases List.mem_append.mp m with m | m
      · split at m
        · exact h2 m
        · rcases List.mem_cons.mp m with m | m
          · cases m
          · rcases List.mem_append.mp m with m | m
            · exact h2 m
            · have k : 54 ∉ ([41] : List Nat) := by decide
              exact k m
      · exact g2 m
end
end
def wL16 : List Str := ["f", "gg", "x"]
theorem wL16_no6 : no6L wL16 := by
  intro h hh
  simp only [wL16, List.mem_cons, List.not_mem_nil, or_false] at hh
  rcases hh with rfl | rfl | rfl <;> decide +kernel
theorem TI.start {p : Pt} (h : dhT wL16 3 0 p) (hs : sizeT p ≤ 10) : TI 0 p := by
  obtain ⟨h1, h2, h3, h4⟩ := dh_all wL16_no6 p 3 0 h (by decide)
  exact ⟨h1, by omega, h2, by omega, by omega⟩
/-- how high a drawn program of so many nodes can be -/
def hB (m : Nat) : Nat := if m ≤ 1 then 1 else if m ≤ 4 then 2 else 3
theorem hB_pos (m : Nat) : hB m = (hB m - 1) + 1 := by
  unfold hB
  split
  · rfl
  · split <;> rfl
theorem hB_less {m l : Nat} (h1 : 0 < l) (h2 : l ≤ m - 1) (h3 : m ≤ 10) : hB (max 1 (l / 2)) ≤ hB m - 1 := by
  unfold hB
  rw [if_neg (show ¬ m ≤ 1 by omega)]
  by_cases q : m ≤ 4
  · rw [if_pos q, if_pos (by omega)]
    exact Nat.le_refl _
  · rw [if_neg q]
    split
    · decide
    · rw [if_pos (by omega)]
      exact Nat.le_refl _
def f_drawnH (L : List Str) (d : Nat) : List D → M D := fun ds Q _ => match ds with
  | [.tok, .int bd, .int most] => ∃ (b m : Nat), bd = (b : Int) ∧ most = (m : Int) ∧ 1 ≤ m ∧ m < d ∧ m ≤ 10 ∧ b + 2 * m ≤ 90 ∧ ∀ p, dhT L (hB m) b p → sizeT p ≤ m → Q (ptD p)
  | _ => False
theorem nope_drawnH (L : List Str) (ds : List D) (Q : D → Prop) (E : XD → Prop) (h : f_drawnH L 0 ds Q E) : False := by
  unfold f_drawnH at h
  split at h
  · obtain ⟨_, _, _, _, _, h, _⟩ := h
    omega
  · exact h
/-! ### what the defs do -/
def opD (x : Nat × Nat) : D := .tup [.int (x.1 : Nat), .int (x.2 : Nat)]
def rdF (ts : List Str) (at' : Nat) (ns : List Nod) (op : List (Nat × Nat)) : FO := [("of_tokens", .d (.lst (ts.map .str))), ("of_at", .d (.int (at' : Nat))), ("of_nodes", .l (ns.map nodD)), ("of_open", .l (op.map opD))]
def tkD : Option (List Str) → D
  | none => .non
  | some ss => .lst (ss.map .str)
def f_tokens : List D → M D := fun ds Q _ => match ds with
  | [.str z] => okStr z ∧ Q (tkD (tkP z.cps.toList))
  | _ => False
def f_isnodeG : List D → M D := fun ds Q _ => match ds with
  | [d, .bl g] => okNodeD d ∧ Q (.bl (isNodeG g d))
  | _ => False
def f_arenodesG : List D → M D := fun ds Q _ => match ds with
  | [d, .bl g] => okNs d ∧ Q (.bl (areG g d))
  | _ => False
def f_rdinit : List D → (FO → Prop) → Prop := fun ds Q => match ds with
  | [.lst xs] => ∃ ts : List Str, xs = ts.map .str ∧ Q (rdF ts 0 [] [])
  | _ => False
/-- tokens that can be told -/
structure OkTs (ts : List Str) : Prop where
  n : ts.length ≤ 1000
  ok : ∀ t ∈ ts, okStr t
def f_tok : FO → List D → MO := fun fs ds Q _ => match ds with
  | [] => ∃ ts i ns op, fs = rdF ts i ns op ∧ OkTs ts ∧ Q (.str ((ts.drop i).headD "")) (rdF ts (i + 1) ns op)
  | _ => False
def f_binders : FO → List D → MO := fun fs ds Q _ => match ds with
  | [.int bd'] => ∃ ts i ns op bd, fs = rdF ts i ns op ∧ OkTs ts ∧ bd' = ((bd : Nat) : Int) ∧ bd ≤ 50000 ∧
      (bindHd bd (ts.drop i) = none → ∀ j, Q .non (rdF ts j ns op)) ∧
      (∀ c r, bindHd bd (ts.drop i) = some (c, r) → ∀ j, ts.drop j = r → Q (.int (c : Nat)) (rdF ts j ns op))
  | _ => False
def f_add : FO → List D → MO := fun fs ds Q _ => match ds with
  | [.int c'] => ∃ ts i ns op c, fs = rdF ts i ns op ∧ OkTs ts ∧ c' = ((c : Nat) : Int) ∧ ns.length ≤ 1000 ∧
      Q (.bl (okG ((ts.drop i).headD "") && decide (ns.length + 1 ≤ 40))) (rdF ts (i + 1) (ns ++ [(c, (ts.drop i).headD "", 0)]) op)
  | _ => False
def f_begin : FO → List D → MO := fun fs ds Q _ => match ds with
  | [] => ∃ ts i ns op, fs = rdF ts i ns op ∧ OkTs ts ∧ ns.length ≤ 1000 ∧ op.length ≤ 1000 ∧ ((op.getLast?.map (·.2)).getD 0) ≤ 50000 ∧
      (bindHd ((op.getLast?.map (·.2)).getD 0) (ts.drop i) = none → ∀ fs', Q (.bl false) fs') ∧
      (∀ c r, bindHd ((op.getLast?.map (·.2)).getD 0) (ts.drop i) = some (c, r) → ∀ j, ts.drop j = r → Q (.bl (okG (r.headD "") && decide (ns.length + 1 ≤ 40))) (rdF ts (j + 1) (ns ++ [(c, r.headD "", 0)]) (op ++ [(ns.length, (op.getLast?.map (·.2)).getD 0 + c)])))
  | _ => False
def f_goon : FO → List D → MO := fun fs ds Q _ => match ds with
  | [] => ∃ ts i F, fs = rdF ts i (nodesF F) (openF 0 0 F) ∧ OkTs ts ∧ F ≠ [] ∧ szF F ≤ 40 ∧ F.length ≤ 40 ∧ bdF 0 F ≤ 50000 ∧
      (goF F (ts.drop i) = none → ∀ fs', Q (.bl false) fs') ∧
      (∀ F' r, goF F (ts.drop i) = some (F', r) → ∀ j, ts.drop j = r → Q (.bl true) (rdF ts j (nodesF F') (openF 0 0 F')))
  | _ => False
def f_nodesof : List D → M D := fun ds Q _ => match ds with
  | [.str z] => okStr z ∧ Q (match rdG z with | none => .non | some p => nodesD p)
  | _ => False
def progX16 : XD := ⟨"ParseError", [("line", .non)]⟩
def f_progread : List D → M D := fun ds Q E => match ds with
  | [.cl c, .str z] => c = "Program" ∧ okStr z ∧ (∀ p, rdS z = some p → Q (progD p)) ∧ (rdS z = none → E progX16)
  | _ => False
def rdD (z : Str) : D := match rdS z with
  | none => .non
  | some p => nodesD p
def f_lawread : List D → M D := fun ds Q _ => match ds with
  | [.str z] => okStr z ∧ Q (rdD z)
  | _ => False
def f_ishead : List D → M D := fun ds Q _ => match ds with
  | [.str w, .int inner'] => ∃ inner : Nat, inner' = (inner : Int) ∧ okStr w ∧ inner ≤ 1000 ∧ Q (.bl (headB inner w))
  | _ => False
def clD (k : Nat) : Option (List Nat × List Nat) → D
  | none => .non
  | some (u, _) => .int ((k + u.length : Nat) : Int)
def f_closing : List D → M D := fun ds Q _ => match ds with
  | [.str z] => ∃ r, z.cps.toList = 40 :: r ∧ okStr z ∧ Q (clD 1 (closeL 1 r))
  | _ => False
def ptOD : Option Pt → D
  | none => .non
  | some p => ptD p
def f_ltold (n : Nat) : List D → M D := fun ds Q _ => match ds with
  | [.str z, .int bd'] => ∃ bd : Nat, bd' = (bd : Int) ∧ okStr z ∧ bd + z.length ≤ 900 ∧ deepL z.cps.toList < n ∧ Q (ptOD (toldR n z.cps.toList bd))
  | _ => False
theorem nope_ltold (ds : List D) (Q : D → Prop) (E : XD → Prop) (h : f_ltold 0 ds Q E) : False := by
  unfold f_ltold at h
  split at h
  · obtain ⟨_, _, _, _, h, _⟩ := h
    omega
  · exact h
def f_bent : List D → M D := fun ds Q _ => match ds with
  | [.tok, .str z] => okStr z ∧ z.length ≤ 900 ∧ ∀ a m s, m ≤ 3 → s ∈ insL → Q (.str ⟨(bentL z.cps.toList a m s).toArray⟩)
  | _ => False
end KP
/-! KP68: law k16: small steps for its defs. -/
namespace KP
open PySem L2 FP
variable [FP.Tabl]
theorem isNodeG_len {g : Bool} {xs : List D} (h : ¬ xs.length = 3) : isNodeG g (.tup xs) = false := by
  unfold isNodeG
  split
  · rename_i e
    cases e
    exact absurd rfl h
  · rfl
theorem isNodeG_nod {g : Bool} {d : D} (h : isNodeG g d = true) : d = nodD (toNod d) := by
  unfold isNodeG at h
  split at h
  · rename_i x hd y
    simp only [Bool.and_eq_true] at h
    obtain ⟨h1, h2, h3⟩ := h
    obtain ⟨b, rfl, hb⟩ := inRow_int h1
    obtain ⟨c, rfl, hc⟩ := inRow_int h2
    simp [toNod, nodD]
  · cases h
theorem nodsG_of {g : Bool} {xs : List D} (h : xs.all (isNodeG g) = true) : ∃ ns : List Nod, xs = ns.map nodD ∧ True ∧ ns = xs.map toNod := by
  rw [List.all_eq_true] at h
  refine ⟨xs.map toNod, ?_, trivial, rfl⟩
  rw [List.map_map]
  conv => lhs; rw [← List.map_id xs]
  exact List.map_congr_left fun d hd => isNodeG_nod (h d hd)
/-! ### the tokens of a text -/
def alnS : Str := "abcdefghijklmnopqrstuvwxyz" ++ "0123456789"
def sgnS : Str := " ()" ++ "\\" ++ "?"
theorem aln_cps : alnS.cps.toList = letters ++ digL := by decide +kernel
theorem sgn_cps : sgnS.cps.toList = signL := by decide +kernel
theorem aln_len : ("abcdefghijklmnopqrstuvwxyz" : Str).length + ("0123456789" : Str).length ≤ sizeLine := by decide +kernel
theorem sgn_len1 : (" ()" : Str).length + ("\\" : Str).length ≤ sizeLine := by decide +kernel
theorem sgn_len2 : ((" ()" : Str) ++ ("\\" : Str)).length + ("?" : Str).length ≤ sizeLine := by decide +kernel
theorem in_aln {c : Nat} {Q : D → Prop} (q : Q (.bl (isA c))) : rdIn (.str ⟨#[c]⟩) (.str alnS) Q := by
  show Q (.bl (decide (c ∈ alnS.cps.toList)))
  rw [aln_cps]
  exact q
theorem notin_sgn {c : Nat} {Q : D → Prop} (q : Q (.bl (!decide (c ∈ signL)))) : rdNotIn (.str ⟨#[c]⟩) (.str sgnS) Q := by
  show Q (.bl (!decide (c ∈ sgnS.cps.toList)))
  rw [sgn_cps]
  exact q
theorem word_goA {r : List Nat} {k : Nat} (h : k < (r.takeWhile isA).length) : ∃ c r', r.drop k = c :: r' ∧ isA c = true := by
  have hs := List.takeWhile_append_dropWhile (p := isA) (l := r)
  have hl : k < r.length := by
    rw [← hs, List.length_append]
    omega
  refine ⟨(r.takeWhile isA)[k], r.drop (k + 1), ?_, ?_⟩
  · rw [List.drop_eq_getElem_cons hl]
    congr 1
    have e : r[k]? = (r.takeWhile isA)[k]? := by
      rw (config := { occs := .pos [1] }) [← hs]
      rw [List.getElem?_append_left h]
    rw [List.getElem?_eq_getElem hl, List.getElem?_eq_getElem h] at e
    exact Option.some.inj e
  · exact takeWhile_all (List.getElem_mem h)
theorem word_endA : ∀ {r : List Nat}, r.drop (r.takeWhile isA).length = r.dropWhile isA
  | [] => rfl
  | x :: r => by
    rw [List.takeWhile_cons, List.dropWhile_cons]
    cases isA x with
    | true =>
      rw [if_pos rfl, if_pos rfl, List.length_cons, List.drop_succ_cons]
      exact word_endA
    | false =>
      rw [if_neg Bool.false_ne_true, if_neg Bool.false_ne_true]
      rfl
theorem take_twA : ∀ {r : List Nat}, r.take (r.takeWhile isA).length = r.takeWhile isA
  | [] => rfl
  | x :: r => by
    rw [List.takeWhile_cons]
    cases isA x with
    | true =>
      rw [if_pos rfl, List.length_cons, List.take_succ_cons, take_twA]
    | false =>
      rw [if_neg Bool.false_ne_true]
      rfl
theorem take_wordA {c : Nat} {r : List Nat} : (c :: r).take (1 + (r.takeWhile isA).length) = c :: r.takeWhile isA ∧ (c :: r).drop (1 + (r.takeWhile isA).length) = r.dropWhile isA := by
  rw [Nat.add_comm, List.take_succ_cons, List.drop_succ_cons]
  refine ⟨?_, word_endA⟩
  congr 1
  exact take_twA
abbrev dAln : DTE := dOp rdAdd (dC (.str "abcdefghijklmnopqrstuvwxyz")) (dC (.str "0123456789"))
abbrev dWordA : DTT := dAnd (dB (dOp rdNe (dSl (dVar 0) (dOSome (dOp rdAdd (dVar 2) (dVar 3))) (dOSome (dOp rdAdd (dOp rdAdd (dVar 2) (dVar 3)) (dC (.int 1))))) (dC (.str "")))) (dB (dOp rdIn (dOp rdIx (dVar 0) (dOp rdAdd (dVar 2) (dVar 3))) dAln))
theorem word_loopA {N : Nd} {z : Str} {pre r : List Nat} {c : Nat} {o : Sl} (hz : okStr z) (h : z.cps.toList = pre ++ c :: r) (hn : N.nx [Sl.d (.str z), o, Sl.d (.int (pre.length : Int)), Sl.d (.int (1 + ((r.takeWhile isA).length : Int)))]) :
    dWhile dWordA (dSet 3 (dOp rdAdd (dVar 3) (dC (.int 1)))) N [Sl.d (.str z), o, Sl.d (.int (pre.length : Int)), Sl.d (.int 1)] := by
  refine ⟨fun m ρ => ∃ k : Nat, k ≤ (r.takeWhile isA).length ∧ m = (r.takeWhile isA).length - k ∧ ρ = [Sl.d (.str z), o, Sl.d (.int (pre.length : Int)), Sl.d (.int (1 + (k : Int)))], ⟨_, 0, Nat.zero_le _, rfl, rfl⟩, ?_⟩
  rintro m ρ ⟨k, hk, rfl, rfl⟩
  have hp : z.cps.toList = (pre ++ c :: r.take k) ++ r.drop k := by
    rw [h, List.append_assoc, List.cons_append, List.take_append_drop]
  have hkr : k ≤ r.length := Nat.le_trans hk (List.takeWhile_sublist isA).length_le
  have hl : ((pre ++ c :: r.take k).length : Int) = (pre.length : Int) + (1 + (k : Int)) := by
    rw [List.length_append, List.length_cons, List.length_take]
    omega
  have e : cutS z (some ((pre.length : Int) + (1 + (k : Int)))) (some ((pre.length : Int) + (1 + (k : Int)) + 1)) = ⟨((r.drop k).take 1).toArray⟩ := cut_mid (k := 1) hp hl.symm (by rw [hl]; rfl)
  refine ⟨len_ok hz, ne_str ?_⟩
  rw [e]
  by_cases hlt : k < (r.takeWhile isA).length
  · obtain ⟨c', r', hd, hc⟩ := word_goA hlt
    rw [hd, decide_eq_false (by intro q; have := str_eq.mp q; cases this)]
    refine ⟨c', len_ok hz, at_mid (pre := pre ++ c :: r.take k) (rest := r') (by rw [hp, hd]) hl.symm, aln_len, in_aln ?_⟩
    rw [hc]
    refine ⟨_, ?_, k + 1, hlt, rfl, ?_⟩
    · omega
    · show [Sl.d (.str z), o, Sl.d (.int (pre.length : Int)), Sl.d (.int (1 + (k : Int) + 1))] = _
      rw [show (1 : Int) + (k : Int) + 1 = 1 + ((k + 1 : Nat) : Int) by omega]
  · have ek : k = (r.takeWhile isA).length := by omega
    have hd : r.drop k = r.dropWhile isA := by rw [ek]; exact word_endA
    rw [← ek] at hn
    cases q : r.dropWhile isA with
    | nil =>
      rw [hd, q, decide_eq_true (show (⟨(([] : List Nat).take 1).toArray⟩ : Str) = "" from rfl)]
      exact hn
    | cons c' r' =>
      rw [hd, q, decide_eq_false (by intro q; have := str_eq.mp q; cases this)]
      refine ⟨c', len_ok hz, at_mid (pre := pre ++ c :: r.take k) (rest := r') (by rw [hp, hd, q]) hl.symm, aln_len, in_aln ?_⟩
      rw [dropWhile_head q]
      exact hn
/-- what is found so far, and the rest -/
def LxA (z : Str) (found : List Str) (rest : List Nat) : Prop := tkP z.cps.toList = (tkP rest).map (found ++ ·)
theorem LxA.start (z : Str) : LxA z [] z.cps.toList := by
  unfold LxA
  cases tkP z.cps.toList <;> rfl
theorem LxA.stop {z : Str} {found : List Str} (h : LxA z found []) : tkP z.cps.toList = some found := by
  unfold LxA at h
  rw [h]
  show some (found ++ []) = _
  rw [List.append_nil]
theorem LxA.step {z : Str} {found : List Str} {rest rest' : List Nat} {s : Str} (h : LxA z found rest) (e : tkP rest = (tkP rest').map (List.cons s)) : LxA z (found ++ [s]) rest' := by
  unfold LxA at h ⊢
  rw [h, e]
  cases tkP rest' with
  | none => rfl
  | some ss => simp
def LIA (z : Str) (m : Nat) (ρ : FP.Env) : Prop := ∃ (pre rest : List Nat) (found : List Str) (o : Sl), z.cps.toList = pre ++ rest ∧ m = rest.length ∧ ρ = [Sl.d (.str z), Sl.own (found.map .str), Sl.d (.int (pre.length : Int)), o] ∧ LxA z found rest ∧ found.length ≤ pre.length
theorem LIA.start (z : Str) (o : Sl) : LIA z z.cps.toList.length [Sl.d (.str z), Sl.own [], Sl.d (.int 0), o] := ⟨[], _, [], o, rfl, rfl, rfl, LxA.start z, Nat.le_refl _⟩
theorem lexA_tail {z : Str} {pre rest : List Nat} {found : List Str} {k : Nat} {size : Int} (hz : okStr z) (h : z.cps.toList = pre ++ rest) (hx : LxA z (found ++ [⟨(rest.take k).toArray⟩]) (rest.drop k)) (hk : 0 < k) (hk2 : k ≤ rest.length) (hn : found.length ≤ pre.length) (hs : size = (k : Int)) :
    z.length ≤ sizeLine ∧ (found.map D.str).length < sizeLine ∧ ∃ m', m' < rest.length ∧ LIA z m' [Sl.d (.str z), Sl.own (found.map .str ++ [.str (cutS z (some (pre.length : Int)) (some ((pre.length : Int) + size)))]), Sl.d (.int ((pre.length : Int) + size)), Sl.d (.int size)] := by
  have hzl : z.length = pre.length + rest.length := by rw [str_len, h, List.length_append]
  have hz1 := hz.1
  refine ⟨len_ok hz, ?_, (rest.drop k).length, ?_, pre ++ rest.take k, rest.drop k, _, Sl.d (.int size), ?_, rfl, ?_, hx, ?_⟩
  · rw [List.length_map]
    exact Nat.lt_of_le_of_lt (show found.length ≤ 1000 by omega) (by decide)
  · rw [List.length_drop]
    omega
  · rw [List.append_assoc, List.take_append_drop]
    exact h
  · rw [cut_mid h rfl (by rw [hs]), List.map_append, hs, List.length_append, List.length_take]
    have e : ((pre.length + min k rest.length : Nat) : Int) = (pre.length : Int) + (k : Int) := by omega
    rw [e]
    rfl
  · rw [List.length_append, List.length_append, List.length_take]
    have e : [(⟨(rest.take k).toArray⟩ : Str)].length = 1 := rfl
    omega
end KP
/-! KP69: law k16: steps of Reader. -/
namespace KP
open PySem L2 FP
variable [FP.Tabl]
theorem xS_len6 {k : Nat} (h : k ≤ 100000) : (xS k).length ≤ 7 := by
  unfold xS
  rw [len_app]
  have h1 : ("x" : Str).length = 1 := by decide +kernel
  have h2 := PyProof.Rows.toString_length_le (v := (k : Int)) (by omega) (k := 6) (by decide) (by
    have : (10 : Int) ^ 6 = 1000000 := by decide
    omega)
  omega
theorem log_k {k : Nat} (h : k ≤ 100000) : ((k : Int)).natAbs.log2 < 1920 := by
  rw [Int.natAbs_natCast]
  by_cases h0 : k = 0
  · subst h0
    decide
  · have := (Nat.log2_lt h0 (k := 17)).mpr (by omega)
    omega
theorem ev_xsG {ρ : FP.Env} {f : DTE} {n : Nat} (hn : n ≤ 100000) (h : Ev f ρ (.int (n : Nat))) : Ev (dOp rdAdd (dC (.str "x")) (dCB rdStr (dCons f dNil))) ρ (.str (xS n)) := ev_op (x := .str "x") (y := .str (Str.ofString (toString (n : Int)))) (fun Q E q => q) (ev_cb (a1 h a0) fun Q q => ⟨log_k hn, q⟩) fun Q q => ⟨by
  have h1 := xS_len6 hn
  unfold xS at h1
  rw [len_app] at h1
  exact size_small (by omega), q⟩
def f_vartextG : List D → M D := fun ds Q _ => match ds with
  | [.int l] => ∃ k : Nat, l = (k : Int) ∧ k ≤ 100000 ∧ Q (.str (xS k))
  | _ => False
def hdT (ts : List Str) (i : Nat) : Str := (ts.drop i).headD ""
theorem hdT_lt {ts : List Str} {i : Nat} (h : i < ts.length) : (ts.map D.str)[i]? = some (.str (hdT ts i)) := by
  unfold hdT
  rw [List.getElem?_map, List.getElem?_eq_getElem h, List.drop_eq_getElem_cons h]
  rfl
theorem hdT_ge {ts : List Str} {i : Nat} (h : ¬ i < ts.length) : hdT ts i = "" := by
  unfold hdT
  rw [List.drop_of_length_le (by omega)]
  rfl
theorem hdT_ok {ts : List Str} (o : OkTs ts) (i : Nat) : okStr (hdT ts i) := by
  by_cases h : i < ts.length
  · unfold hdT
    rw [List.drop_eq_getElem_cons h]
    exact o.ok _ (List.getElem_mem h)
  · rw [hdT_ge h]
    exact ⟨by decide +kernel, by decide +kernel⟩
theorem hdT_nil {ts : List Str} {i : Nat} (h : ts.drop i = []) : hdT ts i = "" := by
  unfold hdT
  rw [h]
  rfl
theorem hdT_cons {ts r : List Str} {i : Nat} {t : Str} (h : ts.drop i = t :: r) : hdT ts i = t ∧ ts.drop (i + 1) = r := by
  unfold hdT
  rw [h]
  refine ⟨rfl, ?_⟩
  have e : ts.drop (i + 1) = (ts.drop i).drop 1 := by rw [List.drop_drop]
  rw [e, h]
  rfl
section
variable {ρ : FP.Env} {i : Nat} {c m fl : Str} {as : List Addr} {fs : FO} {f : DTE} {d : D} {N : Nd} {gs : DTS}
theorem ev_view (h : ρ[i]? = some (.ow c as fs)) (hp : plainD d = true) (hf : Ev f (ρ.set i (.d (.ins c (toDs fs)))) d) : Ev (dView i f) ρ d := fun Q E q => by
  unfold dView
  rw [h]
  exact hf _ _ ⟨hp, q⟩
theorem t_view {t : DTT} {b : Bool} (h : ρ[i]? = some (.ow c as fs)) (hf : EvT t (ρ.set i (.d (.ins c (toDs fs)))) b) : EvT (dViewT i t) ρ b := fun Q E q => by
  unfold dViewT
  rw [h]
  exact hf _ _ q
theorem seq_owSet (h : ρ[i]? = some (.ow c as fs)) (hl : fs.length < 1000) (hd : datF fl fs = true) (d : D) (hf : Ev f ρ d) (hg : gs N (ρ.set i (.ow c as (setO fl (.d d) fs)))) : dSeq (dOwSet i c fl f) gs N ρ := by
  show dOwSet i c fl f _ ρ
  unfold dOwSet
  refine hf _ _ ?_
  rw [h]
  exact ⟨rfl, hl, hd, hg⟩
theorem seq_owApp (h : ρ[i]? = some (.ow c as fs)) {xs : List D} (hx : fs.lookup fl = some (.l xs)) (hl : xs.length < sizeLine) (d : D) (hf : Ev f ρ d) (hg : gs N (ρ.set i (.ow c as (putO fl (.l (xs ++ [d])) fs)))) : dSeq (dOwApp i c fl f) gs N ρ := by
  show dOwApp i c fl f _ ρ
  unfold dOwApp
  rw [h]
  exact ⟨rfl, xs, hx, hf _ _ ⟨hl, hg⟩⟩
/-- a method that changes its object, without arguments -/
theorem x_meth0 {g : FO → List D → MO} {Q : D → FP.Env → Prop} {E : XD → FP.Env → Prop} (h : ρ[i]? = some (.ow c as fs)) (hm : fs.lookup m = none) (hf : g fs [] (fun d fs' => ∀ as', as'.head? = as.head? → Q d (ρ.set i (.ow c as' fs'))) (fun x fs' => ∀ as', as'.head? = as.head? → E x (ρ.set i (.ow c as' fs')))) : dxMeth0 i c m g ρ Q E := by
  unfold dxMeth0
  rw [h]
  exact ⟨rfl, hm, hf⟩
theorem x_meth1 {g : FO → List D → MO} {Q : D → FP.Env → Prop} {E : XD → FP.Env → Prop} (h : ρ[i]? = some (.ow c as fs)) (hm : fs.lookup m = none) (hd : Ev f ρ d) (hf : g fs [d] (fun d fs' => ∀ as', as'.head? = as.head? → Q d (ρ.set i (.ow c as' fs'))) (fun x fs' => ∀ as', as'.head? = as.head? → E x (ρ.set i (.ow c as' fs')))) : dxMeth i c m 1 g (dCons f dNil) ρ Q E := by
  unfold dxMeth
  rw [h]
  exact ⟨rfl, hm, hd _ _ ⟨rfl, hf⟩⟩
theorem seq_setM {k : Nat} {g : FO → List D → MO} (h : ρ[i]? = some (.ow c as fs)) (hm : fs.lookup m = none) (hd : Ev f ρ d) (hf : g fs [d] (fun d fs' => ∀ as', as'.head? = as.head? → gs N ((ρ.set i (.ow c as' fs')).set k (.d d))) (fun x fs' => ∀ as', as'.head? = as.head? → N.rs x (ρ.set i (.ow c as' fs')))) : dSeq (dSetX k (dxMeth i c m 1 g (dCons f dNil))) gs N ρ :=
  x_meth1 (Q := fun d ρ' => gs N (ρ'.set k (.d d))) (E := fun x ρ' => N.rs x ρ') h hm hd hf
theorem ret_M {g : FO → List D → MO} (h : ρ[i]? = some (.ow c as fs)) (hm : fs.lookup m = none) (hd : Ev f ρ d) (hf : g fs [d] (fun d fs' => ∀ as', as'.head? = as.head? → N.rt d (ρ.set i (.ow c as' fs'))) (fun x fs' => ∀ as', as'.head? = as.head? → N.rs x (ρ.set i (.ow c as' fs')))) : dRetX (dxMeth i c m 1 g (dCons f dNil)) N ρ :=
  x_meth1 (Q := fun d ρ' => N.rt d ρ') (E := fun x ρ' => N.rs x ρ') h hm hd hf
theorem ret_M0 {g : FO → List D → MO} (h : ρ[i]? = some (.ow c as fs)) (hm : fs.lookup m = none) (hf : g fs [] (fun d fs' => ∀ as', as'.head? = as.head? → N.rt d (ρ.set i (.ow c as' fs'))) (fun x fs' => ∀ as', as'.head? = as.head? → N.rs x (ρ.set i (.ow c as' fs')))) : dRetX (dxMeth0 i c m g) N ρ :=
  x_meth0 (Q := fun d ρ' => N.rt d ρ') (E := fun x ρ' => N.rs x ρ') h hm hf
theorem seq_setPop {k : Nat} {xs : List D} {d0 : D} {n : Int} (h : ρ[i]? = some (.ow c as fs)) (hx : fs.lookup fl = some (.l (xs ++ [d0]))) (hr : ∀ Q : D → Prop, Q d → rdIx d0 (.int n) Q) (hg : gs N ((ρ.set i (.ow c as (putO fl (.l xs) fs))).set k (.d d))) : dSeq (dSetX k (dxOp rdIx (dxOwPop i c fl) (dC (.int n)))) gs N ρ := by
  have e : dxOwPop i c fl ρ (fun x ρ' => dC (.int n) ρ' (fun y => rdIx x y (fun r => gs N (ρ'.set k (.d r)))) (fun e => N.rs e ρ')) (fun x ρ' => N.rs x ρ') := by
    unfold dxOwPop
    rw [h]
    exact ⟨rfl, xs, d0, hx, hr _ hg⟩
  exact e
theorem ev_owIx {fk : DTE} {xs : List D} {m : Int} (h : ρ[i]? = some (.ow c as fs)) (hx : fs.lookup fl = some (.l xs)) (hk : Ev fk ρ (.int m)) (ha : atI xs m = some d) : Ev (dOwIx i c fl fk) ρ d := fun Q E q => by
  unfold dOwIx
  rw [h]
  exact ⟨rfl, xs, hx, hk _ _ ⟨d, ha, q⟩⟩
theorem seq_owSetIx {fk : DTE} {xs : List D} {m : Int} {j : Nat} (h : ρ[i]? = some (.ow c as fs)) (hx : fs.lookup fl = some (.l xs)) (hd : Ev f ρ d) (hk : Ev fk ρ (.int m)) (hj : ixN xs.length m = some j) (hg : gs N (ρ.set i (.ow c as (putO fl (.l (xs.set j d)) fs)))) : dSeq (dOwSetIx i c fl fk f) gs N ρ := by
  have e : dOwSetIx i c fl fk f { N with nx := gs N } ρ := by
    unfold dOwSetIx
    refine hd _ _ ?_
    rw [h]
    exact ⟨rfl, xs, hx, hk _ _ ⟨j, hj, hg⟩⟩
  exact e
theorem x_tok {ts : List Str} {j : Nat} {ns : List Nod} {op : List (Nat × Nat)} {Q : D → FP.Env → Prop} {E : XD → FP.Env → Prop} (h : ρ[i]? = some (.ow "Reader" as (rdF ts j ns op))) (o : OkTs ts) (hq : ∀ as', as'.head? = as.head? → Q (.str (hdT ts j)) (ρ.set i (.ow "Reader" as' (rdF ts (j + 1) ns op)))) : dxMeth0 i "Reader" "token" f_tok ρ Q E :=
  x_meth0 h rfl ⟨ts, j, ns, op, rfl, o, hq⟩
end
section
variable {ρ : FP.Env} {i k : Nat} {as : List Addr} {ts : List Str} {j : Nat} {ns : List Nod} {op : List (Nat × Nat)} {N : Nd} {gs f1 f2 : DTS}
/-- a test of the next token -/
theorem ifX_tok {rd : RD2} {fb : DTE} {s : Str} (b : Bool) (h : ρ[i]? = some (.ow "Reader" as (rdF ts j ns op))) (o : OkTs ts) (hb : ∀ as', Ev fb (ρ.set i (.ow "Reader" as' (rdF ts (j + 1) ns op))) (.str s)) (hr : ∀ Q : D → Prop, Q (.bl b) → rd (.str (hdT ts j)) (.str s) Q)
    (hg : ∀ as', as'.head? = as.head? → bit b (dSeq f1 gs N (ρ.set i (.ow "Reader" as' (rdF ts (j + 1) ns op)))) (dSeq f2 gs N (ρ.set i (.ow "Reader" as' (rdF ts (j + 1) ns op))))) : dSeq (dIfX (dCmpX rd (dxMeth0 i "Reader" "token" f_tok) fb) f1 f2) gs N ρ := by
  exact x_tok (Q := fun x ρ' => fb ρ' (fun y => rd x y (fun r => blc r fun b => bit b (f1 { N with nx := gs N } ρ') (f2 { N with nx := gs N } ρ'))) (fun e => N.rs e ρ')) (E := fun x ρ' => N.rs x ρ') h o fun as' h' => hb as' _ _ (hr _ (hg as' h'))
theorem ifX_tokT {rd : RD2} {fb : DTE} {s : Str} (h : ρ[i]? = some (.ow "Reader" as (rdF ts j ns op))) (o : OkTs ts) (hb : ∀ as', Ev fb (ρ.set i (.ow "Reader" as' (rdF ts (j + 1) ns op))) (.str s)) (hr : ∀ Q : D → Prop, Q (.bl true) → rd (.str (hdT ts j)) (.str s) Q)
    (hg : ∀ as', as'.head? = as.head? → dSeq f1 gs N (ρ.set i (.ow "Reader" as' (rdF ts (j + 1) ns op)))) : dSeq (dIfX (dCmpX rd (dxMeth0 i "Reader" "token" f_tok) fb) f1 f2) gs N ρ := ifX_tok true h o hb hr hg
theorem ifX_tokF {rd : RD2} {fb : DTE} {s : Str} (h : ρ[i]? = some (.ow "Reader" as (rdF ts j ns op))) (o : OkTs ts) (hb : ∀ as', Ev fb (ρ.set i (.ow "Reader" as' (rdF ts (j + 1) ns op))) (.str s)) (hr : ∀ Q : D → Prop, Q (.bl false) → rd (.str (hdT ts j)) (.str s) Q)
    (hg : ∀ as', as'.head? = as.head? → gs N (ρ.set i (.ow "Reader" as' (rdF ts (j + 1) ns op)))) : dSeq (dIfX (dCmpX rd (dxMeth0 i "Reader" "token" f_tok) fb) f1 dNext) gs N ρ := ifX_tok false h o hb hr hg
theorem seq_setTok (h : ρ[i]? = some (.ow "Reader" as (rdF ts j ns op))) (o : OkTs ts) (hg : ∀ as', as'.head? = as.head? → gs N ((ρ.set i (.ow "Reader" as' (rdF ts (j + 1) ns op))).set k (.d (.str (hdT ts j))))) : dSeq (dSetX k (dxMeth0 i "Reader" "token" f_tok)) gs N ρ := by
  exact x_tok (Q := fun d ρ' => gs N (ρ'.set k (.d d))) (E := fun x ρ' => N.rs x ρ') h o fun as' h' => hg as' h'
theorem end_setTok (h : ρ[i]? = some (.ow "Reader" as (rdF ts j ns op))) (o : OkTs ts) (hg : ∀ as', as'.head? = as.head? → N.nx ((ρ.set i (.ow "Reader" as' (rdF ts (j + 1) ns op))).set k (.d (.str (hdT ts j))))) : dSetX k (dxMeth0 i "Reader" "token" f_tok) N ρ := by
  show dxMeth0 i "Reader" "token" f_tok ρ _ _
  exact x_tok h o fun as' h' => hg as' h'
theorem seq_seq {a b : DTS} (h : dSeq a (dSeq b gs) N ρ) : dSeq (dSeq a b) gs N ρ := h
theorem seq_while {c : DTT} {f : DTS} (I : Nat → FP.Env → Prop) (m : Nat) (h0 : I m ρ) (hs : ∀ m ρ, I m ρ → c ρ (fun b => bit b (f { N with nx := fun ρ' => ∃ m', m' < m ∧ I m' ρ', ct := fun ρ' => ∃ m', m' < m ∧ I m' ρ', bk := gs N } ρ) (gs N ρ)) (fun x => N.rs x ρ)) : dSeq (dWhile c f) gs N ρ := ⟨I, ⟨m, h0⟩, hs⟩
end
theorem bindHd_no {ts : List Str} {i bd : Nat} (h : ¬ hdT ts i = "\\") : bindHd bd (ts.drop i) = some (0, ts.drop i) := by
  cases q : ts.drop i with
  | nil => rfl
  | cons t r =>
    rw [(hdT_cons q).1] at h
    rw [bindHd_cons, if_neg h]
theorem bindHd_yes {ts : List Str} {i bd : Nat} (h : hdT ts i = "\\") : bindHd bd (ts.drop i) = bindP bd 0 (ts.drop (i + 1)) := by
  cases q : ts.drop i with
  | nil =>
    rw [hdT_nil q] at h
    exact absurd h (by decide +kernel)
  | cons t r =>
    obtain ⟨e1, e2⟩ := hdT_cons q
    rw [e1] at h
    rw [bindHd_cons, if_pos h, e2]
theorem xS_ne (k : Nat) : xS k ≠ "" := fun h => by
  have := congrArg Str.length h
  unfold xS at this
  rw [len_app] at this
  have h1 : ("x" : Str).length = 1 := by decide +kernel
  have h2 : ("" : Str).length = 0 := by decide +kernel
  omega
theorem bind_bad {ts : List Str} {j bd cnt : Nat} (h : ¬ hdT ts j = xS (bd + cnt)) : bindP bd cnt (ts.drop j) = none := by
  cases q : ts.drop j with
  | nil => rw [bindP]
  | cons t r =>
    rw [(hdT_cons q).1] at h
    cases r with
    | nil => rw [bindP]
    | cons s r => rw [bindP, if_neg h]
/-- between two bound names -/
def InvB (ts : List Str) (bd i j cnt : Nat) (s : Str) (m : Nat) : Prop :=
  (s = " " → bindP bd 0 (ts.drop (i + 1)) = bindP bd cnt (ts.drop j) ∧ j ≤ ts.length ∧ cnt ≤ j ∧ m = ts.length + 1 - j) ∧ (s = ". " → bindP bd 0 (ts.drop (i + 1)) = some (cnt, ts.drop j)) ∧ (s ≠ " " → s ≠ ". " → bindP bd 0 (ts.drop (i + 1)) = none)
theorem InvB.turn {ts : List Str} {bd i j cnt m : Nat} (h : InvB ts bd i j cnt " " m) (ht : hdT ts j = xS (bd + cnt)) : ts.length + 1 - (j + 2) < m ∧ InvB ts bd i (j + 2) (cnt + 1) (hdT ts (j + 1)) (ts.length + 1 - (j + 2)) := by
  obtain ⟨h1, h2, h3, h4⟩ := h.1 rfl
  refine ⟨by omega, ?_⟩
  cases q : ts.drop j with
  | nil =>
    rw [hdT_nil q] at ht
    exact absurd ht.symm (xS_ne _)
  | cons t r =>
    obtain ⟨e1, e2⟩ := hdT_cons q
    rw [e1] at ht
    have hjl : j < ts.length := by
      have := congrArg List.length q
      rw [List.length_drop, List.length_cons] at this
      omega
    cases r with
    | nil =>
      have e3 := hdT_nil e2
      rw [e3]
      refine ⟨fun z => absurd z (by decide +kernel), fun z => absurd z (by decide +kernel), fun _ _ => ?_⟩
      rw [h1, q, bindP]
    | cons s r =>
      obtain ⟨e3, e4⟩ := hdT_cons e2
      have hl2 : j + 1 < ts.length := by
        have := congrArg List.length e2
        rw [List.length_drop, List.length_cons] at this
        omega
      rw [e3]
      refine ⟨fun z => ⟨?_, by omega, by omega, rfl⟩, fun z => ?_, fun z1 z2 => ?_⟩
      · rw [h1, q, bindP, if_pos ht, if_pos z, ← e4]
      · rw [h1, q, bindP, if_pos ht, if_neg (by rw [z]; exact sp_dot), if_pos z, ← e4]
      · rw [h1, q, bindP, if_pos ht, if_neg z1, if_neg z2]
theorem rd_addN (ts : List Str) (i : Nat) (ns : List Nod) (op : List (Nat × Nat)) (n : Nod) : putO "of_nodes" (.l (ns.map nodD ++ [nodD n])) (rdF ts i ns op) = rdF ts i (ns ++ [n]) op := by
  unfold rdF
  rw [List.map_append]
  rfl
theorem rd_addO (ts : List Str) (i : Nat) (ns : List Nod) (op : List (Nat × Nat)) (n : Nat × Nat) : putO "of_open" (.l (op.map opD ++ [opD n])) (rdF ts i ns op) = rdF ts i ns (op ++ [n]) := by
  unfold rdF
  rw [List.map_append]
  rfl
theorem rd_setN (ts : List Str) (i : Nat) (ns : List Nod) (op : List (Nat × Nat)) (k : Nat) (n : Nod) : putO "of_nodes" (.l ((ns.map nodD).set k (nodD n))) (rdF ts i ns op) = rdF ts i (ns.set k n) op := by
  unfold rdF
  rw [← List.map_set]
  rfl
theorem node_okG (h : Str) : isNodeG true (.tup [.int 0, .str h, .int 0]) = okG h := by
  show (inRow (.int 0) 0 15 && (inRow (.int 0) 0 15 && (headG h || (true && (decide (h = ("?" : Str)) && isZD (.int 0)))))) = okG h
  have e : inRow (.int 0) 0 15 = true := by decide
  rw [e]
  unfold okG headG isZD
  simp
theorem sh_op {n : Nat} : ∀ op : List (Nat × Nat), shDs (n + 1) (op.map opD) = true
  | [] => sh_nil
  | x :: r => sh_cons (sh_tup (sh_cons sh_int (sh_cons sh_int sh_nil))) (sh_op r)
theorem idx_snoc (F : List Fm) (l : Fm) : idxF (F ++ [l]) = szF F := by
  have h1 := open_last (F ++ [l]) 0 0 (by simp)
  rw [open_snoc, List.getLast?_append] at h1
  have h1 : some (0 + szF F, bdF 0 F + l.b) = some (0 + idxF (F ++ [l]), bdF 0 (F ++ [l])) := h1
  have := (Prod.mk.inj (Option.some.inj h1)).1
  omega
theorem open_len : ∀ (F : List Fm) (i bd : Nat), (openF i bd F).length = F.length
  | [], _, _ => rfl
  | f :: r, i, bd => by
    rw [openF, List.length_cons, List.length_cons, open_len r]
theorem int_pred (i : Nat) : (((i + 1 : Nat) : Int) - 1) = (i : Int) := by omega
theorem open_nil {F : List Fm} {i bd : Nat} : ((openF i bd F).map opD).isEmpty = F.isEmpty := by
  cases F <;> rfl
theorem open_l (F : List Fm) (l : Fm) : openF 0 0 (F ++ [l]) = openF 0 0 F ++ [(szF F, bdF 0 F + l.b)] := by
  rw [open_snoc, Nat.zero_add]
theorem nodes_l (F : List Fm) (l : Fm) : (nodesF (F ++ [l]))[szF F]? = some (l.b, l.h, l.as.length) := by
  have h := nodes_at (F ++ [l]) (by simp)
  rw [idx_snoc, lastF_snoc] at h
  exact h
theorem closeF_l (F : List Fm) (l : Fm) (r : List Str) : closeF (F ++ [l]) r = if F ≠ [] ∧ (0 < l.b ∨ 0 < l.as.length) then some (pushF (.mk l.b l.h l.as) F, r) else none := by
  unfold closeF
  rw [List.dropLast_concat, lastF_snoc]
theorem begin_l (F : List Fm) (l : Fm) (b : Nat) (h : Str) : (nodesF (F ++ [l])).set (szF F) (l.b, l.h, l.as.length + 1) ++ [(b, h, 0)] = nodesF (F ++ [l] ++ [⟨b, h, []⟩]) := by
  have e := nodes_begin b h (F ++ [l]) (by simp)
  rw [idx_snoc, lastF_snoc] at e
  exact e
theorem leaf_l (F : List Fm) (l : Fm) (h : Str) : (nodesF (F ++ [l])).set (szF F) (l.b, l.h, l.as.length + 1) ++ [(0, h, 0)] = nodesF (pushF (.mk 0 h []) (F ++ [l])) := by
  have e := nodes_leaf h (F ++ [l]) (by simp)
  rw [idx_snoc, lastF_snoc] at e
  exact e
/-! ### reading -/
theorem tk_len : ∀ (n : Nat) (xs : List Nat) (ts : List Str), xs.length ≤ n → tkP xs = some ts → ts.length ≤ xs.length
  | n, [], ts, _, h => by
    cases h
    exact Nat.le_refl _
  | 0, _ :: _, _, h, _ => by simp at h
  | n + 1, c :: r, ts, hl, h => by
    have h1 : r.length ≤ n := by simpa using hl
    have key : ∀ (s : Str) (r' : List Nat), r'.length ≤ r.length → (tkP r').map (List.cons s) = some ts → ts.length ≤ (c :: r).length := by
      intro s r' hr h
      cases q : tkP r' with
      | none =>
        rw [q] at h
        cases h
      | some ts2 =>
        rw [q] at h
        cases h
        have := tk_len n r' ts2 (by omega) q
        rw [List.length_cons, List.length_cons]
        omega
    rw [tkP_cons] at h
    split at h
    · exact key _ _ (List.dropWhile_sublist isA).length_le h
    · split at h
      · exact key _ _ (by rw [List.length_drop]; omega) h
      · split at h
        · exact key _ _ (Nat.le_refl _) h
        · cases h
theorem catL_mem {t : Str} {ts : List Str} (h : t ∈ ts) : t.cps.toList.length ≤ (catL ts).length ∧ ∀ c ∈ t.cps.toList, c ∈ catL ts := by
  induction ts with
  | nil => cases h
  | cons u r ih =>
    rw [catL_cons, List.length_append]
    rcases List.mem_cons.mp h with e | h
    · rw [e]
      exact ⟨by omega, fun c hc => List.mem_append_left _ hc⟩
    · obtain ⟨h1, h2⟩ := ih h
      exact ⟨by omega, fun c hc => List.mem_append_right _ (h2 c hc)⟩
theorem ok_toks {z : Str} {ts : List Str} (hz : okStr z) (h : tkP z.cps.toList = some ts) : OkTs ts := by
  have h1 := tk_len _ _ ts (Nat.le_refl _) h
  have h2 := tk_sound _ _ ts (Nat.le_refl _) h
  have hl := hz.1
  rw [str_len] at hl
  refine ⟨by omega, fun t ht => ?_⟩
  obtain ⟨g1, g2⟩ := catL_mem ht
  rw [h2] at g1 g2
  exact ⟨by rw [str_len]; omega, fun c hc => hz.2 c (g2 c hc)⟩
theorem hd_len (bd : Nat) : ∀ b, b ≤ (headToks bd b).length
  | 0 => Nat.zero_le _
  | b + 1 => by
    have h : ∀ (b bd : Nat), b + 1 ≤ (binT bd (b + 1)).length := by
      intro b
      induction b with
      | zero => exact fun bd => Nat.le.step Nat.le.refl
      | succ b ih =>
        intro bd
        have := ih (bd + 1)
        show b + 1 + 1 ≤ (binT (bd + 1) (b + 1)).length + 1 + 1
        omega
    have := h b bd
    unfold headToks
    rw [if_neg (by omega), List.length_cons]
    omega
theorem bd_toks : ∀ (F : List Fm) (bd : Nat), bdF bd F ≤ bd + (toksF bd F).length
  | [], bd => Nat.le_add_right _ _
  | [f], bd => by
    have := hd_len bd f.b
    show bd + f.b ≤ bd + (headToks bd f.b ++ f.h :: argToks (bd + f.b) f.as).length
    rw [List.length_append]
    omega
  | f :: g :: r, bd => by
    have h1 := hd_len bd f.b
    have h2 := bd_toks (g :: r) (bd + f.b)
    show bdF (bd + f.b) (g :: r) ≤ bd + ((headToks bd f.b ++ f.h :: argToks (bd + f.b) f.as) ++ (" " : Str) :: ("(" : Str) :: toksF (bd + f.b) (g :: r)).length
    simp only [List.length_append, List.length_cons]
    omega
theorem len_sz : ∀ F : List Fm, F.length ≤ szF F
  | [] => Nat.zero_le _
  | f :: r => by
    have := len_sz r
    rw [szF_cons, List.length_cons]
    omega
theorem newF_sz {F F' : List Fm} {r r' : List Str} (h : newF F r = some (F', r')) : szF F' ≤ 40 := by
  unfold newF at h
  cases q : bindHd (bdF 0 F) r with
  | none =>
    rw [q] at h
    cases h
  | some x =>
    obtain ⟨c, r2⟩ := x
    rw [q] at h
    dsimp only at h
    split at h
    · rename_i hc
      cases h
      rw [szF_snoc]
      show szF F + (1 + sizeTs []) ≤ 40
      rw [sizeTs]
      omega
    · cases h
theorem go_sz {F F' : List Fm} {r r' : List Str} (hF : F ≠ []) (hs : szF F ≤ 40) (h : goF F r = some (F', r')) : szF F' ≤ 40 := by
  cases r with
  | nil => cases h
  | cons t r =>
    rw [goF_cons] at h
    split at h
    · obtain ⟨F0, eF⟩ := snocF hF
      generalize lastF F = l at eF
      subst eF
      rw [closeF_l] at h
      split at h
      · rename_i hc
        cases h
        rw [szF_push _ hc.1, sizeT]
        rw [szF_snoc] at hs
        omega
      · cases h
    · split at h
      · split at h
        · exact newF_sz h
        · unfold leafF at h
          split at h
          · rename_i hc
            cases h
            rw [szF_push _ hF, sizeT, sizeTs]
            omega
          · cases h
      · cases h
mutual
theorem heads_toks : ∀ (p : Pt) (bd : Nat), ∀ n ∈ nodesT p, n.2.1 ∈ toksT bd p
  | .mk b h as, bd, n, hn => by
    rw [nodesT] at hn
    rw [toksT]
    rcases List.mem_cons.mp hn with rfl | hn
    · exact List.mem_append_right _ List.mem_cons_self
    · exact List.mem_append_right _ (List.mem_cons_of_mem _ (heads_args as (bd + b) n hn))
theorem heads_args : ∀ (ps : List Pt) (bd : Nat), ∀ n ∈ nodesTs ps, n.2.1 ∈ argToks bd ps
  | [], _, n, hn => by
    rw [nodesTs] at hn
    cases hn
  | p :: r, bd, n, hn => by
    rw [nodesTs] at hn
    rw [argToks]
    rcases List.mem_append.mp hn with hn | hn
    · have := heads_toks p bd n hn
      refine List.mem_append_left _ (List.mem_cons_of_mem _ ?_)
      split
      · exact this
      · exact List.mem_cons_of_mem _ (List.mem_append_left _ this)
    · exact List.mem_append_right _ (heads_args r bd n hn)
end
theorem okNs_toks {ts : List Str} {p : Pt} (o : OkTs ts) (h : toksT 0 p = ts) : okNs (nodesD p) := by
  intro x hx
  obtain ⟨n, hn, rfl⟩ := List.mem_map.mp hx
  have := heads_toks p 0 n hn
  rw [h] at this
  exact ⟨trivial, o.ok _ this, trivial⟩
theorem rdG_none {z : Str} (h : tkP z.cps.toList = none) : rdG z = none := by
  unfold rdG
  rw [h]
  all_goals rfl
theorem rdG_some {z : Str} {ts : List Str} (h : tkP z.cps.toList = some ts) : rdG z = (match rdTk ts with | none => none | some p => if areG true (nodesD p) = true then some p else none) := by
  unfold rdG
  rw [h]
  all_goals rfl
theorem rdTk_none {ts : List Str} (h : newF [] ts = none) : rdTk ts = none := by
  unfold rdTk
  rw [h]
theorem rdTk_some {ts r : List Str} {F : List Fm} (h : newF [] ts = some (F, r)) : rdTk ts = (match runP F r with | some [f] => some (.mk f.b f.h f.as) | _ => none) := by
  unfold rdTk
  rw [h]
  first
    | done
    | (dsimp only
       cases runP F r with
       | none => rfl
       | some F' =>
         cases F' with
         | nil => rfl
         | cons f r => cases r <;> rfl)
section
variable {ρ : FP.Env} {i : Nat} {c m : Str} {as : List Addr} {fs : FO} {N : Nd} {gs f1 f2 : DTS}
theorem seq_makeOA {k : Nat} {g : List D → (FO → Prop) → Prop} {ga : DTA} {ds : List D} (ha : EvA ga ρ ds) (hn : ds.length = k) (hg : g ds (fun fs => ∀ as, gs N (ρ.set i (.ow c as fs)))) : dSeq (dMakeOA i c k g ga) gs N ρ := ha _ _ ⟨hn, hg⟩
theorem ifX_not0 {g : FO → List D → MO} (h : ρ[i]? = some (.ow c as fs)) (hm : fs.lookup m = none) (hf : g fs [] (fun d fs' => ∀ as', as'.head? = as.head? → blc d fun b => bit (!b) (f1 N (ρ.set i (.ow c as' fs'))) (f2 N (ρ.set i (.ow c as' fs')))) (fun x fs' => ∀ as', as'.head? = as.head? → N.rs x (ρ.set i (.ow c as' fs')))) : dIfX (dNotX (dBX (dxMeth0 i c m g))) f1 f2 N ρ :=
  x_meth0 (Q := fun d ρ' => blc d fun b => bit (!b) (f1 N ρ') (f2 N ρ')) (E := fun x ρ' => N.rs x ρ') h hm hf
theorem seq_frzO {s : DTS} (h : ρ[i]? = some (.ow c as fs)) (hs : dSeq s gs N (ρ.set i (.d (.ins c (toDs fs))))) : dSeq (dFrzO i s) gs N ρ := by
  have e : dFrzO i s { N with nx := gs N } ρ := by
    unfold dFrzO
    rw [h]
    exact hs
  exact e
end
theorem okNs_rdG {z : Str} {p : Pt} (hz : okStr z) (h : rdG z = some p) : okNs (nodesD p) := by
  cases q : tkP z.cps.toList with
  | none =>
    rw [rdG_none q] at h
    cases h
  | some ts =>
    rw [rdG_some q] at h
    cases q2 : rdTk ts with
    | none =>
      rw [q2] at h
      cases h
    | some p' =>
      rw [q2] at h
      dsimp only at h
      split at h
      · cases h
        exact okNs_toks (ok_toks hz q) (rdTk_sound q2).symm
      · cases h
end KP
/-! KP70: law k16: steps of the law's own reader. -/
namespace KP
open PySem L2 FP
variable [FP.Tabl]
theorem ev_namesG {ρ : FP.Env} {f : DTE} {n i : Nat} {vs : List Nat} (hn : n ≤ 1000) (h : Ev f ρ (.int (n : Nat))) (hi : ∀ k : Nat, ((wipeD ρ vs).set i (.d (.int ((0 : Int) + k))))[i]? = some (.d (.int ((0 : Int) + k)))) : Ev (dLc (dIRng1 (dCons f dNil)) (.one i) dYes (dOp rdAdd (dC (.str "x")) (dCB rdStr (dCons (dVar i) dNil))) vs) ρ (.lst ((xsL 0 n).map .str)) :=
  Ev.eq (ev_lc (fun k : Nat => D.int ((0 : Int) + k)) (fun k => .str (xS (0 + k))) (xs := List.range n) (ev_rng hn h) (size_small (by rw [List.length_range]; omega)) fun k hk => ⟨_, rfl, by
    have hk := List.mem_range.mp hk
    exact ev_xsG (n := 0 + k) (by omega) (fun Q E q => by
      show (match ((wipeD ρ vs).set i (.d (.int ((0 : Int) + k))))[i]? with
        | some (.d x) => Q x
        | _ => False)
      rw [hi k]
      have e : ((0 : Int) + (k : Int)) = ((0 + k : Nat) : Int) := by omega
      rw [e]
      exact q)⟩) (by unfold xsL; rw [List.map_map]; rfl)
theorem letter_iff (c : Nat) : (!decide (([c] : List Nat) < [97]) && !decide (([122] : List Nat) < [c])) = decide (c ∈ letters) := by
  have e1 : (([c] : List Nat) < [97]) ↔ c < 97 := by
    rw [List.cons_lt_cons_iff]
    constructor
    · rintro (h | ⟨_, h⟩)
      · exact h
      · exact absurd h (by simp)
    · exact .inl
  have e2 : (([122] : List Nat) < [c]) ↔ 122 < c := by
    rw [List.cons_lt_cons_iff]
    constructor
    · rintro (h | ⟨_, h⟩)
      · exact h
      · exact absurd h (by simp)
    · exact .inl
  rw [decide_eq_decide.mpr e1, decide_eq_decide.mpr e2]
  by_cases h : 97 ≤ c ∧ c ≤ 122
  · have hm : ∀ n, n < 26 → 97 + n ∈ letters := by decide +kernel
    have := hm (c - 97) (by omega)
    rw [show 97 + (c - 97) = c by omega] at this
    rw [decide_eq_true this, decide_eq_false (by omega), decide_eq_false (by omega)]
    rfl
  · have hm : c ∉ letters := fun m => by
      have := letters_small c m
      omega
    rw [decide_eq_false hm]
    by_cases h1 : c < 97
    · rw [decide_eq_true h1]
      rfl
    · rw [decide_eq_false h1, decide_eq_true (show 122 < c by omega)]
      rfl
/-- [sign for sign in word if not "a" <= sign <= "z"] == [] -/
theorem ev_letters {ρ : FP.Env} {z : Str} {i j : Nat} (hz : okStr z) (h : ρ[i]? = some (.d (.str z))) (hj : ∀ c : Nat, ((wipeD ρ [j]).set j (.d (.str ⟨#[c]⟩)))[j]? = some (.d (.str ⟨#[c]⟩))) : Ev (dOp rdEq (dLc (dIStr (dVar i)) (.one j) (dNot (dB (dChain rdLe rdLe (dC (.str "a")) (dVar j) (dC (.str "z"))))) (dVar j) [j]) (dLst dNil)) ρ (.bl (z.cps.toList.all fun c => decide (c ∈ letters))) := by
  have hv : Ev (dVar i) ρ (.str z) := fun Q E q => by
    show (match ρ[i]? with
      | some (.d x) => Q x
      | _ => False)
    rw [h]
    exact q
  have hz1 := hz.1
  refine ev_op (x := .lst ((z.cps.toList.filter fun c => !decide (c ∈ letters)).map fun c => D.str ⟨#[c]⟩)) (y := .lst []) (ev_lcF (fun c : Nat => D.str ⟨#[c]⟩) (fun c => D.str ⟨#[c]⟩) (fun c => !decide (c ∈ letters)) (xs := z.cps.toList) (fun Q E q => hv _ _ q) (by
    rw [str_len] at hz1
    exact size_small hz1) fun c hc => ⟨_, rfl, ?_, fun _ Q E q => ?_⟩) (ev_lst a0 (line rfl)) fun Q q => eqNil ?_ ?_
  · have hvj : Ev (dVar j) ((wipeD ρ [j]).set j (.d (.str ⟨#[c]⟩))) (.str ⟨#[c]⟩) := fun Q E q => by
      show (match ((wipeD ρ [j]).set j (.d (.str ⟨#[c]⟩)))[j]? with
        | some (.d x) => Q x
        | _ => False)
      rw [hj c]
      exact q
    refine not_v (b := decide (c ∈ letters)) (b_v fun Q E q => ?_)
    refine hvj _ E ?_
    show bit (!decide (([c] : List Nat) < [97])) _ _
    rw [← letter_iff] at q
    cases e : (!decide (([c] : List Nat) < [97])) with
    | false =>
      rw [e] at q
      exact q
    | true =>
      rw [e] at q
      exact q
  · show (match ((wipeD ρ [j]).set j (.d (.str ⟨#[c]⟩)))[j]? with
      | some (.d x) => Q x
      | _ => False)
    rw [hj c]
    exact q
  · have hg : ∀ ys : List Nat, (∀ c ∈ ys, c < 1114112) → shDs 63 (ys.map fun c => D.str ⟨#[c]⟩) = true := by
      intro ys
      induction ys with
      | nil => intro _; exact sh_nil
      | cons c r ih =>
        intro h
        refine sh_cons (sh_str ((strOk_iff _).mpr fun c' hc' => ?_)) (ih fun c hc => h c (List.mem_cons_of_mem _ hc))
        rw [List.mem_singleton.mp hc']
        exact h c List.mem_cons_self
    exact hg _ fun c hc => hz.2 c ((List.mem_filter.mp hc).1)
  · have e : ((z.cps.toList.filter fun c => !decide (c ∈ letters)).map fun c => D.str ⟨#[c]⟩).isEmpty = z.cps.toList.all fun c => decide (c ∈ letters) := by
      rw [List.isEmpty_map]
      induction z.cps.toList with
      | nil => rfl
      | cons c r ih =>
        rw [List.filter_cons, List.all_cons]
        cases decide (c ∈ letters) with
        | true => exact ih
        | false => rfl
    rw [e]
    exact q
/-! ### closing -/
def dnR (k m : Nat) : List D := (List.range' k m).map fun j => D.int ((0 : Int) + (j : Nat))
theorem dnR_all (n : Nat) : ((List.range n).map fun k : Nat => D.int ((0 : Int) + k)) = dnR 0 n := by
  unfold dnR
  rw [List.range_eq_range']
theorem dnR_succ (k m : Nat) : dnR k (m + 1) = .int ((0 : Int) + (k : Nat)) :: dnR (k + 1) m := by
  unfold dnR
  rw [List.range'_succ]
  rfl
theorem clD_map (k c : Nat) (o : Option (List Nat × List Nat)) : clD k (o.map fun x => (c :: x.1, x.2)) = clD (k + 1) o := by
  cases o with
  | none => rfl
  | some x =>
    show D.int ((k + (c :: x.1).length : Nat) : Int) = .int ((k + 1 + x.1.length : Nat) : Int)
    rw [List.length_cons, show k + (x.1.length + 1) = k + 1 + x.1.length by omega]
/-! ### pieces of texts -/
section
variable {ρ : FP.Env} {f g : DTE} {xs : List Nat}
theorem ev_slTo {i : Int} (h : Ev f ρ (.str (SX.S xs))) (hi : Ev g ρ (.int i)) (h0 : 0 ≤ i) (hl : xs.length ≤ 1000) : Ev (dSl f dONone (dOSome g)) ρ (.str (SX.S (xs.take i.toNat))) := fun Q E q => h _ _ (hi _ _ ⟨by rw [SX.S_len]; exact size_small hl, by
  rw [C8.cutS_slice, SX.slice_to h0]
  exact q⟩)
theorem ev_slFrom {i : Int} (h : Ev f ρ (.str (SX.S xs))) (hi : Ev g ρ (.int i)) (h0 : 0 ≤ i) (hl : xs.length ≤ 1000) : Ev (dSl f (dOSome g) dONone) ρ (.str (SX.S (xs.drop i.toNat))) := fun Q E q => h _ _ (hi _ _ ⟨by rw [SX.S_len]; exact size_small hl, by
  rw [C8.cutS_slice, SX.slice_from h0]
  exact q⟩)
theorem ev_slMid {g2 : DTE} {pre u post : List Nat} {i j : Int} (h : Ev f ρ (.str (SX.S (pre ++ (u ++ post))))) (hi : Ev g ρ (.int i)) (hj : Ev g2 ρ (.int j)) (e1 : i = (pre.length : Int)) (e2 : j = (pre.length : Int) + (u.length : Int)) (hl : (pre ++ (u ++ post)).length ≤ 1000) : Ev (dSl f (dOSome g) (dOSome g2)) ρ (.str (SX.S u)) := fun Q E q => h _ _ (hi _ _ (hj _ _ ⟨by rw [SX.S_len]; exact size_small hl, by
  have e := cut_mid (z := SX.S (pre ++ (u ++ post))) (pre := pre) (rest := u ++ post) (k := u.length) rfl e1 e2
  rw [e, List.take_left']
  · exact q
  · rfl⟩))
theorem ev_at {k c : Nat} {i : Int} (h : Ev f ρ (.str (SX.S xs))) (hi : Ev g ρ (.int i)) (e : i = (k : Int)) (hc : xs[k]? = some c) (hl : xs.length ≤ 1000) : Ev (dOp rdIx f g) ρ (.str ⟨#[c]⟩) := ev_op (x := .str (SX.S xs)) (y := .int i) h hi fun Q q => ⟨c, by rw [SX.S_len]; exact size_small hl, at_of e hc, q⟩
theorem one_eq (c d : Nat) : decide ((⟨#[c]⟩ : Str) = ⟨#[d]⟩) = decide (c = d) := decide_eq_decide.mpr ⟨fun h => by
  have := congrArg (fun z : Str => z.cps.toList) h
  simpa using this, fun h => by rw [h]⟩
end
theorem spl_chars {S : List Nat} : ∀ (k : Nat) (acc l : List Nat), ∀ p ∈ TL.spl S k acc l, ∀ c ∈ p, c ∈ acc ∨ c ∈ l
  | k, acc, [], p, hp, c, hc => by
    rw [TL.spl_nil] at hp
    rw [List.mem_singleton.mp hp] at hc
    exact .inl hc
  | 0, acc, x :: r, p, hp, c, hc => by
    have hp : p ∈ (if TL.pre S (x :: r) = true then acc :: TL.spl S (S.length - 1) [] r else TL.spl S 0 (acc ++ [x]) r) := hp
    split at hp
    · rcases List.mem_cons.mp hp with e | hp
      · rw [e] at hc
        exact .inl hc
      · rcases spl_chars _ _ r p hp c hc with q | q
        · cases q
        · exact .inr (List.mem_cons_of_mem _ q)
    · rcases spl_chars 0 _ r p hp c hc with q | q
      · rcases List.mem_append.mp q with q | q
        · exact .inl q
        · rw [List.mem_singleton.mp q]
          exact .inr List.mem_cons_self
      · exact .inr (List.mem_cons_of_mem _ q)
  | k + 1, acc, _ :: r, p, hp, c, hc => (spl_chars k acc r p hp c hc).imp (fun x => x) fun q => List.mem_cons_of_mem _ q
theorem spl_len {S : List Nat} : ∀ (k : Nat) (acc l : List Nat), (TL.spl S k acc l).length ≤ l.length + 1
  | k, acc, [] => by
    rw [TL.spl_nil]
    exact Nat.le_refl 1
  | 0, acc, x :: r => by
    show (if TL.pre S (x :: r) = true then acc :: TL.spl S (S.length - 1) [] r else TL.spl S 0 (acc ++ [x]) r).length ≤ _
    split
    · have := spl_len (S := S) (S.length - 1) [] r
      rw [List.length_cons, List.length_cons]
      omega
    · have := spl_len (S := S) 0 (acc ++ [x]) r
      rw [List.length_cons]
      omega
  | k + 1, acc, _ :: r => by
    have := spl_len (S := S) k acc r
    show (TL.spl S k acc r).length ≤ _
    rw [List.length_cons]
    omega
theorem split_bl {u : List Nat} (hu : ∀ c ∈ u, c < 1114112) : (∀ t ∈ Txt.split (SX.S u) (SX.S blS), PyData.strOk t = true) ∧ (Txt.split (SX.S u) (SX.S blS)).length ≤ u.length + 1 := by
  rw [SX.split_S (by decide) (by decide), List.length_map]
  refine ⟨fun t ht => ?_, spl_len 0 [] u⟩
  obtain ⟨p, hp, rfl⟩ := List.mem_map.mp ht
  refine (strOk_iff _).mpr fun c hc => ?_
  rcases spl_chars 0 [] u p hp c hc with q | q
  · cases q
  · exact hu c q
theorem xS_ok : ∀ k < 1002, PyData.strOk (xS k) = true := by decide +kernel
theorem neStrsL {zs ys : List Str} (h1 : ∀ z ∈ zs, PyData.strOk z = true) (h2 : ∀ z ∈ ys, PyData.strOk z = true) {Q : D → Prop} (q : Q (.bl (!decide (zs = ys)))) : rdNe (.lst (zs.map .str)) (.lst (ys.map .str)) Q := by
  obtain ⟨p, p1, p2, p3⟩ := shD_py 64 (.lst (zs.map .str)) (sh_lst (sh_strs h1))
  obtain ⟨r, r1, r2, r3⟩ := shD_py 64 (.lst (ys.map .str)) (sh_lst (sh_strs h2))
  show ∃ p q, toPy _ = some p ∧ toPy _ = some q ∧ SeqAt.shaped p = true ∧ SeqAt.shaped q = true ∧ Q (.bl (!PyData.eqv p q))
  refine ⟨p, r, p1, r1, sh_shaped p2 p3, sh_shaped r2 r3, ?_⟩
  rw [toPy, py_strs] at p1 r1
  cases p1
  cases r1
  rw [PyData.eqv, eqv_strs]
  exact q
end KP
/-! KP71: law k16: the law's reader in the pieces of its def. -/
namespace KP
open PySem L2 FP
variable [FP.Tabl]
theorem ev_chainLen {ρ : FP.Env} {f : DTE} {z : Str} (hz : okStr z) (h : Ev f ρ (.str z)) : Ev (dChain rdLe rdLe (dC (.int 1)) (dCB rdLen (dCons f dNil)) (dC (.int 8))) ρ (.bl (decide (1 ≤ z.length) && decide (z.length ≤ 8))) := fun Q E q => by
  refine h _ _ ⟨len_ok hz, ?_⟩
  show bit (decide ((1 : Int) ≤ (z.length : Int))) (Q (.bl (decide ((z.length : Int) ≤ 8)))) (Q (.bl false))
  rw [show decide ((1 : Int) ≤ (z.length : Int)) = decide (1 ≤ z.length) from decide_eq_decide.mpr ⟨fun h => by omega, fun h => by omega⟩, show decide ((z.length : Int) ≤ 8) = decide (z.length ≤ 8) from decide_eq_decide.mpr ⟨fun h => by omega, fun h => by omega⟩]
  cases e : decide (1 ≤ z.length) with
  | true =>
    rw [e] at q
    exact q
  | false =>
    rw [e] at q
    exact q
theorem seq_joinG {f gs : DTS} {N : Nd} {ρ : FP.Env} (J : FP.Env → Prop) (h1 : ∀ G : FP.Env → Prop, (∀ ρ', J ρ' → G ρ') → f { N with nx := G } ρ) (h2 : ∀ ρ', J ρ' → gs N ρ') : dSeq f gs N ρ := h1 (gs N) h2
theorem sepL_len (w : List Nat) : w.length ≤ (sepL w).length ∧ (w ≠ [] → (sepL w).length = w.length + 1) := by
  cases w with
  | nil => exact ⟨Nat.le_refl 0, fun h => absurd rfl h⟩
  | cons c r => exact ⟨by show _ ≤ (32 :: c :: r).length; simp, fun _ => rfl⟩
theorem piece_len {c : Nat} {r u v w : List Nat} (h : pieceP c r = some (u, v)) (hw : nextP v = some w) : w.length ≤ r.length ∧ (∀ x ∈ w, x ∈ c :: r) ∧ (∀ x ∈ u, x ∈ c :: r) ∧ u.length ≤ (c :: r).length ∧ w.count 40 ≤ (c :: r).count 40 := by
  have e1 := piece_sound h
  have e2 := next_sound hw
  have hl := congrArg List.length e1
  rw [List.length_append, List.length_cons] at hl
  have hv : ∀ x ∈ v, x ∈ c :: r := fun x hx => by rw [e1]; exact List.mem_append_right _ hx
  have hs := sepL_len w
  have hu : u.length ≤ (if c = 40 then 40 :: (u ++ [41]) else u).length := by
    split
    · simp; omega
    · exact Nat.le_refl _
  have hc : v.count 40 ≤ (c :: r).count 40 := by
    rw [e1, List.count_append]
    omega
  refine ⟨?_, fun x hx => hv x ?_, fun x hx => ?_, ?_, ?_⟩
  · by_cases hn : w = []
    · rw [hn]
      exact Nat.zero_le _
    · have := hs.2 hn
      rw [← e2] at this
      omega
  · rw [e2]
    cases w with
    | nil => cases hx
    | cons a b => exact List.mem_cons_of_mem _ hx
  · rw [e1]
    refine List.mem_append_left _ ?_
    split
    · exact List.mem_cons_of_mem _ (List.mem_append_left _ hx)
    · exact hx
  · rw [List.length_cons]
    omega
  · rw [e2] at hc
    refine Nat.le_trans ?_ hc
    cases w with
    | nil => exact Nat.le_refl _
    | cons a b =>
      show (a :: b).count 40 ≤ (32 :: a :: b).count 40
      rw [List.count_cons (l := a :: b)]
      omega
theorem piece_u {c : Nat} {r u v : List Nat} (h : pieceP c r = some (u, v)) : (∀ x ∈ u, x ∈ c :: r) ∧ u.length ≤ (c :: r).length ∧ (∀ x ∈ v, x ∈ c :: r) ∧ v.length ≤ (c :: r).length := by
  have e1 := piece_sound h
  have hl := congrArg List.length e1
  rw [List.length_append] at hl
  have hu : u.length ≤ (if c = 40 then 40 :: (u ++ [41]) else u).length := by
    split
    · simp; omega
    · exact Nat.le_refl _
  refine ⟨fun x hx => ?_, by omega, fun x hx => by rw [e1]; exact List.mem_append_right _ hx, by omega⟩
  rw [e1]
  refine List.mem_append_left _ ?_
  split
  · exact List.mem_cons_of_mem _ (List.mem_append_left _ hx)
  · exact hx
theorem argsP_fuel (T : List Nat → Option Pt) : ∀ (n m : Nat) (xs : List Nat) (as : List Pt), xs.length ≤ n → xs.length ≤ m → argsP T n xs as = argsP T m xs as
  | n, m, [], as, _, _ => by rw [argsP_nil, argsP_nil]
  | 0, _, _ :: _, _, h, _ => by simp at h
  | _, 0, _ :: _, _, _, h => by simp at h
  | n + 1, m + 1, c :: r, as, h, h' => by
    unfold argsP
    cases q : pieceP c r with
    | none => rfl
    | some x =>
      obtain ⟨u, v⟩ := x
      dsimp only
      split
      · rfl
      · cases T u with
        | none => rfl
        | some p =>
          dsimp only
          split
          · rfl
          · cases q3 : nextP v with
            | none => rfl
            | some w =>
              have hw := (piece_len q q3).1
              rw [List.length_cons] at h h'
              exact argsP_fuel T n m w _ (by omega) (by omega)
def argsQ (T : List Nat → Option Pt) (xs : List Nat) (as : List Pt) : Option (List Pt) := argsP T xs.length xs as
theorem argsQ_nil (T : List Nat → Option Pt) (as : List Pt) : argsQ T [] as = some as := rfl
theorem argsQ_cons (T : List Nat → Option Pt) (c : Nat) (r : List Nat) (as : List Pt) : argsQ T (c :: r) as = (match pieceP c r with
    | none => none
    | some (u, v) => if 14 < as.length then none else
      match T u with
      | none => none
      | some p => if flatT p = decide (c = 40) then none else
        match nextP v with
        | none => none
        | some w => argsQ T w (as ++ [p])) := by
  unfold argsQ
  rw [List.length_cons, argsP]
  cases q : pieceP c r with
  | none => rfl
  | some x =>
    obtain ⟨u, v⟩ := x
    dsimp only
    split
    · rfl
    · cases T u with
      | none => rfl
      | some p =>
        dsimp only
        split
        · rfl
        · cases q3 : nextP v with
          | none => rfl
          | some w => exact argsP_fuel T _ _ w _ (piece_len q q3).1 (Nat.le_refl _)
theorem part_blank (xs : List Nat) : (Txt.partition (SX.S xs) (SX.S blS)).1 = SX.S (xs.takeWhile (· != 32)) := by
  have hs := List.takeWhile_append_dropWhile (p := (· != 32)) (l := xs)
  have hn : 32 ∉ xs.takeWhile (· != 32) := fun m => by
    have := takeWhile_all m
    revert this
    decide
  cases q : xs.dropWhile (· != 32) with
  | nil =>
    rw [q, List.append_nil] at hs
    rw [hs] at hn
    have hp : TL.par blS [] xs = none := SX.par_head_none hn
    rw [SX.partition_none (by decide) hp, hs]
  | cons c w =>
    have hc := dropWhile_head q
    have hc : c = 32 := by simpa using hc
    rw [q, hc] at hs
    have hp : TL.par blS [] (xs.takeWhile (· != 32) ++ (blS ++ w)) = some (xs.takeWhile (· != 32), w) := SX.par_head w hn
    have e : xs.takeWhile (· != 32) ++ (blS ++ w) = xs := hs
    rw [e] at hp
    rw [SX.partition_some (by decide) hp]
/-- the head, the blank and the rest -/
theorem told_parts {zs ys : List Nat} {bd b : Nat} (n : Nat) (hh : headP zs bd = some (b, ys)) : ∃ h0 blk v0 : List Nat, Txt.partition (SX.S ys) (SX.S blS) = (SX.S h0, SX.S blk, SX.S v0) ∧ ((blk = [] ∧ v0 = [] ∧ ys = h0) ∨ (blk = [32] ∧ ys = h0 ++ 32 :: v0)) ∧ toldR (n + 1) zs bd = if headB (bd + b) (SX.S h0) = true ∧ ¬ (blk ≠ [] ∧ v0 = []) then (argsQ (fun zs => toldR n zs (bd + b)) v0 []).map (fun as => .mk b (SX.S h0) as) else none := by
  cases q : TL.par blS [] ys with
  | none =>
    refine ⟨ys, [], [], SX.partition_none (by decide) q, .inl ⟨rfl, rfl, rfl⟩, ?_⟩
    rw [toldR]
    rw [hh]
    dsimp only
    rw [q]
    dsimp only
    by_cases h : headB (bd + b) (SX.S ys) = true
    · rw [if_pos h, if_pos ⟨h, fun z => z.1 rfl⟩, argsQ_nil]
      rfl
    · rw [if_neg h, if_neg (fun z => h z.1)]
  | some x =>
    obtain ⟨u, v⟩ := x
    refine ⟨u, [32], v, SX.partition_some (by decide) q, .inr ⟨rfl, ?_⟩, ?_⟩
    · have := par_sound (by decide) q
      rw [this]
      simp [blS]
    · rw [toldR]
      rw [hh]
      dsimp only
      rw [q]
      dsimp only
      by_cases h : headB (bd + b) (SX.S u) = true ∧ v ≠ []
      · rw [if_pos h, if_pos ⟨h.1, fun z => h.2 z.2⟩]
        rfl
      · rw [if_neg h, if_neg (fun z => h ⟨z.1, fun z2 => z.2 ⟨by simp, z2⟩⟩)]
theorem told_none {zs : List Nat} {bd : Nat} (n : Nat) (hh : headP zs bd = none) : toldR (n + 1) zs bd = none := by
  rw [toldR]
  rw [hh]
theorem hdc_len (bd : Nat) : ∀ b, b ≤ (catL (headToks bd b)).length
  | 0 => Nat.zero_le _
  | b + 1 => by
    have h1 : ∀ k, 1 ≤ (xS k).cps.toList.length := fun k => by
      have := xS_ne k
      cases e : (xS k).cps.toList with
      | nil =>
        refine absurd ?_ this
        have : xS k = SX.S [] := by rw [← SX.S_tl (xS k), e]
        exact this
      | cons _ _ => simp
    have h : ∀ (b bd : Nat), b + 1 ≤ (catL (binT bd (b + 1))).length := by
      intro b
      induction b with
      | zero =>
        intro bd
        have := h1 bd
        show 0 + 1 ≤ ((xS bd).cps.toList ++ _).length
        rw [List.length_append]
        omega
      | succ b ih =>
        intro bd
        have h2 := ih (bd + 1)
        have h3 := h1 bd
        show b + 1 + 1 ≤ ((xS bd).cps.toList ++ ([32] ++ catL (binT (bd + 1) (b + 1)))).length
        rw [List.length_append, List.length_append]
        omega
    have := h b bd
    unfold headToks
    rw [if_neg (by omega), catL_cons, List.length_append]
    omega
/-- how deep a piece is -/
theorem piece_deep {zs : List Nat} {c : Nat} {r u v : List Nat} {n : Nat} (h : pieceP c r = some (u, v)) (hd : deepL zs < n + 1) (hb : 32 ∈ zs) (hc : (c :: r).count 40 ≤ zs.count 40) : deepL u < n := by
  unfold deepL at hd ⊢
  rw [if_pos hb] at hd
  have e := piece_sound h
  by_cases h40 : c = 40
  · rw [if_pos h40] at e
    have : (c :: r).count 40 = 1 + u.count 40 + v.count 40 := by
      rw [e]
      show ([40] ++ (u ++ [41]) ++ v).count 40 = _
      simp only [List.count_append]
      rw [show ([40] : List Nat).count 40 = 1 by decide, show ([41] : List Nat).count 40 = 0 by decide]
      omega
    split <;> omega
  · rw [if_neg h40] at e
    have hn : 32 ∉ u := by
      unfold pieceP at h
      rw [if_neg h40] at h
      cases h
      intro m
      have := takeWhile_all m
      revert this
      decide
    rw [if_neg hn]
    have : (c :: r).count 40 = u.count 40 + v.count 40 := by rw [e, List.count_append]
    omega
section
variable {T : List Nat → Option Pt} {c : Nat} {r u v w : List Nat} {as : List Pt} {p : Pt}
theorem argsQ_c0 (h : pieceP c r = none) : argsQ T (c :: r) as = none := by rw [argsQ_cons, h]
theorem argsQ_c1 (h : pieceP c r = some (u, v)) (hl : 14 < as.length) : argsQ T (c :: r) as = none := by
  rw [argsQ_cons, h]
  exact if_pos hl
theorem argsQ_c2 (h : pieceP c r = some (u, v)) (hT : T u = none) : argsQ T (c :: r) as = none := by
  rw [argsQ_cons, h]
  dsimp only
  rw [hT]
  split <;> rfl
theorem argsQ_c3 (h : pieceP c r = some (u, v)) (hT : T u = some p) (hf : flatT p = decide (c = 40)) : argsQ T (c :: r) as = none := by
  rw [argsQ_cons, h]
  dsimp only
  rw [hT]
  dsimp only
  rw [if_pos hf]
  split <;> rfl
theorem argsQ_c4 (h : pieceP c r = some (u, v)) (hT : T u = some p) (hn : nextP v = none) : argsQ T (c :: r) as = none := by
  rw [argsQ_cons, h]
  dsimp only
  rw [hT]
  dsimp only
  rw [hn]
  split
  · rfl
  · split <;> rfl
theorem argsQ_c5 (h : pieceP c r = some (u, v)) (hl : ¬ 14 < as.length) (hT : T u = some p) (hf : ¬ flatT p = decide (c = 40)) (hn : nextP v = some w) : argsQ T (c :: r) as = argsQ T w (as ++ [p]) := by
  rw [argsQ_cons, h]
  dsimp only
  rw [if_neg hl, hT]
  dsimp only
  rw [if_neg hf, hn]
end
/-- how long the first piece is -/
def preN (c : Nat) (u : List Nat) : Nat := if c = 40 then u.length + 2 else u.length
def endD (c : Nat) : Option (List Nat × List Nat) → D
  | none => .non
  | some (u, _) => .int (((preN c u : Nat) : Int) - 1)
theorem endD_40 (o : Option (List Nat × List Nat)) : clD 1 o = endD 40 o := by
  cases o with
  | none => rfl
  | some x =>
    show D.int ((1 + x.1.length : Nat) : Int) = .int (((preN 40 x.1 : Nat) : Int) - 1)
    unfold preN
    rw [if_pos rfl]
    congr 1
    omega
theorem piece_cut {c : Nat} {r u v : List Nat} (h : pieceP c r = some (u, v)) : (c :: r).drop (preN c u) = v ∧ (c ≠ 40 → (c :: r).take u.length = u) ∧ (c = 40 → c :: r = [40] ++ (u ++ (41 :: v))) := by
  have e := piece_sound h
  unfold preN
  refine ⟨?_, fun hc => ?_, fun hc => ?_⟩
  · rw [e]
    split
    · rw [List.drop_left' (by simp)]
    · rw [List.drop_left' rfl]
  · rw [e, if_neg hc, List.take_left' rfl]
  · rw [e, if_pos hc]
    simp
theorem S_lit {a : List Nat} {z : Str} {b : List Nat} (hz : z = SX.S b) : decide (SX.S a = z) = decide (a = b) := decide_eq_decide.mpr ⟨fun h => SX.S_inj (h.trans hz), fun h => by rw [h, hz]⟩
theorem lit_nil : ("" : Str) = SX.S [] := by decide +kernel
theorem lit_bl : (" " : Str) = SX.S blS := by decide +kernel
theorem lit_dot : (". " : Str) = SX.S dotS := by decide +kernel
theorem lit_lam : ("\\" : Str) = SX.S [92] := by decide +kernel
theorem ne_bl2 {a b : Bool} {Q : D → Prop} (q : Q (.bl (!decide (a = b)))) : rdNe (.bl a) (.bl b) Q := by
  cases a <;> cases b <;> exact q
theorem next_drop {v w : List Nat} (h : nextP v = some w) : v.drop 1 = w := by
  rw [next_sound h]
  cases w <;> rfl
theorem okS {xs : List Nat} (h1 : xs.length ≤ 1000) (h2 : ∀ c ∈ xs, c < 1114112) : okStr (SX.S xs) := ⟨by rw [SX.S_len]; exact h1, h2⟩
theorem part_ok {ys h0 blk v0 : List Nat} (h : (blk = [] ∧ v0 = [] ∧ ys = h0) ∨ (blk = [32] ∧ ys = h0 ++ 32 :: v0)) : h0.length ≤ ys.length ∧ v0.length ≤ ys.length ∧ (∀ c ∈ h0, c ∈ ys) ∧ (∀ c ∈ v0, c ∈ ys) ∧ v0.count 40 ≤ ys.count 40 ∧ (v0 ≠ [] → 32 ∈ ys) := by
  rcases h with ⟨_, h2, h3⟩ | ⟨_, h2⟩
  · subst h2
    subst h3
    exact ⟨Nat.le_refl _, Nat.zero_le _, fun c hc => hc, fun c hc => (by cases hc), Nat.zero_le _, fun h => absurd rfl h⟩
  · subst h2
    refine ⟨by simp, by simp; omega, fun c hc => List.mem_append_left _ hc, fun c hc => List.mem_append_right _ (List.mem_cons_of_mem _ hc), ?_, fun _ => List.mem_append_right _ List.mem_cons_self⟩
    rw [List.count_append, List.count_cons]
    omega
end KP
/-! KP72: law k16: its turns in plain words. -/
namespace KP
open PySem L2 FP
variable [FP.Tabl]
mutual
theorem sh_ptG : ∀ (p : Pt) (n : Nat), 2 * sizeT p + 1 ≤ n → (∀ x ∈ nodesT p, PyData.strOk x.2.1 = true) → shD n (ptD p) = true
  | .mk b h as, n, hn, hh => by
    rw [sizeT] at hn
    obtain ⟨m, rfl⟩ : ∃ m, n = m + 2 := ⟨n - 2, by omega⟩
    rw [ptD_eq]
    exact sh_tup (sh_cons sh_int (sh_cons (sh_str (hh (b, h, as.length) (by rw [nodesT]; exact List.mem_cons_self))) (sh_cons (sh_tup (sh_ptsG as m (by omega) fun x hx => hh x (by rw [nodesT]; exact List.mem_cons_of_mem _ hx))) sh_nil)))
theorem sh_ptsG : ∀ (ps : List Pt) (n : Nat), 2 * sizeTs ps + 1 ≤ n → (∀ x ∈ nodesTs ps, PyData.strOk x.2.1 = true) → shDs n (ps.map ptD) = true
  | [], _, _, _ => sh_nil
  | p :: ps, n, hn, hh => by
    rw [sizeTs] at hn
    exact sh_cons (sh_ptG p n (by omega) fun x hx => hh x (by rw [nodesTs]; exact List.mem_append_left _ hx)) (sh_ptsG ps n (by omega) fun x hx => hh x (by rw [nodesTs]; exact List.mem_append_right _ hx))
end
theorem TI.up {k : Nat} {p : Pt} (t : TI k p) : TI (k + 1) p := ⟨t.sc, t.sz, t.six, by have := t.sp; omega, t.gr⟩
theorem TI.heads {k : Nat} {p : Pt} (t : TI k p) : ∀ x ∈ nodesT p, PyData.strOk x.2.1 = true := fun x hx => (scH.ok isWP_w (good_T isWP_w p 0 t.sc x hx).2).1
theorem TI.len {k : Nat} {p : Pt} (t : TI k p) (hk : k ≤ 12) : (catL (toksT 0 p)).length ≤ 450 := by
  have h1 := T_len isWP_w p 0 t.sc
  have h2 := t.sz
  have h3 := t.sp
  omega
theorem TI.small {k : Nat} {p : Pt} (t : TI k p) : ∀ c ∈ catL (toksT 0 p), c < 1114112 := fun c hc => by
  have := T_small isWP_w p 0 t.sc c hc
  omega
theorem TI.deep {k : Nat} {p : Pt} (t : TI k p) : deepL (catL (toksT 0 p)) < 64 := by
  have h1 := (T_count isWP_w p 0 t.sc).2.2.2
  have h2 := t.sz
  unfold deepL
  split <;> omega
theorem TI.told {k : Nat} {p : Pt} (t : TI k p) : toldR 64 (catL (toksT 0 p)) 0 = some p := told_all 64 p 0 (by have := t.sz; omega) t.sc
theorem TI.read {k : Nat} {p : Pt} (t : TI k p) : rdD (textT 0 p) = nodesD p := by
  unfold rdD
  rw [rdS_all t.sc (by have := t.sz; omega)]
/-- what is read from a text near one -/
theorem near_read {k : Nat} {p : Pt} {a m : Nat} {s : Str} (t : TI k p) (hk : k ≤ 11) (hm : m ≤ 3) (hs : s ∈ insL) : rdD (SX.S (bentL (catL (toksT 0 p)) a m s)) = (match toldR 64 (bentL (catL (toksT 0 p)) a m s) 0 with | none => .non | some q => nodesD q) := by
  unfold rdD
  rw [agree (z := SX.S (bentL (catL (toksT 0 p)) a m s)) fun q hq => by
    have h := bent_told t hk hm hs hq
    exact ⟨h.2.1, h.2.2.1⟩]
  first
    | done
    | (have e : (SX.S (bentL (catL (toksT 0 p)) a m s)).cps.toList = bentL (catL (toksT 0 p)) a m s := rfl
       rw [e]
       cases toldR 64 (bentL (catL (toksT 0 p)) a m s) 0 <;> rfl)
theorem sh_nodes {p : Pt} {bd : Nat} (o : scT isWP bd p) : shD 64 (nodesD p) = true := sh_tup (sh_T isWP_w o)
theorem ne_nodes {p : Pt} {bd : Nat} (o : scT isWP bd p) {Q : D → Prop} (q : Q (.bl false)) : rdNe (nodesD p) (nodesD p) Q := ne_refl (sh_nodes o) rfl q
theorem ne_pt {k : Nat} {p : Pt} (t : TI k p) {Q : D → Prop} (q : Q (.bl false)) : rdNe (ptD p) (ptD p) Q := ne_refl (sh_ptG p 64 (by have := t.sz; omega) t.heads) (by cases p; rfl) q
theorem ne_non2 {Q : D → Prop} (q : Q (.bl false)) : rdNe .non .non Q := q
theorem str_bent (xs : List Nat) (a m : Nat) (s : Str) : (SX.S (xs.take a) ++ s) ++ SX.S (xs.drop (a + m)) = SX.S (bentL xs a m s) := by
  rw [← SX.S_tl s, SX.S_cat, SX.S_cat]
  rfl
def texts16 : List Str := ["", "x", "x0", "\\x0. x0", "\\x1. x1", "f (a)", "f (a b)", "(f)", "f  a", "f a ", "\\x0 x1. f x1 x0", "f ?"]
def due16 : List Bool := [false, true, false, true, false, false, true, false, false, false, true, false]
theorem texts16_due : texts16.map (fun z => (rdS z).isSome) = due16 := by decide +kernel
theorem texts16_ok : ∀ z ∈ texts16, okStr z := fun z hz => by
  have h : ∀ z ∈ texts16, z.length ≤ 1000 ∧ (z.cps.toList.all fun c => decide (c < 1114112)) = true := by decide +kernel
  obtain ⟨h1, h2⟩ := h z hz
  exact ⟨h1, fun c hc => of_decide_eq_true (List.all_eq_true.mp h2 c hc)⟩
theorem isn_rd {z : Str} {Q : D → Prop} (q : Q (.bl (rdS z).isSome)) : rdIsNot (rdD z) .non Q := by
  unfold rdD
  cases e : rdS z with
  | none =>
    rw [e] at q
    exact q
  | some p =>
    rw [e] at q
    exact q
end KP
namespace K16
open PySem L2 FP
variable [FP.Tabl]
def topS (i : Nat) : Stmt := PySem.Challenge.pw_fromparts_k16_whole_programs_and_their_t.main.body.getD i (.Pass ⟨0, 0, 0, 0⟩)
abbrev s_is_integer : Stmt := topS 9
abbrev s_is_within : Stmt := topS 10
abbrev s_is_word : Stmt := topS 11
abbrev s_level_of : Stmt := topS 12
abbrev s_ParseError___init__ : Stmt := inClass (topS 16) 0
abbrev s_is_node : Stmt := topS 23
abbrev s_kids_of : Stmt := topS 24
abbrev s_ends_of : Stmt := topS 25
abbrev s_bound_of : Stmt := topS 26
abbrev s_are_nodes : Stmt := topS 27
abbrev s_variable_text : Stmt := topS 28
abbrev s_tokens_of : Stmt := topS 31
abbrev s_Reader___init__ : Stmt := inClass (topS 32) 0
abbrev s_Reader_token : Stmt := inClass (topS 32) 1
abbrev s_Reader_binders : Stmt := inClass (topS 32) 2
abbrev s_Reader_begin : Stmt := inClass (topS 32) 3
abbrev s_Reader_add : Stmt := inClass (topS 32) 4
abbrev s_Reader_go_on : Stmt := inClass (topS 32) 5
abbrev s_nodes_of : Stmt := topS 33
abbrev s_Nodes___init__ : Stmt := inClass (topS 34) 0
abbrev s_Program___init__ : Stmt := inClass (topS 35) 0
abbrev s_Program_read : Stmt := inClass (topS 35) 1
abbrev s_Program_nodes : Stmt := inClass (topS 35) 2
abbrev s__law_dice : Stmt := topS 38
abbrev s__law_roll : Stmt := topS 39
abbrev s__law_pick : Stmt := topS 40
abbrev s__law_program_nodes : Stmt := topS 41
abbrev s__law_program_text : Stmt := topS 42
abbrev s__law_program_parts : Stmt := topS 43
abbrev s__law_drawn : Stmt := topS 44
abbrev s__law_is_head : Stmt := topS 45
abbrev s__law_closing : Stmt := topS 46
abbrev s__law_told : Stmt := topS 47
abbrev s__law_read : Stmt := topS 48
abbrev s__law_bent : Stmt := topS 49
abbrev s__law_right : Stmt := topS 50
abbrev s_law : Stmt := topS 51
theorem sc_is_integer : FnScope ["value"] ["value"] (defScope s_is_integer) := ⟨rfl, rfl, rfl, by decide +kernel, rfl, by decide +kernel, by decide +kernel⟩
theorem sc_is_within : FnScope ["value", "least", "most"] ["value", "least", "most"] (defScope s_is_within) := ⟨rfl, rfl, rfl, by decide +kernel, rfl, by decide +kernel, by decide +kernel⟩
theorem sc_is_word : FnScope ["value", "sign"] ["value"] (defScope s_is_word) := ⟨rfl, rfl, rfl, by decide +kernel, rfl, by decide +kernel, by decide +kernel⟩
theorem sc_level_of : FnScope ["value", "digits", "sign"] ["value"] (defScope s_level_of) := ⟨rfl, rfl, rfl, by decide +kernel, rfl, by decide +kernel, by decide +kernel⟩
theorem sc_is_node : FnScope ["value", "has_gaps"] ["value", "has_gaps"] (defScope s_is_node) := ⟨rfl, rfl, rfl, by decide +kernel, rfl, by decide +kernel, by decide +kernel⟩
theorem sc_kids_of : FnScope ["nodes", "found", "waiting", "at", "cut", "node"] ["nodes"] (defScope s_kids_of) := ⟨rfl, rfl, rfl, by decide +kernel, rfl, by decide +kernel, by decide +kernel⟩
theorem sc_ends_of : FnScope ["kids", "found", "at"] ["kids"] (defScope s_ends_of) := ⟨rfl, rfl, rfl, by decide +kernel, rfl, by decide +kernel, by decide +kernel⟩
theorem sc_bound_of : FnScope ["nodes", "kids", "found", "at", "places", "place", "node"] ["nodes", "kids"] (defScope s_bound_of) := ⟨rfl, rfl, rfl, by decide +kernel, rfl, by decide +kernel, by decide +kernel⟩
theorem sc_are_nodes : FnScope ["value", "has_gaps", "kids", "levels", "rows", "node", "bound", "row", "level"] ["value", "has_gaps"] (defScope s_are_nodes) := ⟨rfl, rfl, rfl, by decide +kernel, rfl, by decide +kernel, by decide +kernel⟩
theorem sc_variable_text : FnScope ["level"] ["level"] (defScope s_variable_text) := ⟨rfl, rfl, rfl, by decide +kernel, rfl, by decide +kernel, by decide +kernel⟩
theorem sc_tokens_of : FnScope ["text", "found", "at", "size"] ["text"] (defScope s_tokens_of) := ⟨rfl, rfl, rfl, by decide +kernel, rfl, by decide +kernel, by decide +kernel⟩
theorem sc_Reader___init__ : FnScope ["self", "tokens"] ["self", "tokens"] (defScope s_Reader___init__) := ⟨rfl, rfl, rfl, by decide +kernel, rfl, by decide +kernel, by decide +kernel⟩
theorem sc_Reader_token : FnScope ["self", "found"] ["self"] (defScope s_Reader_token) := ⟨rfl, rfl, rfl, by decide +kernel, rfl, by decide +kernel, by decide +kernel⟩
theorem sc_Reader_binders : FnScope ["self", "bound", "count", "sign"] ["self", "bound"] (defScope s_Reader_binders) := ⟨rfl, rfl, rfl, by decide +kernel, rfl, by decide +kernel, by decide +kernel⟩
theorem sc_Reader_begin : FnScope ["self", "bound", "count"] ["self"] (defScope s_Reader_begin) := ⟨rfl, rfl, rfl, by decide +kernel, rfl, by decide +kernel, by decide +kernel⟩
theorem sc_Reader_add : FnScope ["self", "count", "head"] ["self", "count"] (defScope s_Reader_add) := ⟨rfl, rfl, rfl, by decide +kernel, rfl, by decide +kernel, by decide +kernel⟩
theorem sc_Reader_go_on : FnScope ["self", "sign", "index", "binders", "head", "count"] ["self"] (defScope s_Reader_go_on) := ⟨rfl, rfl, rfl, by decide +kernel, rfl, by decide +kernel, by decide +kernel⟩
theorem sc_nodes_of : FnScope ["text", "tokens", "reader", "nodes"] ["text"] (defScope s_nodes_of) := ⟨rfl, rfl, rfl, by decide +kernel, rfl, by decide +kernel, by decide +kernel⟩
theorem sc_Program___init__ : FnScope ["self", "nodes"] ["self", "nodes"] (defScope s_Program___init__) := ⟨rfl, rfl, rfl, by decide +kernel, rfl, by decide +kernel, by decide +kernel⟩
theorem sc_Program_read : FnScope ["cls", "text", "nodes"] ["cls", "text"] (defScope s_Program_read) := ⟨rfl, rfl, rfl, by decide +kernel, rfl, by decide +kernel, by decide +kernel⟩
theorem sc_Program_nodes : FnScope ["self"] ["self"] (defScope s_Program_nodes) := ⟨rfl, rfl, rfl, by decide +kernel, rfl, by decide +kernel, by decide +kernel⟩
theorem sc__law_dice : FnScope ["_law_script", "_law_spot", "_law_cell", "_law_great", "_law_blend"] ["_law_script", "_law_spot"] (defScope s__law_dice) := ⟨rfl, rfl, rfl, by decide +kernel, rfl, by decide +kernel, by decide +kernel⟩
theorem sc__law_roll : FnScope ["_law_dice_here", "_law_total", "_law_one", "_law_two", "_law_found"] ["_law_dice_here", "_law_total"] (defScope s__law_roll) := ⟨rfl, rfl, rfl, by decide +kernel, rfl, by decide +kernel, by decide +kernel⟩
theorem sc__law_pick : FnScope ["_law_dice_here", "_law_items"] ["_law_dice_here", "_law_items"] (defScope s__law_pick) := ⟨rfl, rfl, rfl, by decide +kernel, rfl, by decide +kernel, by decide +kernel⟩
theorem sc__law_program_nodes : FnScope ["_law_program", "_law_found", "_law_one"] ["_law_program"] (defScope s__law_program_nodes) := ⟨rfl, rfl, rfl, by decide +kernel, rfl, by decide +kernel, by decide +kernel⟩
theorem sc__law_program_text : FnScope ["_law_program", "_law_bound", "_law_words", "_law_one", "_law_names", "_law_text", "_law_at"] ["_law_program", "_law_bound"] (defScope s__law_program_text) := ⟨rfl, rfl, rfl, by decide +kernel, rfl, by decide +kernel, by decide +kernel⟩
theorem sc__law_program_parts : FnScope ["_law_program", "_law_found", "_law_one"] ["_law_program"] (defScope s__law_program_parts) := ⟨rfl, rfl, rfl, by decide +kernel, rfl, by decide +kernel, by decide +kernel⟩
theorem sc__law_drawn : FnScope ["_law_dice_here", "_law_bound", "_law_most", "_law_binders", "_law_left", "_law_args", "_law_names", "_law_head", "_law_turn", "_law_at"] ["_law_dice_here", "_law_bound", "_law_most"] (defScope s__law_drawn) := ⟨rfl, rfl, rfl, by decide +kernel, rfl, by decide +kernel, by decide +kernel⟩
theorem sc__law_is_head : FnScope ["_law_word", "_law_bound", "_law_at", "_law_sign"] ["_law_word", "_law_bound"] (defScope s__law_is_head) := ⟨rfl, rfl, rfl, by decide +kernel, rfl, by decide +kernel, by decide +kernel⟩
theorem sc__law_closing : FnScope ["_law_text", "_law_deep", "_law_at"] ["_law_text"] (defScope s__law_closing) := ⟨rfl, rfl, rfl, by decide +kernel, rfl, by decide +kernel, by decide +kernel⟩
theorem sc__law_told : FnScope ["_law_text", "_law_bound", "_law_binders", "_law_head", "_law_blank", "_law_rest", "_law_args", "_law_names", "_law_dot", "_law_end", "_law_inner", "_law_one", "_law_at"] ["_law_text", "_law_bound"] (defScope s__law_told) := ⟨rfl, rfl, rfl, by decide +kernel, rfl, by decide +kernel, by decide +kernel⟩
theorem sc__law_read : FnScope ["_law_text", "error"] ["_law_text"] (defScope s__law_read) := ⟨rfl, rfl, rfl, by decide +kernel, rfl, by decide +kernel, by decide +kernel⟩
theorem sc__law_bent : FnScope ["_law_dice_here", "_law_text", "_law_at", "_law_sign"] ["_law_dice_here", "_law_text"] (defScope s__law_bent) := ⟨rfl, rfl, rfl, by decide +kernel, rfl, by decide +kernel, by decide +kernel⟩
theorem sc__law_right : FnScope ["_law_dice_here", "_law_program", "_law_text", "_law_turn", "_law_near", "_law_told_here"] ["_law_dice_here"] (defScope s__law_right) := ⟨rfl, rfl, rfl, by decide +kernel, rfl, by decide +kernel, by decide +kernel⟩
theorem sc_law : FnScope ["_law_script", "_law_spot", "_law_texts", "_law_due", "_law_text"] ["_law_script"] (defScope s_law) := ⟨rfl, rfl, rfl, by decide +kernel, rfl, by decide +kernel, by decide +kernel⟩
structure Ads where
  a_Reader : Addr
  a_Nodes : Addr
  a_Program : Addr
  ax_BuildError : Addr
  ax_InvalidProgram : Addr
  ax_ParseError : Addr
structure All (mg : Gm) (Z : Ads) : Prop where
  n_abs : mg.mg "abs" = none
  n_all : mg.mg "all" = none
  n_bool : mg.mg "bool" = none
  n_enumerate : mg.mg "enumerate" = none
  n_int : mg.mg "int" = none
  n_isinstance : mg.mg "isinstance" = none
  n_len : mg.mg "len" = none
  n_max : mg.mg "max" = none
  n_min : mg.mg "min" = none
  n_range : mg.mg "range" = none
  n_str : mg.mg "str" = none
  n_tuple : mg.mg "tuple" = none
  n_zip : mg.mg "zip" = none
  c_DIGITS : ∃ tk, mg.mg "DIGITS" = some (.str "0123456789" tk)
  c_DOT : ∃ tk, mg.mg "DOT" = some (.str ". " tk)
  c_GAP : ∃ tk, mg.mg "GAP" = some (.str "?" tk)
  c_LAMBDA : ∃ tk, mg.mg "LAMBDA" = some (.str "\\" tk)
  c_LETTERS : ∃ tk, mg.mg "LETTERS" = some (.str "abcdefghijklmnopqrstuvwxyz" tk)
  c_LONGEST : ∃ tk, mg.mg "LONGEST" = some (.int 1000000000000000000000000000000000000000000000000000000000000 tk)
  c_MAX_COUNT : ∃ tk, mg.mg "MAX_COUNT" = some (.int 15 tk)
  c_MAX_LETTERS : ∃ tk, mg.mg "MAX_LETTERS" = some (.int 8 tk)
  c_MAX_LEVEL : ∃ tk, mg.mg "MAX_LEVEL" = some (.int 99 tk)
  c_MAX_NODES : ∃ tk, mg.mg "MAX_NODES" = some (.int 40 tk)
  c_VARIABLE : ∃ tk, mg.mg "VARIABLE" = some (.str "x" tk)
  kc_Reader : ClsF mg "Reader" Z.a_Reader
  na_Reader_of_tokens : NoAttr mg.K Z.a_Reader "of_tokens"
  na_Reader_of_at : NoAttr mg.K Z.a_Reader "of_at"
  na_Reader_of_nodes : NoAttr mg.K Z.a_Reader "of_nodes"
  na_Reader_of_open : NoAttr mg.K Z.a_Reader "of_open"
  kc_Nodes : ClsF mg "Nodes" Z.a_Nodes
  na_Nodes_told_nodes : NoAttr mg.K Z.a_Nodes "told_nodes"
  isi_Nodes : IsiF mg Z.a_Nodes ["Nodes"] (fun _ => true)
  kc_Program : ClsF mg "Program" Z.a_Program
  na_Program_own_kids : NoAttr mg.K Z.a_Program "own_kids"
  na_Program_own_ends : NoAttr mg.K Z.a_Program "own_ends"
  na_Program_own_bound : NoAttr mg.K Z.a_Program "own_bound"
  na_Program_own_nodes : NoAttr mg.K Z.a_Program "own_nodes"
  isi_Program : IsiF mg Z.a_Program ["Program"] (fun _ => true)
  d_is_integer : ∃ fa fd, mg.mg "is_integer" = some (.ref fa) ∧ Fun mg.K "is_integer" "is_integer" s_is_integer fa fd
  d_is_within : ∃ fa fd, mg.mg "is_within" = some (.ref fa) ∧ Fun mg.K "is_within" "is_within" s_is_within fa fd
  d_is_word : ∃ fa fd, mg.mg "is_word" = some (.ref fa) ∧ Fun mg.K "is_word" "is_word" s_is_word fa fd
  d_level_of : ∃ fa fd, mg.mg "level_of" = some (.ref fa) ∧ Fun mg.K "level_of" "level_of" s_level_of fa fd
  d_is_node : ∃ fa fd, mg.mg "is_node" = some (.ref fa) ∧ Fun mg.K "is_node" "is_node" s_is_node fa fd
  d_kids_of : ∃ fa fd, mg.mg "kids_of" = some (.ref fa) ∧ Fun mg.K "kids_of" "kids_of" s_kids_of fa fd
  d_ends_of : ∃ fa fd, mg.mg "ends_of" = some (.ref fa) ∧ Fun mg.K "ends_of" "ends_of" s_ends_of fa fd
  d_bound_of : ∃ fa fd, mg.mg "bound_of" = some (.ref fa) ∧ Fun mg.K "bound_of" "bound_of" s_bound_of fa fd
  d_are_nodes : ∃ fa fd, mg.mg "are_nodes" = some (.ref fa) ∧ Fun mg.K "are_nodes" "are_nodes" s_are_nodes fa fd
  d_variable_text : ∃ fa fd, mg.mg "variable_text" = some (.ref fa) ∧ Fun mg.K "variable_text" "variable_text" s_variable_text fa fd
  d_tokens_of : ∃ fa fd, mg.mg "tokens_of" = some (.ref fa) ∧ Fun mg.K "tokens_of" "tokens_of" s_tokens_of fa fd
  d_Reader___init__ : ∃ fa fd, Mk mg.K Z.a_Reader fa ∧ Fun mg.K "__init__" "Reader.__init__" s_Reader___init__ fa fd
  d_Reader_token : ∃ fa fd, Meth mg.K Z.a_Reader "token" fa ∧ Fun mg.K "token" "Reader.token" s_Reader_token fa fd
  d_Reader_binders : ∃ fa fd, Meth mg.K Z.a_Reader "binders" fa ∧ Fun mg.K "binders" "Reader.binders" s_Reader_binders fa fd
  d_Reader_begin : ∃ fa fd, Meth mg.K Z.a_Reader "begin" fa ∧ Fun mg.K "begin" "Reader.begin" s_Reader_begin fa fd
  d_Reader_add : ∃ fa fd, Meth mg.K Z.a_Reader "add" fa ∧ Fun mg.K "add" "Reader.add" s_Reader_add fa fd
  d_Reader_go_on : ∃ fa fd, Meth mg.K Z.a_Reader "go_on" fa ∧ Fun mg.K "go_on" "Reader.go_on" s_Reader_go_on fa fd
  d_nodes_of : ∃ fa fd, mg.mg "nodes_of" = some (.ref fa) ∧ Fun mg.K "nodes_of" "nodes_of" s_nodes_of fa fd
  d_Nodes___init__ : ∃ fa fd, Mk mg.K Z.a_Nodes fa ∧ Fun mg.K "__init__" "Nodes.__init__" s_Nodes___init__ fa fd
  d_Program___init__ : ∃ fa fd, Mk mg.K Z.a_Program fa ∧ Fun mg.K "__init__" "Program.__init__" s_Program___init__ fa fd
  d_Program_read : ∃ mc p fa fd, ClX.CRead mg.K Z.a_Program mc ∧ ClX.CMet mg.K Z.a_Program mc "read" p fa ∧ Fun mg.K "read" "Program.read" s_Program_read fa fd
  d_Program_nodes : ∃ p fa fd, PropOf mg.K Z.a_Program "nodes" p fa ∧ Fun mg.K "nodes" "Program.nodes" s_Program_nodes fa fd
  d__law_dice : ∃ fa fd, mg.mg "_law_dice" = some (.ref fa) ∧ Fun mg.K "_law_dice" "_law_dice" s__law_dice fa fd
  d__law_roll : ∃ fa fd, mg.mg "_law_roll" = some (.ref fa) ∧ Fun mg.K "_law_roll" "_law_roll" s__law_roll fa fd
  d__law_pick : ∃ fa fd, mg.mg "_law_pick" = some (.ref fa) ∧ Fun mg.K "_law_pick" "_law_pick" s__law_pick fa fd
  d__law_program_nodes : ∃ fa fd, mg.mg "_law_program_nodes" = some (.ref fa) ∧ Fun mg.K "_law_program_nodes" "_law_program_nodes" s__law_program_nodes fa fd
  d__law_program_text : ∃ fa fd, mg.mg "_law_program_text" = some (.ref fa) ∧ Fun mg.K "_law_program_text" "_law_program_text" s__law_program_text fa fd
  d__law_program_parts : ∃ fa fd, mg.mg "_law_program_parts" = some (.ref fa) ∧ Fun mg.K "_law_program_parts" "_law_program_parts" s__law_program_parts fa fd
  d__law_drawn : ∃ fa fd, mg.mg "_law_drawn" = some (.ref fa) ∧ Fun mg.K "_law_drawn" "_law_drawn" s__law_drawn fa fd
  d__law_is_head : ∃ fa fd, mg.mg "_law_is_head" = some (.ref fa) ∧ Fun mg.K "_law_is_head" "_law_is_head" s__law_is_head fa fd
  d__law_closing : ∃ fa fd, mg.mg "_law_closing" = some (.ref fa) ∧ Fun mg.K "_law_closing" "_law_closing" s__law_closing fa fd
  d__law_told : ∃ fa fd, mg.mg "_law_told" = some (.ref fa) ∧ Fun mg.K "_law_told" "_law_told" s__law_told fa fd
  d__law_read : ∃ fa fd, mg.mg "_law_read" = some (.ref fa) ∧ Fun mg.K "_law_read" "_law_read" s__law_read fa fd
  d__law_bent : ∃ fa fd, mg.mg "_law_bent" = some (.ref fa) ∧ Fun mg.K "_law_bent" "_law_bent" s__law_bent fa fd
  d__law_right : ∃ fa fd, mg.mg "_law_right" = some (.ref fa) ∧ Fun mg.K "_law_right" "_law_right" s__law_right fa fd
  d_law : ∃ fa fd, mg.mg "law" = some (.ref fa) ∧ Fun mg.K "law" "law" s_law fa fd
  ex_BuildError : ExcF mg "BuildError" Z.ax_BuildError veBm "ValueError.__new__"
  ex_InvalidProgram : ExcF mg "InvalidProgram" Z.ax_InvalidProgram veBm "ValueError.__new__"
  xc_ParseError : XcF mg "ParseError" Z.ax_ParseError "line" veBm "ValueError.__new__"
  cam_BuildError : CatF mg (.ref Z.ax_BuildError) ["BuildError", "InvalidProgram", "ParseError"] (fun y => decide (y ∈ (["BuildError", "InvalidProgram", "ParseError"] : List Str)))
  cam_InvalidProgram : CatF mg (.ref Z.ax_InvalidProgram) ["BuildError", "InvalidProgram", "ParseError"] (fun y => decide (y ∈ (["InvalidProgram"] : List Str)))
  cam_ParseError : CatF mg (.ref Z.ax_ParseError) ["BuildError", "InvalidProgram", "ParseError"] (fun y => decide (y ∈ (["ParseError"] : List Str)))
end K16
namespace K16
open PySem L2 FP
variable [FP.Tabl]
open KP
theorem lc_letters (z : Str) {Q : List D → Prop} (h : Q (z.cps.toList.map fun c => .bl (decide (c ∈ letters)))) :
    lcD (fun d k => match inD d (.str "abcdefghijklmnopqrstuvwxyz") with | some b => k (some (.bl b)) | none => False) (signsD z) Q := by
  refine lcD_map (fun d => match inD d (.str "abcdefghijklmnopqrstuvwxyz") with | some b => .bl b | none => .non) _ _ (fun d hd k hk => ?_) ?_
  · obtain ⟨c, _, rfl⟩ := List.mem_map.mp hd
    exact hk
  · unfold signsD
    rw [List.map_map]
    exact h
theorem ok_is_word {P : Program} {w : World} {mg : Gm} {base : Heap} {Z : Ads} (A : All mg Z) : DefOk P w mg base 1 "is_word" 1 f_is_word := by
  refine mkDef (N := ["value", "sign"]) (ps := ["value"]) A.d_is_word sc_is_word (fun _ _ _ _ _ _ us hl => match us, hl with | [_], _ => rfl) fun fa cdv Ar outer s H E hr => ⟨_,
    (dss_one (ds_ret (de_and (de_isi (de_var 0) A.n_isinstance A.n_str FP.boot_str FP.boot_isinstance) (de_and (de_chain ok_le ok_le de_int (de_callB ok_len A.n_len FP.boot_len (da_cons (de_var 0) da_nil)) (de_gint A.c_MAX_LETTERS)) (de_one (de_callB ok_all A.n_all FP.boot_all (da_cons (de_lc (own := [("sign", 1)]) (fun _ => sc_is_word.nd) (di_str (de_var 0)) (fun _ => blkOk_by (by kernel_rfl)) (dg_name (i := 1) (fun _ => sc_is_word.nd)) dts_nil (de_cmp ok_in (de_var 1) (de_gstr A.c_LETTERS))) da_nil))))))),  fun ds Q Ex hl hf => ?_⟩
  match ds, hl, hf with
  | [d], _, ⟨ho, hq⟩ =>
    change (_ : DTS) _ [Sl.d d, Sl.no]
    obtain ⟨n, hn, hk⟩ := isi_str ho
    cases d with
    | str z =>
      simp only [dSeq, dNext, dIfS, dB, dOp, dVar, dC, dCB, dCons, dNil, dSet, dTok, dRet, dRetN, dCall, rdAdd, rdSub, rdMul, rdMod, rdFdiv, rdPow, rdGt, rdLt, rdLe, rdGe, rdIx, rdInt, rdAbs, rdMax, rdMin, rdLen, dRetTok, dSetO, dListO, dLenO, dIRng1, dRetPop, List.getElem?_cons_zero, List.getElem?_cons_succ, List.set_cons_zero, List.set_cons_succ, bit_dec, bit_t, bit_f, bit_not, blc_bl, Option.some.injEq, exists_eq_left', dAndV, dOrV, dNotV, dChain, dIsi, dLc, dIStr, dIList, dITup, dYes, Tg.put, wipeD, rdIn, rdNotIn, rdEq, rdNe, rdAll, dLst, dTup, dAnd, dOr, dNot, dFor, forD, dAsg, dIf, dJoin, rdList, dNewD, rdStr, List.map_cons, List.map_nil, tyName]
      refine ⟨true, kit_ss, Nat.le_trans ho.1 (by decide), fun h1 => ⟨fun h2 => ⟨signs_ok ho, lc_letters z ?_⟩, fun h2 => ?_⟩, fun h1 => ?_⟩
      · refine ⟨_, blsD_fn _ _, ?_⟩
        have e : isWordD (.str z) = (z.cps.toList.map fun c => decide (c ∈ letters)).all id := by
          show (decide (1 ≤ z.length) && decide (z.length ≤ 8) && z.cps.toList.all fun c => decide (c ∈ letters)) = _
          rw [decide_eq_true (show 1 ≤ z.length by omega), decide_eq_true (show z.length ≤ 8 by omega), List.all_map]
          rfl
        rw [← e]
        exact hq
      · have e : isWordD (.str z) = false := by
          show (decide (1 ≤ z.length) && decide (z.length ≤ 8) && z.cps.toList.all fun c => decide (c ∈ letters)) = _
          rw [decide_eq_false (show ¬ z.length ≤ 8 by omega), Bool.and_false, Bool.false_and]
        rw [← e]
        exact hq
      · have e : isWordD (.str z) = false := by
          show (decide (1 ≤ z.length) && decide (z.length ≤ 8) && z.cps.toList.all fun c => decide (c ∈ letters)) = _
          rw [decide_eq_false (show ¬ 1 ≤ z.length by omega), Bool.false_and, Bool.false_and]
        rw [← e]
        exact hq
    | fz _ => exact ho.elim
    | ins _ _ => exact ho.elim
    | cl _ => exact ho.elim
    | fn _ _ => exact ho.elim
    | _ =>
      cases hn
      exact ⟨_, hk, hq⟩
theorem ok_is_integer {P : Program} {w : World} {mg : Gm} {base : Heap} {Z : Ads} (A : All mg Z) : DefOk P w mg base 1 "is_integer" 1 f_is_int := by
  refine mkDef (N := ["value"]) (ps := ["value"]) A.d_is_integer sc_is_integer (fun _ _ _ _ _ _ us hl => match us, hl with | [_], _ => rfl) fun fa cdv Ar outer s H E hr => ⟨_,
    (dss_one (ds_ret (de_and (de_isi (de_var 0) A.n_isinstance A.n_int FP.boot_int FP.boot_isinstance) (de_and (de_not (de_isi (de_var 0) A.n_isinstance A.n_bool FP.boot_bool FP.boot_isinstance)) (de_one (de_chain ok_lt ok_lt (de_neg (de_gint A.c_LONGEST)) (de_var 0) (de_gint A.c_LONGEST))))))),  fun ds Q Ex hl hf => ?_⟩
  match ds, hl, hf with
  | [d], _, ⟨ho, hq⟩ =>
    change (_ : DTS) _ [Sl.d d]
    obtain ⟨n, hn, hi, hb⟩ := isi_ty ho
    cases d with
    | int i =>
      cases hn
      refine ⟨_, hi, _, hb, ?_⟩
      simp only [dSeq, dNext, dIfS, dB, dOp, dVar, dC, dCB, dCons, dNil, dSet, dTok, dRet, dRetN, dCall, rdAdd, rdSub, rdMul, rdMod, rdFdiv, rdPow, rdGt, rdLt, rdLe, rdGe, rdIx, rdInt, rdAbs, rdMax, rdMin, rdLen, dRetTok, dSetO, dListO, dLenO, dIRng1, dRetPop, List.getElem?_cons_zero, List.getElem?_cons_succ, List.set_cons_zero, List.set_cons_succ, bit_dec, bit_t, bit_f, bit_not, blc_bl, Option.some.injEq, exists_eq_left', dAndV, dOrV, dNotV, dChain, dIsi, dLc, dIStr, dIList, dITup, dYes, Tg.put, wipeD, rdIn, rdNotIn, rdEq, rdNe, rdAll, dLst, dTup, dAnd, dOr, dNot, dFor, forD, dAsg, dIf, dJoin, rdList, dNewD, rdStr, List.map_cons, List.map_nil, dNeg, isBlT, isIntT, Bool.not_false]
      have e : isIntD (.int i) = (decide (-(10 ^ 60) < i) && decide (i < 10 ^ 60)) := rfl
      rw [e] at hq
      refine ⟨fun h1 => ?_, fun h1 => ?_⟩
      · rw [decide_eq_true (show -(10 ^ 60) < i from h1), Bool.true_and] at hq
        exact hq
      · rw [decide_eq_false (show ¬ -(10 ^ 60) < i from h1), Bool.false_and] at hq
        exact hq
    | bl b =>
      cases hn
      exact ⟨_, hi, _, hb, hq⟩
    | fz _ => exact ho.elim
    | ins _ _ => exact ho.elim
    | cl _ => exact ho.elim
    | fn _ _ => exact ho.elim
    | _ =>
      cases hn
      exact ⟨_, hi, hq⟩
theorem ok_is_within {P : Program} {w : World} {mg : Gm} {base : Heap} {Z : Ads} (A : All mg Z) (G_is_integer : DefOk P w mg base 1 "is_integer" 1 f_is_int) : DefOk P w mg base 2 "is_within" 3 f_within := by
  refine mkDef (N := ["value", "least", "most"]) (ps := ["value", "least", "most"]) A.d_is_within sc_is_within (fun _ _ _ _ _ _ us hl => match us, hl with | [_, _, _], _ => rfl) fun fa cdv Ar outer s H E hr => ⟨_,
    (dss_one (ds_ret (de_and (de_call G_is_integer (fun _ => hr.mono (by omega)) (fun _ => pas (takes_of rfl rfl rfl rfl)) (da_cons (de_var 0) da_nil)) (de_one (de_chain ok_le ok_le (de_var 1) (de_var 0) (de_var 2)))))),  fun ds Q Ex hl hf => ?_⟩
  match ds, hl, hf with
  | [d, .int a, .int b], _, ⟨ho, hq⟩ =>
    change (_ : DTS) _ [Sl.d d, Sl.d (.int a), Sl.d (.int b)]
    refine ⟨rfl, ho, ?_⟩
    cases d with
    | int i =>
      have e : inRow (.int i) a b = (isIntD (.int i) && (decide (a ≤ i) && decide (i ≤ b))) := rfl
      rw [e] at hq
      cases hi : isIntD (.int i) with
      | false => rw [hi] at hq; exact hq
      | true =>
        rw [hi, Bool.true_and] at hq
        show bit (decide (a ≤ i)) (Q (.bl (decide (i ≤ b)))) (Q (.bl false))
        cases ha : decide (a ≤ i) with
        | false => rw [ha] at hq; exact hq
        | true => rw [ha, Bool.true_and] at hq; exact hq
    | _ => exact hq
theorem ok_level_of {P : Program} {w : World} {mg : Gm} {base : Heap} {Z : Ads} (A : All mg Z) : DefOk P w mg base 1 "level_of" 1 f_level := by
  refine mkDef (N := ["value", "digits", "sign"]) (ps := ["value"]) A.d_level_of sc_level_of (fun _ _ _ _ _ _ us hl => match us, hl with | [_], _ => rfl) fun fa cdv Ar outer s H E hr => ⟨_,
    (dss_cons (ds_if (dt_w (dw_or (dt_not (dt_val (de_isi (de_var 0) A.n_isinstance A.n_str FP.boot_str FP.boot_isinstance))) (dw_or (dt_cmp ok_notIn (de_callB ok_len A.n_len FP.boot_len (da_cons (de_var 0) da_nil)) (de_tup (da_cons de_int (da_cons de_int da_nil)))) (dw_or1 (dt_cmp (ok_ne (fun _ => hr.r.units)) (de_ix (de_var 0) de_int) (de_gstr A.c_VARIABLE))))))
    (dss_one (ds_ret de_non))
    dss_nil)
    (dss_cons (ds_set (i := 1) (de_slice (de_var 0) (do_some de_int) do_none) (fun _ => sc_level_of.nd))
    (dss_cons (ds_if (dt_w (dw_or (dt_not (dt_val (de_callB ok_all A.n_all FP.boot_all (da_cons (de_lc (own := [("sign", 2)]) (fun _ => sc_level_of.nd) (di_str (de_var 1)) (fun _ => blkOk_by (by kernel_rfl)) (dg_name (i := 2) (fun _ => sc_level_of.nd)) dts_nil (de_cmp ok_in (de_var 2) (de_gstr A.c_DIGITS))) da_nil)))) (dw_or1 (dt_cmp (ok_ne (fun _ => hr.r.units)) (de_callTy ok_str A.n_str FP.boot_str (da_cons (de_callTy ok_int A.n_int FP.boot_int (da_cons (de_var 1) da_nil)) da_nil)) (de_var 1)))))
    (dss_one (ds_ret de_non))
    dss_nil)
    (dss_one (ds_ret (de_callTy ok_int A.n_int FP.boot_int (da_cons (de_var 1) da_nil))))))),  fun ds Q Ex hl hf => ?_⟩
  match ds, hl, hf with
  | [d], _, ⟨ho, hq⟩ =>
    change (_ : DTS) _ [Sl.d d, Sl.no, Sl.no]
    obtain ⟨n, hn, hk⟩ := isi_str ho
    cases d with
    | str z =>
      cases hn
      refine ⟨_, hk, len_ok ho, by decide, ?_⟩
      have hq' : Q (ofO (levelS z)) := hq
      refine notIn23 _ (fun h => ?_) fun h => ?_
      · rw [levelS_bad h] at hq'
        exact hq'
      · rcases str23 h with ⟨x, a, rfl⟩ | ⟨x, a, b, rfl⟩
        · refine ⟨x, len_ok ho, rfl, ne_x x (fun hx => ?_) fun hx => ?_⟩
          · have e : levelS ⟨#[x, a]⟩ = none := if_neg fun q => hx q.1
            rw [e] at hq'
            exact hq'
          · subst hx
            refine ⟨len_ok ho, ?_⟩
            simp only [dSeq, dNext, dIfS, dB, dOp, dVar, dC, dCB, dCons, dNil, dSet, dTok, dRet, dRetN, dCall, rdAdd, rdSub, rdMul, rdMod, rdFdiv, rdPow, rdGt, rdLt, rdLe, rdGe, rdIx, rdInt, rdAbs, rdMax, rdMin, rdLen, dRetTok, dSetO, dListO, dLenO, dIRng1, dRetPop, List.getElem?_cons_zero, List.getElem?_cons_succ, List.set_cons_zero, List.set_cons_succ, bit_dec, bit_t, bit_f, bit_not, blc_bl, Option.some.injEq, exists_eq_left', dAndV, dOrV, dNotV, dChain, dIsi, dLc, dIStr, dIList, dITup, dYes, Tg.put, wipeD, rdIn, rdNotIn, rdEq, rdNe, rdAll, dLst, dTup, dAnd, dOr, dNot, dFor, forD, dAsg, dIf, dJoin, rdList, dNewD, rdStr, List.map_cons, List.map_nil]
            rw [show cutS (⟨#[120, a]⟩ : Str) (some 1) none = ⟨#[a]⟩ from rfl]
            refine ⟨by show 1 ≤ sizeLine; decide, lc_in _ _ ⟨_, blsD_fn _ _, ?_⟩⟩
            have e1 : ((⟨#[a]⟩ : Str).cps.toList.map fun c => decide (c ∈ ("0123456789" : Str).cps.toList)).all id = decide (a ∈ digL) := Bool.and_true _
            rw [e1, bit_dec]
            refine ⟨fun ha => ?_, fun ha => ?_⟩
            · obtain ⟨h1, h2⟩ := dig1 a ha
              have hs := dig_small a ha
              refine ⟨_, h1, by show 1 ≤ 640; decide, log_small (by omega) (by omega), ?_⟩
              rw [h2]
              show bit (decide ((⟨#[a]⟩ : Str) = ⟨#[a]⟩)) _ _
              rw [decide_eq_true rfl]
              refine ⟨_, h1, by show 1 ≤ 640; decide, ?_⟩
              have e : levelS ⟨#[120, a]⟩ = some ((a : Int) - 48) := if_pos ⟨rfl, ha⟩
              rw [e] at hq'
              exact hq'
            · have e : levelS ⟨#[120, a]⟩ = none := if_neg fun q => ha q.2
              rw [e] at hq'
              exact hq'
        · refine ⟨x, len_ok ho, rfl, ne_x x (fun hx => ?_) fun hx => ?_⟩
          · have e : levelS ⟨#[x, a, b]⟩ = none := if_neg fun q => hx q.1
            rw [e] at hq'
            exact hq'
          · subst hx
            refine ⟨len_ok ho, ?_⟩
            simp only [dSeq, dNext, dIfS, dB, dOp, dVar, dC, dCB, dCons, dNil, dSet, dTok, dRet, dRetN, dCall, rdAdd, rdSub, rdMul, rdMod, rdFdiv, rdPow, rdGt, rdLt, rdLe, rdGe, rdIx, rdInt, rdAbs, rdMax, rdMin, rdLen, dRetTok, dSetO, dListO, dLenO, dIRng1, dRetPop, List.getElem?_cons_zero, List.getElem?_cons_succ, List.set_cons_zero, List.set_cons_succ, bit_dec, bit_t, bit_f, bit_not, blc_bl, Option.some.injEq, exists_eq_left', dAndV, dOrV, dNotV, dChain, dIsi, dLc, dIStr, dIList, dITup, dYes, Tg.put, wipeD, rdIn, rdNotIn, rdEq, rdNe, rdAll, dLst, dTup, dAnd, dOr, dNot, dFor, forD, dAsg, dIf, dJoin, rdList, dNewD, rdStr, List.map_cons, List.map_nil]
            rw [show cutS (⟨#[120, a, b]⟩ : Str) (some 1) none = ⟨#[a, b]⟩ from rfl]
            refine ⟨by show 2 ≤ sizeLine; decide, lc_in _ _ ⟨_, blsD_fn _ _, ?_⟩⟩
            have e1 : ((⟨#[a, b]⟩ : Str).cps.toList.map fun c => decide (c ∈ ("0123456789" : Str).cps.toList)).all id = decide (a ∈ digL ∧ b ∈ digL) := by
              show (decide (a ∈ digL) && (decide (b ∈ digL) && true)) = _
              rw [Bool.and_true, Bool.decide_and]
            rw [e1, bit_dec]
            refine ⟨fun hab => ?_, fun hab => ?_⟩
            · obtain ⟨h1, h2⟩ := dig2 a hab.1 b hab.2
              have hs := dig_small a hab.1
              have hs2 := dig_small b hab.2
              refine ⟨_, h1, by show 2 ≤ 640; decide, log_small (by omega) (by omega), ?_⟩
              show bit (decide (_ = (⟨#[a, b]⟩ : Str))) _ _
              rw [h2, bit_dec]
              refine ⟨fun h48 => ?_, fun h48 => ?_⟩
              · refine ⟨_, h1, by show 2 ≤ 640; decide, ?_⟩
                have e : levelS ⟨#[120, a, b]⟩ = some (((a : Int) - 48) * 10 + ((b : Int) - 48)) := if_pos ⟨rfl, hab.1, hab.2, h48⟩
                rw [e] at hq'
                exact hq'
              · have e : levelS ⟨#[120, a, b]⟩ = none := if_neg fun q => h48 q.2.2.2
                rw [e] at hq'
                exact hq'
            · have e : levelS ⟨#[120, a, b]⟩ = none := if_neg fun q => hab ⟨q.2.1, q.2.2.1⟩
              rw [e] at hq'
              exact hq'
    | fz _ => exact ho.elim
    | ins _ _ => exact ho.elim
    | cl _ => exact ho.elim
    | fn _ _ => exact ho.elim
    | _ =>
      cases hn
      exact ⟨_, hk, hq⟩
end K16
namespace K16
open PySem L2 FP
variable [FP.Tabl]
open KP
theorem ok_is_node {P : Program} {w : World} {mg : Gm} {base : Heap} {Z : Ads} (A : All mg Z) (G_is_within : DefOk P w mg base 2 "is_within" 3 f_within) (G_is_word : DefOk P w mg base 1 "is_word" 1 f_is_word) (G_level_of : DefOk P w mg base 1 "level_of" 1 f_level) : DefOk P w mg base 3 "is_node" 2 f_isnodeG := by
  refine mkDef (N := ["value", "has_gaps"]) (ps := ["value", "has_gaps"]) A.d_is_node sc_is_node (fun _ _ _ _ _ _ us hl => match us, hl with | [_, _], _ => rfl) fun fa cdv Ar outer s H E hr => ⟨_,
    (dss_cons (ds_if (dt_w (dw_or (dt_not (dt_val (de_isi (de_var 0) A.n_isinstance A.n_tuple FP.boot_tuple FP.boot_isinstance))) (dw_or (dt_cmp (ok_ne (fun _ => hr.r.units)) (de_callB ok_len A.n_len FP.boot_len (da_cons (de_var 0) da_nil)) de_int) (dw_or1 (dt_not (dt_val (de_isi (de_ix (de_var 0) de_int) A.n_isinstance A.n_str FP.boot_str FP.boot_isinstance)))))))
    (dss_one (ds_ret de_bl))
    dss_nil)
    (dss_cons (ds_if (dt_w (dw_or (dt_not (dt_val (de_call G_is_within (fun _ => hr.mono (by omega)) (fun _ => pas (takes_of rfl rfl rfl rfl)) (da_cons (de_ix (de_var 0) de_int) (da_cons de_int (da_cons (de_gint A.c_MAX_COUNT) da_nil)))))) (dw_or1 (dt_not (dt_val (de_call G_is_within (fun _ => hr.mono (by omega)) (fun _ => pas (takes_of rfl rfl rfl rfl)) (da_cons (de_ix (de_var 0) de_int) (da_cons de_int (da_cons (de_gint A.c_MAX_COUNT) da_nil)))))))))
    (dss_one (ds_ret de_bl))
    dss_nil)
    (dss_one (ds_ret (de_or (de_call G_is_word (fun _ => hr.mono (by omega)) (fun _ => pas (takes_of rfl rfl rfl rfl)) (da_cons (de_ix (de_var 0) de_int) da_nil)) (de_or (de_cmp ok_isNot (de_call G_level_of (fun _ => hr.mono (by omega)) (fun _ => pas (takes_of rfl rfl rfl rfl)) (da_cons (de_ix (de_var 0) de_int) da_nil)) de_non) (de_one (de_and (de_var 1) (de_and (de_cmp (ok_eq (fun _ => hr.r.units)) (de_ix (de_var 0) de_int) (de_gstr A.c_GAP)) (de_one (de_cmp (ok_eq (fun _ => hr.r.units)) (de_ix (de_var 0) de_int) de_int))))))))))),  fun ds Q Ex hl hf => ?_⟩
  match ds, hl, hf with
  | [d, .bl g], _, ⟨ho, hq⟩ =>
    have e0 : startD 2 [d, .bl g] = [Sl.d (d), Sl.d (.bl g)] := rfl
    have hnN : (["value", "has_gaps"] : List Str).length = 2 := rfl
    rw [hnN, e0]
    clear e0 hnN
    have hv : okV d := by
      cases d with
      | tup xs => exact trivial
      | _ => exact ho
    have evT := ev_tup_isi (ρ := [Sl.d d, Sl.d (.bl g)]) (i := 0) hv rfl
    cases ht : isTupD d with
    | false =>
      have e : isNodeG g d = false := by
        cases d with
        | tup xs => cases ht
        | _ => rfl
      rw [e] at hq
      exact seq_ifT (or_t (not_v (b := false) (b_v (evT.eq (by rw [ht]))))) (ret_v _ (fun Q E q => q) hq)
    | true =>
    obtain ⟨xs, rfl⟩ : ∃ xs, d = .tup xs := by
      cases d with
      | tup xs => exact ⟨xs, rfl⟩
      | _ => cases ht
    have f1 : EvT (dNot (dB (dIsi "tuple" (dVar 0)))) [Sl.d (.tup xs), Sl.d (.bl g)] false := not_v (b := true) (b_v (evT.eq (by rw [ht])))
    have el : Ev (dOp rdNe (dCB rdLen (dCons (dVar 0) dNil)) (dC (.int 3))) [Sl.d (.tup xs), Sl.d (.bl g)] (.bl (!decide ((xs.length : Int) = 3))) := ev_op (x := .int xs.length) (y := .int 3) (fun Q E q => q) (fun Q E q => q) fun Q q => q
    by_cases h3 : xs.length = 3
    case neg =>
      have e := isNodeG_len (g := g) h3
      rw [e] at hq
      exact seq_ifT (or_f f1 (or_t (b_v (el.eq (by rw [decide_eq_false (by omega)]; rfl))))) (ret_v _ (fun Q E q => q) hq)
    obtain ⟨x, y, z, rfl⟩ : ∃ x y z, xs = [x, y, z] := by
      match xs, h3 with
      | [x, y, z], _ => exact ⟨x, y, z, rfl⟩
    obtain ⟨hx, hy, hz⟩ := ho
    obtain ⟨m, hm, hmk⟩ := isi_str hy
    have es : EvT (dB (dIsi "str" (dOp rdIx (dVar 0) (dC (.int 1))))) [Sl.d (.tup [x, y, z]), Sl.d (.bl g)] (isStr y) := b_v fun Q E q => ⟨y, rfl, by
      show (match tyName y with | some n => ∃ b, kitB n "str" = some b ∧ Q (.bl b) | none => False)
      rw [hm]
      exact ⟨_, hmk, q⟩⟩
    cases hs : isStr y with
    | false =>
      have e : isNodeG g (.tup [x, y, z]) = false := by
        cases y with
        | str _ => cases hs
        | _ => rfl
      rw [e] at hq
      exact seq_ifT (or_f f1 (or_f (b_v (el.eq rfl)) (not_v (b := false) (es.eq hs)))) (ret_v _ (fun Q E q => q) hq)
    | true =>
    obtain ⟨h, rfl⟩ : ∃ h, y = .str h := by
      cases y with
      | str h => exact ⟨h, rfl⟩
      | _ => cases hs
    refine seq_ifF (or_f f1 (or_f (b_v (el.eq rfl)) (not_v (b := true) (es.eq hs)))) ?_
    have e : isNodeG g (.tup [x, .str h, z]) = (inRow x 0 15 && (inRow z 0 15 && (headG h || (g && (decide (h = ("?" : Str)) && isZD z))))) := rfl
    rw [e] at hq
    have w0 : Ev (dCall f_within 3 (dCons (dOp rdIx (dVar 0) (dC (.int 0))) (dCons (dC (.int 0)) (dCons (dC (.int 15)) dNil)))) [Sl.d (.tup [x, .str h, z]), Sl.d (.bl g)] (.bl (inRow x 0 15)) := ev_call (a1 (d := x) (fun Q E q => ⟨_, rfl, q⟩) (a1 (fun Q E q => q) (a1 (fun Q E q => q) a0))) rfl fun Q E q => ⟨hx, q⟩
    have w2 : Ev (dCall f_within 3 (dCons (dOp rdIx (dVar 0) (dC (.int 2))) (dCons (dC (.int 0)) (dCons (dC (.int 15)) dNil)))) [Sl.d (.tup [x, .str h, z]), Sl.d (.bl g)] (.bl (inRow z 0 15)) := ev_call (a1 (d := z) (fun Q E q => ⟨_, rfl, q⟩) (a1 (fun Q E q => q) (a1 (fun Q E q => q) a0))) rfl fun Q E q => ⟨hz, q⟩
    cases h0 : inRow x 0 15 with
    | false =>
      rw [h0] at hq w0
      exact seq_ifT (or_t (not_v (b := false) (b_v w0))) (ret_v _ (fun Q E q => q) hq)
    | true =>
    cases h2 : inRow z 0 15 with
    | false =>
      rw [h0, h2] at hq
      rw [h0] at w0
      rw [h2] at w2
      exact seq_ifT (or_f (not_v (b := true) (b_v w0)) (not_v (b := false) (b_v w2))) (ret_v _ (fun Q E q => q) hq)
    | true =>
    rw [h0, h2] at hq
    rw [h0] at w0
    rw [h2] at w2
    refine seq_ifF (or_f (not_v (b := true) (b_v w0)) (not_v (b := true) (b_v w2))) ?_
    obtain ⟨n, rfl, hn15⟩ := inRow_int h2
    refine ret_v (.bl (isWordS h || ((levelS h).isSome || (g && (decide (h = ("?" : Str)) && decide (((n : Nat) : Int) = 0)))))) (ev_orV (ev_call (a1 (d := .str h) (fun Q E q => ⟨_, rfl, q⟩) a0) rfl fun Q E q => ⟨hy, q⟩) fun _ => ev_orV (ev_op (x := ofO (levelS h)) (y := .non) (ev_call (a1 (d := .str h) (fun Q E q => ⟨_, rfl, q⟩) a0) rfl fun Q E q => ⟨hy, q⟩) (fun Q E q => q) fun Q q => ?_) fun _ => ev_andV (fun Q E q => q) fun _ => ev_andV (ev_op (x := .str h) (y := .str "?") (fun Q E q => ⟨_, rfl, q⟩) (fun Q E q => q) fun Q q => eq_str q) fun _ => ev_op (x := .int (n : Nat)) (y := .int 0) (fun Q E q => ⟨_, rfl, q⟩) (fun Q E q => q) fun Q q => eq_int q) ?_
    · cases hl2 : levelS h with
      | none =>
        rw [hl2] at q
        exact q
      | some l =>
        rw [hl2] at q
        exact q
    · have e2 : (isWordS h || ((levelS h).isSome || (g && (decide (h = ("?" : Str)) && decide (((n : Nat) : Int) = 0))))) = (headG h || (g && (decide (h = ("?" : Str)) && isZD (.int (n : Nat))))) := by
        unfold headG
        rw [Bool.or_assoc]
        rfl
      rw [e2]
      exact hq
theorem ok_kids_of {P : Program} {w : World} {mg : Gm} {base : Heap} {Z : Ads} (A : All mg Z) : DefOk P w mg base 1 "kids_of" 1 f_kids := by
  refine mkDef (N := ["nodes", "found", "waiting", "at", "cut", "node"]) (ps := ["nodes"]) A.d_kids_of sc_kids_of (fun _ _ _ _ _ _ us hl => match us, hl with | [_], _ => rfl) fun fa cdv Ar outer s H E hr => ⟨_,
    (dss_cons (ds_setLcN (i := 1) (own := [("node", 5)]) (fun _ => sc_kids_of.nd) (di_tup (de_var 0)) (fun _ => blkOk_by (by kernel_rfl)) (dg_name (i := 5) (fun _ => sc_kids_of.nd)) dts_nil (de_tup da_nil) (fun _ => sw_true rfl rfl rfl (by decide +kernel)))
    (dss_cons (ds_set (i := 2) (de_lst da_nil) (fun _ => sc_kids_of.nd))
    (dss_cons (ds_for (di_range3 A.n_range (da_cons (de_op ok_sub (de_callB ok_len A.n_len FP.boot_len (da_cons (de_var 0) da_nil)) de_int) (da_cons (de_neg de_int) (da_cons (de_neg de_int) da_nil)))) (dg_name (i := 3) (fun _ => sc_kids_of.nd))
    (dss_cons (ds_set (i := 4) (de_op ok_sub (de_callB ok_len A.n_len FP.boot_len (da_cons (de_var 2) da_nil)) (de_ix (de_ix (de_var 0) (de_var 3)) de_int)) (fun _ => sc_kids_of.nd))
    (dss_cons (ds_if (dt_cmp ok_lt (de_var 4) de_int)
    (dss_one (ds_ret de_non))
    dss_nil)
    (dss_cons (ds_ownSet 1 (de_var 3) (de_callTy ok_tuple A.n_tuple FP.boot_tuple (da_cons (de_revL (de_slice (de_var 2) (do_some (de_var 4)) do_none)) da_nil)) (fun _ _ _ h h2 => ps_asg h2 (pg_sub (pv 1) h set_list)))
    (dss_one (ds_set (i := 2) (de_lst (da_star (de_slice (de_var 2) do_none (do_some (de_var 4))) (da_cons (de_var 3) da_nil))) (fun _ => sc_kids_of.nd)))))) (fun _ => passes_of rfl))
    (dss_one (ds_frz 1 (ds_ret (de_if (dt_cmp (ok_eq (fun _ => hr.r.units)) (de_var 2) (de_lst (da_cons de_int da_nil))) (de_var 1) de_non))))))),  fun ds Q Ex hl hf => ?_⟩
  match ds, hl, hf with
  | [.tup _], _, ⟨ns, rfl, hn, hq⟩ =>
    have e0 : startD 6 [.tup (ns.map nodD)] = [Sl.d (.tup (ns.map nodD)), Sl.no, Sl.no, Sl.no, Sl.no, Sl.no] := rfl
    have hnN : (["nodes", "found", "waiting", "at", "cut", "node"] : List Str).length = 6 := rfl
    rw [hnN, e0]
    clear e0 hnN
    have hnl : (ns.map nodD).length = ns.length := List.length_map _
    refine seq_oC (xs := List.replicate ns.length (D.tup [])) (fun Q E q => ?_) ?_
    · refine ⟨size_small (by omega), ?_⟩
      refine lcD_map (fun _ => .tup []) _ _ (fun d hd k hk => ⟨_, rfl, line rfl, hk⟩) ?_
      rw [List.map_const']
      rw [hnl]
      exact q
    refine seq_v (.lst (natsD [])) (ev_lst a0 (line rfl)) ?_
    refine seq_for (rangeC (((ns.map nodD).length : Int) - 1) (-1) ((((ns.map nodD).length : Int) - 1) - (-1)).toNat) (fun Q E q => ⟨rfl, ⟨by omega, by omega, by decide, by decide⟩, q⟩) ?_
    rw [hnl, show (((ns.length : Int) - 1) - (-1)).toNat = ns.length by omega, range_down]
    refine for_st (fun r ρ => ∃ (k : Nat) (w : List Nat) (K : List (List Nat)) (a b : Sl), r = downD k ∧ k ≤ ns.length ∧ stP k (ns.drop k) = some (w, K) ∧ ρ = [Sl.d (.tup (ns.map nodD)), Sl.own (List.replicate k (D.tup []) ++ K.map kidD), Sl.d (.lst (natsD w.reverse)), a, b, Sl.no]) ?_ ?_ _ _ ⟨ns.length, [], [], _, _, rfl, Nat.le_refl _, by rw [List.drop_length]; rfl, by rw [List.map_nil, List.append_nil]; rfl⟩
    · rintro ρ ⟨k, w, K, a, b, hk, _, hst, rfl⟩
      cases k with
      | succ k => cases hk
      | zero =>
      rw [List.drop_zero] at hst
      dsimp only
      rw [List.replicate_zero, List.nil_append]
      refine frz_ret rfl (ret_if (b := decide (w.reverse = [0])) (b_v (ev_op (x := .lst (natsD w.reverse)) (y := .lst (natsD [0])) (fun Q E q => q) (ev_lst (a1 (fun Q E q => q) a0) (line rfl)) fun Q q => eqInts q)) ?_)
      have ew : decide (w.reverse = [0]) = decide (w = [0]) := decide_eq_decide.mpr ⟨fun h => by rw [← List.reverse_reverse w, h]; rfl, fun h => by rw [h]; rfl⟩
      rw [ew]
      have ek : kidsP ns = if w = [0] then some K else none := by
        unfold kidsP
        rw [hst]
      rw [ek] at hq
      refine bitS (fun hw => ?_) (fun hw => ?_)
      · rw [if_pos (of_decide_eq_true hw)] at hq
        exact ret_v (.lst (K.map kidD)) (fun Q E q => q) hq
      · rw [if_neg (of_decide_eq_false hw)] at hq
        exact ret_v .non (fun Q E q => q) hq
    · rintro d r ρ ⟨k, w, K, a, b, hk, hkn, hst, rfl⟩
      cases k with
      | zero => cases hk
      | succ k =>
      rw [downD] at hk
      cases hk
      have hlt : k < ns.length := by omega
      have hget : (ns.map nodD)[k]? = some (nodD ns[k]) := by rw [List.getElem?_map, List.getElem?_eq_getElem hlt]; rfl
      have hdrop : ns.drop k = ns[k] :: ns.drop (k + 1) := List.drop_eq_getElem_cons hlt
      have hwl : w.length ≤ 900 := by
        have h1 := stP_inc hst
        have h2 : w.length ≤ (ns.drop (k + 1)).length := inc_len h1.1 h1.2.1
        rw [List.length_drop] at h2
        omega
      refine ⟨_, rfl, fun K' hK' => ?_⟩
      refine seq_v (.int ((w.length : Int) - (ns[k].2.2 : Nat))) (ev_op (x := .int w.length) (y := .int (ns[k].2.2 : Nat)) (fun Q E q => by
        show Q (.int ((natsD w.reverse).length : Nat))
        rw [intsD_len, List.length_reverse]
        exact q) (ev_op (x := nodD ns[k]) (y := .int 2) (ev_op (x := .tup (ns.map nodD)) (y := .int k) (fun Q E q => q) (fun Q E q => q) fun Q q => ⟨_, at_of rfl hget, q⟩) (fun Q E q => q) fun Q q => ⟨_, rfl, q⟩) fun Q q => q) ?_
      by_cases hc : ns[k].2.2 ≤ w.length
      case neg =>
        refine seq_ifT (b_v (ev_op (x := .int ((w.length : Int) - (ns[k].2.2 : Nat))) (y := .int 0) (fun Q E q => q) (fun Q E q => q) fun Q q => by
          show Q (.bl (decide (((w.length : Int) - (ns[k].2.2 : Nat)) < 0)))
          rw [decide_eq_true (by omega)]
          exact q)) (ret_v .non (fun Q E q => q) ?_)
        have hno : stP k (ns.drop k) = none := by
          rw [hdrop, stP, hst]
          exact if_neg hc
        rw [kidsP_none hno] at hq
        exact hq
      refine seq_ifF (b_v (ev_op (x := .int ((w.length : Int) - (ns[k].2.2 : Nat))) (y := .int 0) (fun Q E q => q) (fun Q E q => q) fun Q q => by
        show Q (.bl (decide (((w.length : Int) - (ns[k].2.2 : Nat)) < 0)))
        rw [decide_eq_false (by omega)]
        exact q)) ?_
      have hrl : (natsD w.reverse).length = w.length := by rw [intsD_len, List.length_reverse]
      have hcut : (w.length : Int) - (ns[k].2.2 : Nat) = ((w.length - ns[k].2.2 : Nat) : Int) := by omega
      refine seq_ownSet (n := k) rfl (d := kidD (w.take ns[k].2.2)) (ev_cb (a1 (d := .lst (natsD (w.take ns[k].2.2))) ?_ a0) fun Q q => q) (m := k) (fun Q E q => q) ?_ ?_
      · have e := sl_from (ρ := [Sl.d (.tup (ns.map nodD)), Sl.own (List.replicate (k + 1) (D.tup []) ++ K.map kidD), Sl.d (.lst (natsD w.reverse)), Sl.d (.int k), Sl.d (.int ((w.length : Int) - (ns[k].2.2 : Nat))), Sl.no]) (fa := dVar 2) (fb := dVar 4) (xs := natsD w.reverse) (n := w.length - ns[k].2.2) (fun Q E q => q) (fun Q E q => q) hcut (by omega)
        refine fun Q E q => e _ _ ?_
        show Q (.lst ((natsD w.reverse).drop (w.length - ns[k].2.2)).reverse)
        rw [ints_rev_drop]
        exact q
      · rw [List.length_append, List.length_replicate]
        exact ixN_nat (by omega)
      rw [set_mid]
      refine end_v (.lst (natsD (k :: w.drop ns[k].2.2).reverse)) (ev_lst (ds := natsD (w.reverse.take (w.length - ns[k].2.2)) ++ [.int k]) (fun Q E q => ?_) ?_ |>.eq ?_) (hK' _ ⟨k, k :: w.drop ns[k].2.2, w.take ns[k].2.2 :: K, _, _, rfl, by omega, ?_, rfl⟩)
      · have e := sl_to (ρ := [Sl.d (.tup (ns.map nodD)), Sl.own (List.replicate k (D.tup []) ++ kidD (w.take ns[k].2.2) :: K.map kidD), Sl.d (.lst (natsD w.reverse)), Sl.d (.int k), Sl.d (.int ((w.length : Int) - (ns[k].2.2 : Nat))), Sl.no]) (fa := dVar 2) (fb := dVar 4) (xs := natsD w.reverse) (n := w.length - ns[k].2.2) (fun Q E q => q) (fun Q E q => by rw [← hcut] at q; exact q) (by omega)
        refine e _ _ ?_
        show Q ((natsD w.reverse).take (w.length - ns[k].2.2) ++ [.int k])
        rw [ints_take]
        exact q
      · rw [List.length_append, intsD_len, List.length_take, List.length_reverse]
        exact size_small (by show _ + 1 ≤ 1000; omega)
      · rw [ints_snoc, List.reverse_cons, rev_drop]
      · rw [hdrop, stP, hst]
        exact if_pos hc
end K16
namespace K16
open PySem L2 FP
variable [FP.Tabl]
open KP
theorem ok_ends_of {P : Program} {w : World} {mg : Gm} {base : Heap} {Z : Ads} (A : All mg Z) : DefOk P w mg base 1 "ends_of" 1 f_ends := by
  refine mkDef (N := ["kids", "found", "at"]) (ps := ["kids"]) A.d_ends_of sc_ends_of (fun _ _ _ _ _ _ us hl => match us, hl with | [_], _ => rfl) fun fa cdv Ar outer s H E hr => ⟨_,
    (dss_cons (ds_setLcN (i := 1) (own := [("at", 2)]) (fun _ => sc_ends_of.nd) (di_range1 A.n_range (da_cons (de_callB ok_len A.n_len FP.boot_len (da_cons (de_var 0) da_nil)) da_nil)) (fun _ => blkOk_by (by kernel_rfl)) (dg_name (i := 2) (fun _ => sc_ends_of.nd)) dts_nil (de_op ok_add (de_var 2) de_int) (fun _ => sw_true rfl rfl rfl (by decide +kernel)))
    (dss_cons (ds_for (di_range3 A.n_range (da_cons (de_op ok_sub (de_callB ok_len A.n_len FP.boot_len (da_cons (de_var 0) da_nil)) de_int) (da_cons (de_neg de_int) (da_cons (de_neg de_int) da_nil)))) (dg_name (i := 2) (fun _ => sc_ends_of.nd))
    (dss_one (ds_if (dt_cmp (ok_neT0 (fun _ => hr.r.units)) (de_ix (de_var 0) (de_var 2)) (de_tup da_nil))
    (dss_one (ds_ownSet 1 (de_var 2) (de_ownIx 1 (de_ix (de_ix (de_var 0) (de_var 2)) (de_neg de_int))) (fun _ _ _ h h2 => ps_asg h2 (pg_sub (pv 1) h set_list))))
    dss_nil)) (fun _ => passes_of rfl))
    (dss_one (ds_frz 1 (ds_ret (de_var 1)))))),  fun ds Q Ex hl hf => ?_⟩
  match ds, hl, hf with
  | [.tup _], _, ⟨K, rfl, hn, hin, hq⟩ =>
    have e0 : startD 3 [.tup (K.map kidD)] = [Sl.d (.tup (K.map kidD)), Sl.no, Sl.no] := rfl
    have hnN : (["kids", "found", "at"] : List Str).length = 3 := rfl
    rw [hnN, e0]
    clear e0 hnN
    have hkl : (K.map kidD).length = K.length := List.length_map _
    refine seq_oC (xs := natsD ((List.range K.length).map (· + 1))) (fun Q E q => ⟨by omega, by omega, ?_⟩) ?_
    · have el : ((K.map kidD).length : Int).toNat = K.length := by rw [hkl]; omega
      rw [show (rangeD 0 ((K.map kidD).length : Int).toNat) = (List.range K.length).map (fun i : Nat => D.int ((0 : Int) + i)) by rw [el]; rfl]
      refine ⟨by rw [List.length_map, List.length_range]; exact size_small (by omega), lc_of (fun i : Nat => D.int ((0 : Int) + i)) (fun i => .int ((i + 1 : Nat) : Int)) (List.range K.length) _ (fun i _ k hk => ⟨_, rfl, ?_⟩) ?_⟩
      · show k (some (.int ((0 : Int) + (i : Nat) + 1)))
        rw [show (0 : Int) + (i : Nat) + 1 = ((i + 1 : Nat) : Int) by omega]
        exact hk
      · show Q ((List.range K.length).map fun i => D.int ((i + 1 : Nat) : Int))
        rw [show ((List.range K.length).map fun i => D.int ((i + 1 : Nat) : Int)) = natsD ((List.range K.length).map (· + 1)) by unfold natsD; rw [List.map_map]; rfl]
        exact q
    refine seq_for (rangeC (((K.map kidD).length : Int) - 1) (-1) ((((K.map kidD).length : Int) - 1) - (-1)).toNat) (fun Q E q => ⟨rfl, ⟨by omega, by omega, by decide, by decide⟩, q⟩) ?_
    rw [hkl, show (((K.length : Int) - 1) - (-1)).toNat = K.length by omega, range_down]
    refine for_st (fun r ρ => ∃ (k : Nat) (b : Sl), r = downD k ∧ k ≤ K.length ∧ ρ = [Sl.d (.tup (K.map kidD)), Sl.own (natsD ((List.range k).map (· + 1) ++ endsP k (K.drop k))), b]) ?_ ?_ _ _ ⟨K.length, _, rfl, Nat.le_refl _, by rw [List.drop_length, endsP, List.append_nil]; rfl⟩
    · rintro ρ ⟨k, b, hk, _, rfl⟩
      cases k with
      | succ k => cases hk
      | zero =>
      rw [List.drop_zero, List.range_zero, List.map_nil, List.nil_append]
      dsimp only
      exact frz_ret rfl (ret_v (.lst (natsD (endsP 0 K))) (fun Q E q => q) hq)
    · rintro d r ρ ⟨k, b, hk, hkn, rfl⟩
      cases k with
      | zero => cases hk
      | succ k =>
      rw [downD] at hk
      cases hk
      have hlt : k < K.length := by omega
      have hget : (K.map kidD)[k]? = some (kidD K[k]) := by rw [List.getElem?_map, List.getElem?_eq_getElem hlt]; rfl
      have hdrop : K.drop k = K[k] :: K.drop (k + 1) := List.drop_eq_getElem_cons hlt
      have hkk : ∀ x ∈ K[k], k < x ∧ x < K.length := hin k K[k] (List.getElem?_eq_getElem hlt)
      have hol : ((List.range (k + 1)).map (· + 1) ++ endsP (k + 1) (K.drop (k + 1))).length = K.length := by
        rw [List.length_append, List.length_map, List.length_range, ends_len, List.length_drop]
        omega
      have evK : ∀ (o b : Sl), Ev (dOp rdIx (dVar 0) (dVar 2)) [Sl.d (.tup (K.map kidD)), o, Sl.d (.int k)] (kidD K[k]) := fun o b => ev_op (x := .tup (K.map kidD)) (y := .int k) (fun Q E q => q) (fun Q E q => q) fun Q q => ⟨_, at_of rfl hget, q⟩
      refine ⟨_, rfl, fun K' hK' => ?_⟩
      have et : EvT (dB (dOp (rdT0 true) (dOp rdIx (dVar 0) (dVar 2)) (dTup dNil))) [Sl.d (.tup (K.map kidD)), Sl.own (natsD ((List.range (k + 1)).map (· + 1) ++ endsP (k + 1) (K.drop (k + 1)))), Sl.d (.int k)] (!K[k].isEmpty) := b_v (ev_op (x := kidD K[k]) (y := .tup []) (evK _ b) (ev_tup a0 (line rfl)) fun Q q => by
        have e : (natsD K[k]).isEmpty = K[k].isEmpty := by cases K[k] <;> rfl
        show Q (.bl (!(natsD K[k]).isEmpty))
        rw [e]
        exact q)
      cases hK0 : K[k] with
      | nil =>
        rw [hK0] at et
        refine end_ifF et (hK' _ ⟨k, .d (.int k), rfl, by omega, ?_⟩)
        rw [hdrop, endsP, hK0]
        show _ = [Sl.d (.tup (K.map kidD)), Sl.own (natsD ((List.range k).map (· + 1) ++ (k + 1) :: endsP (k + 1) (K.drop (k + 1)))), Sl.d (.int k)]
        rw [List.range_succ, List.map_append, List.append_assoc]
        rfl
      | cons x xs =>
        rw [hK0] at et
        obtain ⟨p, hp⟩ : ∃ p, (x :: xs).getLast? = some p := ⟨_, List.getLast?_eq_some_getLast (by simp)⟩
        have hpm : p ∈ K[k] := by rw [hK0]; exact List.mem_of_getLast? hp
        have hpb := hkk p hpm
        refine end_ifT et ?_
        have hval : ((List.range (k + 1)).map (· + 1) ++ endsP (k + 1) (K.drop (k + 1)))[p]? = some ((endsP (k + 1) (K.drop (k + 1))).getD (p - (k + 1)) 0) := by
          rw [List.getElem?_append_right (by rw [List.length_map, List.length_range]; omega), List.length_map, List.length_range, List.getD_eq_getElem?_getD]
          have hb : p - (k + 1) < (endsP (k + 1) (K.drop (k + 1))).length := by
            rw [ends_len, List.length_drop]
            omega
          rw [List.getElem?_eq_getElem hb]
          rfl
        refine ownSet (m := k) (n := k) (d := .int (((endsP (k + 1) (K.drop (k + 1))).getD (p - (k + 1)) 0 : Nat) : Int)) rfl (ev_ownIx (m := p) rfl (ev_op (x := kidD K[k]) (y := .int (-1)) (evK _ b) (fun Q E q => q) fun Q q => ?_) ?_) (fun Q E q => q) ?_ ?_
        rotate_right
        · refine hK' _ ⟨k, .d (.int k), rfl, by omega, ?_⟩
          rw [hdrop, endsP, hK0, hp]
          show [Sl.d (.tup (K.map kidD)), Sl.own _, Sl.d (.int k)] = _
          congr 2
          congr 1
          rw [show D.int (((endsP (k + 1) (K.drop (k + 1))).getD (p - (k + 1)) 0 : Nat) : Int) = (fun j : Nat => D.int (j : Nat)) ((endsP (k + 1) (K.drop (k + 1))).getD (p - (k + 1)) 0) from rfl]
          unfold natsD
          rw [← List.map_set, List.range_succ, List.map_append, List.append_assoc]
          rw [List.set_append_right _ _ (by rw [List.length_map, List.length_range]; exact Nat.le_refl k), List.length_map, List.length_range, Nat.sub_self]
          rfl
        · refine ⟨.int p, ?_, q⟩
          rw [hK0]
          exact at_last (by unfold natsD; rw [List.getLast?_map, hp]; rfl)
        · refine at_of rfl ?_
          unfold natsD
          rw [List.getElem?_map, hval]
          rfl
        · rw [intsD_len, hol]
          exact ixN_nat hlt
theorem ok_bound_of {P : Program} {w : World} {mg : Gm} {base : Heap} {Z : Ads} (A : All mg Z) : DefOk P w mg base 1 "bound_of" 2 f_bound := by
  refine mkDef (N := ["nodes", "kids", "found", "at", "places", "place", "node"]) (ps := ["nodes", "kids"]) A.d_bound_of sc_bound_of (fun _ _ _ _ _ _ us hl => match us, hl with | [_, _], _ => rfl) fun fa cdv Ar outer s H E hr => ⟨_,
    (dss_cons (ds_setLcN (i := 2) (own := [("node", 6)]) (fun _ => sc_bound_of.nd) (di_tup (de_var 0)) (fun _ => blkOk_by (by kernel_rfl)) (dg_name (i := 6) (fun _ => sc_bound_of.nd)) dts_nil de_int (fun _ => sw_true rfl rfl rfl (by decide +kernel)))
    (dss_cons (ds_for (di_enum A.n_enumerate (da_cons (de_var 1) da_nil)) (dg_tup (dgs_cons (dg_name (i := 3) (fun _ => sc_bound_of.nd)) (dgs_cons (dg_name (i := 4) (fun _ => sc_bound_of.nd)) dgs_nil)))
    (dss_one (ds_for (di_tup (de_var 4)) (dg_name (i := 5) (fun _ => sc_bound_of.nd))
    (dss_one (ds_ownSet 2 (de_var 5) (de_op ok_add (de_ownIx 2 (de_var 3)) (de_ix (de_ix (de_var 0) (de_var 3)) de_int)) (fun _ _ _ h h2 => ps_asg h2 (pg_sub (pv 2) h set_list)))) (fun _ => passes_of rfl))) (fun _ => passes_of rfl))
    (dss_one (ds_frz 2 (ds_ret (de_var 2)))))),  fun ds Q Ex hl hf => ?_⟩
  match ds, hl, hf with
  | [.tup _, y], _, ⟨ns, K, rfl, hy, hk, hn, hq⟩ =>
    have e0 : startD 7 [.tup (ns.map nodD), y] = [Sl.d (.tup (ns.map nodD)), Sl.d (y), Sl.no, Sl.no, Sl.no, Sl.no, Sl.no] := rfl
    have hnN : (["nodes", "kids", "found", "at", "places", "place", "node"] : List Str).length = 7 := rfl
    rw [hnN, e0]
    clear e0 hnN
    have hnl : (ns.map nodD).length = ns.length := List.length_map _
    refine seq_oC (xs := natsD (List.replicate ns.length 0)) (fun Q E q => ?_) ?_
    · refine ⟨size_small (by omega), ?_⟩
      refine lcD_map (fun _ => .int 0) _ _ (fun d hd k hk => ⟨_, rfl, hk⟩) ?_
      rw [List.map_const', hnl]
      unfold natsD at q
      rw [List.map_replicate] at q
      exact q
    refine seq_for (enumD 0 (K.map kidD)) (fun Q E q => ⟨K.map kidD, by rcases hy with rfl | rfl <;> rfl, q⟩) ?_
    have hst := kids_st hk
    refine for_st (fun r ρ => ∃ (i : Nat) (w e v : List Nat) (K' : List (List Nat)) (a b c : Sl), r = enumD i (K'.map kidD) ∧ i ≤ ns.length ∧ stP i (ns.drop i) = some (w, K') ∧ e.length = w.length ∧ v.length = ns.length ∧ (∀ t, t < w.length → v[w.getD t 0]? = e[t]?) ∧ v.take i ++ bndsP e (ns.drop i) = bndsP [0] ns ∧ ρ = [Sl.d (.tup (ns.map nodD)), Sl.d y, Sl.own (natsD v), a, b, c, Sl.no]) ?_ ?_ _ _ ⟨0, [0], [0], List.replicate ns.length 0, K, _, _, _, rfl, Nat.zero_le _, by rw [List.drop_zero]; exact hst, rfl, List.length_replicate, fun t ht => ?_, by rw [List.take_zero, List.drop_zero]; rfl, rfl⟩
    rotate_left
    rotate_left
    · have h1 := (stP_inc hst).2.1 0 List.mem_cons_self
      have ht0 : t = 0 := by
        have : t < 1 := ht
        omega
      subst ht0
      show (List.replicate ns.length 0)[0]? = some 0
      rw [List.getElem?_replicate, if_pos (by omega)]
    · rintro ρ ⟨i, w, e, v, K', a, b, c, hr, hi, hs, hel, hvl, hv, hb, rfl⟩
      have hK0 : K' = [] := by
        cases K' with
        | nil => rfl
        | cons x r => cases hr
      have hil : i = ns.length := by
        have := stP_len hs
        rw [hK0, List.length_drop] at this
        have h2 : ([] : List (List Nat)).length = 0 := rfl
        omega
      subst hil
      rw [List.drop_length, bndsP, List.append_nil, List.take_of_length_le (by omega)] at hb
      dsimp only
      rw [hb]
      exact frz_ret rfl (ret_v (.lst (natsD (bndsP [0] ns))) (fun Q E q => q) hq)
    · rintro d r ρ ⟨i, w, e, v, K', a, b, c, hr, hi, hs, hel, hvl, hv, hb, rfl⟩
      cases K' with
      | nil => cases hr
      | cons ks K2 =>
      rw [List.map_cons, enumD] at hr
      cases hr
      have hlt : i < ns.length := by
        have := stP_len hs
        rw [List.length_cons, List.length_drop] at this
        omega
      have hdrop : ns.drop i = ns[i] :: ns.drop (i + 1) := List.drop_eq_getElem_cons hlt
      have hget : (ns.map nodD)[i]? = some (nodD ns[i]) := by rw [List.getElem?_map, List.getElem?_eq_getElem hlt]; rfl
      have hs2 := hs
      rw [hdrop] at hs2
      obtain ⟨w', K3, h1, h2, h3, h4⟩ := stP_cons hs2
      obtain ⟨h4a, rfl⟩ := List.cons.inj h4
      subst h3
      obtain ⟨inc1, inc2, _⟩ := stP_inc h1
      cases e with
      | nil => rw [List.length_cons] at hel; cases hel
      | cons h t =>
      have hvi : v[i]? = some h := by
        have := hv 0 (by simp)
        simpa using this
      have hel2 : t.length = w'.length - ns[i].2.2 := by
        rw [List.length_cons, List.length_cons, List.length_drop] at hel
        omega
      refine ⟨_, rfl, fun K'' hK'' => ?_⟩
      rw [h4a]
      show forD (.one 5) _ _ (natsD (w'.take ns[i].2.2)) _
      refine for_st (fun r ρ => ∃ (m : Nat) (v2 : List Nat) (c : Sl), r = natsD ((w'.take ns[i].2.2).drop m) ∧ m ≤ ns[i].2.2 ∧ v2.length = ns.length ∧ v2.take (i + 1) = v.take (i + 1) ∧ (∀ t', t' < m → v2[w'.getD t' 0]? = some (h + ns[i].1)) ∧ (∀ t', m ≤ t' → t' < w'.length → v2[w'.getD t' 0]? = v[w'.getD t' 0]?) ∧ ρ = [Sl.d (.tup (ns.map nodD)), Sl.d y, Sl.own (natsD v2), Sl.d (.int i), Sl.d (kidD (w'.take ns[i].2.2)), c, Sl.no]) ?_ ?_ _ _ ⟨0, v, c, by rw [List.drop_zero], Nat.zero_le _, hvl, rfl, fun t' h => absurd h (Nat.not_lt_zero _), fun _ _ _ => rfl, rfl⟩
      · rintro ρ ⟨m, v2, c, hr, hm, hvl2, htk, hv2, hv3, rfl⟩
        have hm2 : m = ns[i].2.2 := by
          have e : ((w'.take ns[i].2.2).drop m).length = 0 := by
            have := congrArg List.length hr
            rw [intsD_len] at this
            exact this.symm
          rw [List.length_drop, List.length_take] at e
          omega
        subst hm2
        refine hK'' _ ⟨i + 1, w', List.replicate ns[i].2.2 (h + ns[i].1) ++ t, v2, K2, _, _, _, rfl, hlt, h1, ?_, hvl2, fun t' ht' => ?_, ?_, rfl⟩
        · rw [List.length_append, List.length_replicate]
          omega
        · by_cases q : t' < ns[i].2.2
          · rw [hv2 t' q, List.getElem?_append_left (by rw [List.length_replicate]; exact q), List.getElem?_replicate, if_pos q]
          · rw [hv3 t' (by omega) ht', List.getElem?_append_right (by rw [List.length_replicate]; omega), List.length_replicate]
            have h5 := hv (t' - ns[i].2.2 + 1) (by rw [List.length_cons, List.length_drop]; omega)
            rw [List.getElem?_cons_succ] at h5
            rw [← h5]
            congr 1
            rw [List.getD_eq_getElem?_getD, List.getD_eq_getElem?_getD, List.getElem?_cons_succ, List.getElem?_drop]
            congr 2
            omega
        · rw [htk, ← hb, hdrop, bndsP]
          show v.take (i + 1) ++ _ = v.take i ++ h :: _
          rw [take_one hvi, List.append_assoc]
          rfl
      · rintro d r ρ ⟨m, v2, c, hr, hm, hvl2, htk, hv2, hv3, rfl⟩
        have hmlt : m < (w'.take ns[i].2.2).length := by
          have := congrArg List.length hr
          rw [List.length_cons, intsD_len, List.length_drop] at this
          omega
        have hml2 := hmlt
        rw [List.length_take] at hml2
        rw [List.drop_eq_getElem_cons hmlt] at hr
        obtain ⟨rfl, hr2⟩ := List.cons.inj hr
        have hp : (w'.take ns[i].2.2)[m] = w'.getD m 0 := by
          rw [List.getElem_take, List.getD_eq_getElem?_getD, List.getElem?_eq_getElem (by omega)]
          rfl
        have hpm : w'.getD m 0 ∈ w' := by
          rw [List.getD_eq_getElem?_getD, List.getElem?_eq_getElem (show m < w'.length by omega)]
          exact List.getElem_mem _
        have hpb := inc2 _ hpm
        rw [List.length_drop] at hpb
        refine ⟨_, rfl, fun K3 hK3 => ?_⟩
        rw [hp]
        have hvi2 : v2[i]? = some h := by
          have e1 : (v2.take (i + 1))[i]? = v2[i]? := List.getElem?_take_of_lt (by omega)
          have e2 : (v.take (i + 1))[i]? = v[i]? := List.getElem?_take_of_lt (by omega)
          rw [← e1, htk, e2, hvi]
        refine ownSet (m := (w'.getD m 0 : Nat)) (n := w'.getD m 0) (d := .int ((h + ns[i].1 : Nat) : Int)) rfl (ev_op (x := .int h) (y := .int (ns[i].1 : Nat)) (ev_ownIx (m := i) rfl (fun Q E q => q) (at_of rfl ?_)) (ev_op (x := nodD ns[i]) (y := .int 0) (ev_op (x := .tup (ns.map nodD)) (y := .int i) (fun Q E q => q) (fun Q E q => q) fun Q q => ⟨_, at_of rfl hget, q⟩) (fun Q E q => q) fun Q q => ⟨_, rfl, q⟩) fun Q q => q) (fun Q E q => q) ?_ ?_
        rotate_right
        · refine hK3 _ ⟨m + 1, v2.set (w'.getD m 0) (h + ns[i].1), .d (.int (w'.getD m 0 : Nat)), ?_, by omega, by rw [List.length_set]; exact hvl2, ?_, fun t' ht' => ?_, fun t' ht' hl' => ?_, ?_⟩
          · exact hr2
          · rw [List.take_set_of_le (by omega)]
            exact htk
          · by_cases q : t' = m
            · subst q
              rw [List.getElem?_set_self (by rw [hvl2]; omega)]
            · have hne := inc_ne inc1 (show t' < w'.length by omega) (show m < w'.length by omega) q
              rw [List.getElem?_set_ne (Ne.symm hne)]
              exact hv2 t' (by omega)
          · have hne := inc_ne inc1 hl' (show m < w'.length by omega) (by omega)
            rw [List.getElem?_set_ne (Ne.symm hne)]
            exact hv3 t' (by omega) hl'
          · unfold natsD
            rw [List.map_set]
            rfl
        · unfold natsD
          rw [List.getElem?_map, hvi2]
          rfl
        · rw [intsD_len, hvl2]
          exact ixN_nat (by omega)
end K16
namespace K16
open PySem L2 FP
variable [FP.Tabl]
open KP
theorem ok_are_nodes {P : Program} {w : World} {mg : Gm} {base : Heap} {Z : Ads} (A : All mg Z) (G_bound_of : DefOk P w mg base 1 "bound_of" 2 f_bound) (G_is_node : DefOk P w mg base 3 "is_node" 2 f_isnodeG) (G_kids_of : DefOk P w mg base 1 "kids_of" 1 f_kids) (G_level_of : DefOk P w mg base 1 "level_of" 1 f_level) : DefOk P w mg base 4 "are_nodes" 2 f_arenodesG := by
  refine mkDef (N := ["value", "has_gaps", "kids", "levels", "rows", "node", "bound", "row", "level"]) (ps := ["value", "has_gaps"]) A.d_are_nodes sc_are_nodes (fun _ _ _ _ _ _ us hl => match us, hl with | [_, _], _ => rfl) fun fa cdv Ar outer s H E hr => ⟨_,
    (dss_cons (ds_if (dt_w (dw_or (dt_not (dt_val (de_isi (de_var 0) A.n_isinstance A.n_tuple FP.boot_tuple FP.boot_isinstance))) (dw_or1 (dt_not (dt_chain ok_le ok_le de_int (de_callB ok_len A.n_len FP.boot_len (da_cons (de_var 0) da_nil)) (de_gint A.c_MAX_NODES))))))
    (dss_one (ds_ret de_bl))
    dss_nil)
    (dss_cons (ds_if (dt_not (dt_val (de_callB ok_all A.n_all FP.boot_all (da_cons (de_lc (own := [("node", 5)]) (fun _ => sc_are_nodes.nd) (di_tup (de_var 0)) (fun _ => blkOk_by (by kernel_rfl)) (dg_name (i := 5) (fun _ => sc_are_nodes.nd)) dts_nil (de_call G_is_node (fun _ => hr.mono (by omega)) (fun _ => pas takes0) (da_cons (de_var 5) (da_cons (de_var 1) da_nil)))) da_nil))))
    (dss_one (ds_ret de_bl))
    dss_nil)
    (dss_cons (ds_set (i := 2) (de_call G_kids_of (fun _ => hr.mono (by omega)) (fun _ => pas (takes_of rfl rfl rfl rfl)) (da_cons (de_var 0) da_nil)) (fun _ => sc_are_nodes.nd))
    (dss_cons (ds_if (dt_cmp ok_is (de_var 2) de_non)
    (dss_one (ds_ret de_bl))
    dss_nil)
    (dss_cons (ds_setLc (i := 3) (own := [("node", 5)]) (fun _ => sc_are_nodes.nd) (di_tup (de_var 0)) (fun _ => blkOk_by (by kernel_rfl)) (dg_name (i := 5) (fun _ => sc_are_nodes.nd)) dts_nil (de_call G_level_of (fun _ => hr.mono (by omega)) (fun _ => pas takes0) (da_cons (de_ix (de_var 5) de_int) da_nil)) (fun _ => sw_true rfl rfl rfl (by decide +kernel)))
    (dss_cons (ds_setLc (i := 4) (own := [("bound", 6), ("node", 5)]) (fun _ => sc_are_nodes.nd) (di_zip A.n_zip (da_cons (de_call G_bound_of (fun _ => hr.mono (by omega)) (fun _ => pas (takes_of rfl rfl rfl rfl)) (da_cons (de_var 0) (da_cons (de_var 2) da_nil))) (da_cons (de_var 0) da_nil))) (fun _ => blkOk_by (by kernel_rfl)) (dg_tup (dgs_cons (dg_name (i := 6) (fun _ => sc_are_nodes.nd)) (dgs_cons (dg_name (i := 5) (fun _ => sc_are_nodes.nd)) dgs_nil))) dts_nil (de_op ok_add (de_var 6) (de_ix (de_var 5) de_int)) (fun _ => sw_true rfl rfl rfl (by decide +kernel)))
    (dss_one (ds_ret (de_callB ok_all A.n_all FP.boot_all (da_cons (de_lc (own := [("row", 7), ("level", 8)]) (fun _ => sc_are_nodes.nd) (di_zip A.n_zip (da_cons (de_var 4) (da_cons (de_var 3) da_nil))) (fun _ => blkOk_by (by kernel_rfl)) (dg_tup (dgs_cons (dg_name (i := 7) (fun _ => sc_are_nodes.nd)) (dgs_cons (dg_name (i := 8) (fun _ => sc_are_nodes.nd)) dgs_nil))) dts_nil (de_and (de_cmp ok_le (de_var 7) (de_op ok_add (de_gint A.c_MAX_LEVEL) de_int)) (de_one (de_or (de_cmp ok_is (de_var 8) de_non) (de_one (de_cmp ok_lt (de_var 8) (de_var 7))))))) da_nil)))))))))),  fun ds Q Ex hl hf => ?_⟩
  match ds, hl, hf with
  | [d, .bl g], _, ⟨ho, hq⟩ =>
    have e0 : startD 9 [d, .bl g] = [Sl.d (d), Sl.d (.bl g), Sl.no, Sl.no, Sl.no, Sl.no, Sl.no, Sl.no, Sl.no] := rfl
    have hnN : (["value", "has_gaps", "kids", "levels", "rows", "node", "bound", "row", "level"] : List Str).length = 9 := rfl
    rw [hnN, e0]
    clear e0 hnN
    have evT := ev_tup_isi (ρ := [Sl.d d, Sl.d (.bl g), Sl.no, Sl.no, Sl.no, Sl.no, Sl.no, Sl.no, Sl.no]) (i := 0) ho.v rfl
    cases ht : isTupD d with
    | false =>
      have e : areG g d = false := by
        cases d with
        | tup xs => cases ht
        | _ => rfl
      rw [e] at hq
      exact seq_ifT (or_t (not_v (b := false) (b_v (evT.eq (by rw [ht]))))) (ret_v _ (fun Q E q => q) hq)
    | true =>
    obtain ⟨xs, rfl⟩ : ∃ xs, d = .tup xs := by
      cases d with
      | tup xs => exact ⟨xs, rfl⟩
      | _ => cases ht
    have f1 : EvT (dNot (dB (dIsi "tuple" (dVar 0)))) [Sl.d (.tup xs), Sl.d (.bl g), Sl.no, Sl.no, Sl.no, Sl.no, Sl.no, Sl.no, Sl.no] false := not_v (b := true) (b_v (evT.eq (by rw [ht])))
    have ec : EvT (dB (dChain rdLe rdLe (dC (.int 1)) (dCB rdLen (dCons (dVar 0) dNil)) (dC (.int 40)))) [Sl.d (.tup xs), Sl.d (.bl g), Sl.no, Sl.no, Sl.no, Sl.no, Sl.no, Sl.no, Sl.no] (decide (1 ≤ xs.length) && decide (xs.length ≤ 40)) := fun Q E q => by
      have e1 : decide ((1 : Int) ≤ (xs.length : Int)) = decide (1 ≤ xs.length) := decide_eq_decide.mpr ⟨fun h => by omega, fun h => by omega⟩
      have e2 : decide ((xs.length : Int) ≤ 40) = decide (xs.length ≤ 40) := decide_eq_decide.mpr ⟨fun h => by omega, fun h => by omega⟩
      show bit (decide ((1 : Int) ≤ (xs.length : Int))) (Q (decide ((xs.length : Int) ≤ 40))) (Q false)
      rw [e1, e2]
      cases h : decide (1 ≤ xs.length) with
      | true =>
        rw [h] at q
        exact q
      | false =>
        rw [h] at q
        exact q
    have eA : areG g (.tup xs) = ((decide (1 ≤ xs.length) && decide (xs.length ≤ 40)) && (xs.all (isNodeG g) && areN (xs.map toNod))) := by
      rw [Bool.and_assoc]
      rfl
    rw [eA] at hq
    cases hc : (decide (1 ≤ xs.length) && decide (xs.length ≤ 40)) with
    | false =>
      rw [hc] at ec hq
      exact seq_ifT (or_f f1 (not_v (b := false) ec)) (ret_v _ (fun Q E q => q) hq)
    | true =>
    rw [hc] at ec hq
    rw [Bool.and_eq_true, decide_eq_true_eq, decide_eq_true_eq] at hc
    obtain ⟨h1, h40⟩ := hc
    refine seq_ifF (or_f f1 (not_v (b := true) ec)) ?_
    have eall : Ev (dCB rdAll (dCons (dLc (dITup (dVar 0)) (.one 5) dYes (dCall f_isnodeG 2 (dCons (dVar 5) (dCons (dVar 1) dNil))) [5]) dNil)) [Sl.d (.tup xs), Sl.d (.bl g), Sl.no, Sl.no, Sl.no, Sl.no, Sl.no, Sl.no, Sl.no] (.bl (xs.all (isNodeG g))) := ev_cb (a1 (d := .lst (xs.map fun x => .bl (isNodeG g x))) (ev_lc (fun x : D => x) (fun x => .bl (isNodeG g x)) (xs := xs) (fun Q E q => by
      rw [List.map_id'] at q
      exact q) (size_small (by omega)) fun x hx => ⟨_, rfl, ev_call (a1 (fun Q E q => q) (a1 (fun Q E q => q) a0)) rfl fun Q E q => ⟨ho x hx, q⟩⟩) a0) fun Q q => ⟨xs.map (isNodeG g), blsD_fn (isNodeG g) xs, by
      rw [List.all_map]
      exact q⟩
    cases hall : xs.all (isNodeG g) with
    | false =>
      rw [hall] at eall hq
      exact seq_ifT (not_v (b := false) (b_v eall)) (ret_v _ (fun Q E q => q) hq)
    | true =>
    rw [hall] at eall hq
    obtain ⟨ns, rfl, hg, hns⟩ := nodsG_of hall
    rw [← hns] at hq
    rw [List.length_map] at h1 h40
    refine seq_ifF (not_v (b := true) (b_v eall)) ?_
    refine seq_v (match kidsP ns with | none => .non | some K => .lst (K.map kidD)) (ev_call (a1 (fun Q E q => q) a0) rfl fun Q E q => ⟨ns, rfl, by omega, q⟩) ?_
    unfold areN at hq
    cases hk : kidsP ns with
    | none =>
      rw [hk] at hq
      exact seq_ifT (b_v (ev_op (x := .non) (y := .non) (fun Q E q => q) (fun Q E q => q) fun Q q => q)) (ret_v (.bl false) (fun Q E q => q) hq)
    | some K =>
    rw [hk] at hq
    replace hq : Q (.bl (rowsOk (bndsP [0] ns) ns)) := hq
    refine seq_ifF (b_v (ev_op (x := .lst (K.map kidD)) (y := .non) (fun Q E q => q) (fun Q E q => q) fun Q q => q)) ?_
    refine seq_v (.lst (ns.map fun n => ofO (levelS n.2.1))) (ev_lc nodD (fun n => ofO (levelS n.2.1)) (xs := ns) (fun Q E q => q) (size_small (by omega)) fun n hn => ⟨_, rfl, ev_call (a1 (d := .str n.2.1) (ev_op (x := nodD n) (y := .int 1) (fun Q E q => q) (fun Q E q => q) fun Q q => ⟨_, rfl, q⟩) a0) rfl fun Q E q => ⟨(ho (nodD n) (List.mem_map.mpr ⟨n, hn, rfl⟩)).2.1, q⟩⟩) ?_
    have hbl : (bndsP [0] ns).length = ns.length := bnds_len _ _
    refine seq_v (.lst (natsD (rowsP (bndsP [0] ns) ns))) (Ev.eq (ev_lc (fun p : Nat × Nod => D.tup [.int (p.1 : Nat), nodD p.2]) (fun p => D.int ((p.1 + p.2.1 : Nat) : Int)) (xs := List.zip (bndsP [0] ns) ns) (fun Q E q => (a1 (d := .lst (natsD (bndsP [0] ns))) (ev_call (ds := [.tup (ns.map nodD), .lst (K.map kidD)]) (a1 (fun Q E q => q) (a1 (fun Q E q => q) a0)) rfl fun Q E q => ⟨ns, K, rfl, .inl rfl, hk, by omega, q⟩) (a1 (d := .tup (ns.map nodD)) (fun Q E q => q) a0)) _ _ ⟨_, _, rfl, rfl, by rw [zip_bn]; exact q⟩) (size_small (by rw [List.length_zip, hbl]; omega)) fun p hp => ⟨_, rfl, ev_op (x := .int (p.1 : Nat)) (y := .int (p.2.1 : Nat)) (fun Q E q => q) (ev_op (x := nodD p.2) (y := .int 0) (fun Q E q => q) (fun Q E q => q) fun Q q => ⟨_, rfl, q⟩) fun Q q => q⟩) (by rw [zip_rows])) ?_
    have hrl : (rowsP (bndsP [0] ns) ns).length = ns.length := rowsP_len hbl
    refine ret_v (.bl (rowsOk (bndsP [0] ns) ns)) (ev_cb (a1 (d := .lst ((List.zip (rowsP (bndsP [0] ns) ns) ns).map fun p => .bl (rowB p.1 p.2))) (ev_lc (fun p : Nat × Nod => D.tup [.int (p.1 : Nat), ofO (levelS p.2.2.1)]) (fun p => .bl (rowB p.1 p.2)) (xs := List.zip (rowsP (bndsP [0] ns) ns) ns) (fun Q E q => ev_zip (x := .lst (natsD (rowsP (bndsP [0] ns) ns))) (y := .lst (ns.map fun n : Nod => ofO (levelS n.2.1))) (a1 (fun Q E q => q) (a1 (fun Q E q => q) a0)) rfl rfl _ _ (by rw [zip_rl]; exact q)) (size_small (by rw [List.length_zip, hrl]; omega)) fun p hp => ⟨_, rfl, ?_⟩) a0) fun Q q => ⟨(List.zip (rowsP (bndsP [0] ns) ns) ns).map fun p => rowB p.1 p.2, blsD_fn (fun p : Nat × Nod => rowB p.1 p.2) _, ?_⟩) hq
    · have e100 : decide ((p.1 : Int) ≤ 99 + 1) = decide (p.1 ≤ 100) := decide_eq_decide.mpr ⟨fun h => by omega, fun h => by omega⟩
      refine ev_andV (b1 := decide (p.1 ≤ 100)) (ev_op (x := .int (p.1 : Nat)) (y := .int (99 + 1)) (fun Q E q => q) (ev_op (x := .int 99) (y := .int 1) (fun Q E q => q) (fun Q E q => q) fun Q q => q) fun Q q => by
        show Q (.bl (decide ((p.1 : Int) ≤ 99 + 1)))
        rw [e100]
        exact q) fun _ => ?_
      cases hl2 : levelS p.2.2.1 with
      | none => exact ev_orV (b1 := true) (b2 := true) (ev_op (x := .non) (y := .non) (fun Q E q => q) (fun Q E q => q) fun Q q => q) fun h => by cases h
      | some l => exact ev_orV (b1 := false) (ev_op (x := .int l) (y := .non) (fun Q E q => q) (fun Q E q => q) fun Q q => q) fun _ => ev_op (x := .int l) (y := .int (p.1 : Nat)) (fun Q E q => q) (fun Q E q => q) fun Q q => q
    · rw [List.all_map]
      show Q (.bl ((List.zip (rowsP (bndsP [0] ns) ns) ns).all fun p => rowB p.1 p.2))
      rw [rowsOk_all _ _ hbl]
      exact q
theorem ok_Program___init__ {P : Program} {w : World} {mg : Gm} {base : Heap} {Z : Ads} (A : All mg Z) (G_are_nodes : DefOk P w mg base 4 "are_nodes" 2 f_arenodesG) (G_bound_of : DefOk P w mg base 1 "bound_of" 2 f_bound) (G_ends_of : DefOk P w mg base 1 "ends_of" 1 f_ends) (G_kids_of : DefOk P w mg base 1 "kids_of" 1 f_kids) : InitOk P w mg base 5 "Program" Z.a_Program 1 f_initPN := by
  refine mkInit (N := ["self", "nodes"]) (ps := ["self", "nodes"]) A.kc_Program A.d_Program___init__ sc_Program___init__ rfl (fun _ _ _ _ _ _ us hl => match us, hl with | [_, _], _ => rfl) fun fa cdv Ar outer s H E hr => ⟨_,
    (dss_cons (ds_if (dt_val (de_isiO (de_var 1) A.n_isinstance A.kc_Nodes.nm A.isi_Nodes FP.boot_isinstance))
    (dss_one (ds_setF 0 A.kc_Program A.na_Program_own_nodes (de_fld A.kc_Nodes A.na_Nodes_told_nodes (de_var 1))))
    (dss_one (ds_if (dt_not (dt_val (de_call G_are_nodes (fun _ => hr.mono (by omega)) (fun _ => pas (takes_of rfl rfl rfl rfl)) (da_cons (de_var 1) (da_cons de_bl da_nil)))))
    (dss_one (ds_raise veB A.ex_InvalidProgram (fun _ => takes_of rfl rfl rfl rfl)))
    (dss_one (ds_setF 0 A.kc_Program A.na_Program_own_nodes (de_var 1))))))
    (dss_cons (ds_setF 0 A.kc_Program A.na_Program_own_kids (de_callTy ok_tuple A.n_tuple FP.boot_tuple (da_cons (de_call G_kids_of (fun _ => hr.mono (by omega)) (fun _ => pas (takes_of rfl rfl rfl rfl)) (da_cons (de_fldO 0 A.kc_Program A.na_Program_own_nodes) da_nil)) da_nil)))
    (dss_cons (ds_setF 0 A.kc_Program A.na_Program_own_ends (de_callTy ok_tuple A.n_tuple FP.boot_tuple (da_cons (de_call G_ends_of (fun _ => hr.mono (by omega)) (fun _ => pas (takes_of rfl rfl rfl rfl)) (da_cons (de_fldO 0 A.kc_Program A.na_Program_own_kids) da_nil)) da_nil)))
    (dss_one (ds_setF 0 A.kc_Program A.na_Program_own_bound (de_callTy ok_tuple A.n_tuple FP.boot_tuple (da_cons (de_call G_bound_of (fun _ => hr.mono (by omega)) (fun _ => pas (takes_of rfl rfl rfl rfl)) (da_cons (de_fldO 0 A.kc_Program A.na_Program_own_nodes) (da_cons (de_fldO 0 A.kc_Program A.na_Program_own_kids) da_nil))) da_nil))))))),  fun x ds Q Ex hl hf => ?_⟩
  match ds, hl, hf with
  | [d], _, .inl ⟨ho, hno, hok, hbad⟩ =>
    have e0 : startD (2 - 1) [d] = [Sl.d (d)] := rfl
    have hnN : (["self", "nodes"] : List Str).length = 2 := rfl
    rw [hnN, e0]
    clear e0 hnN
    refine seq_if false (b_v fun Q E q => ?_) (bitS (fun h => by cases h) fun _ => ?_)
    · show (match isiD ["Nodes"] (fun _ => true) d with | some b => Q (.bl b) | none => False)
      rw [hno]
      exact q
    have ec : Ev (dCall f_arenodesG 2 (dCons (dVar 1) (dCons (dC (.bl false)) dNil))) [Sl.ob "Program" x [], Sl.d d] (.bl (areP d)) := ev_call (a1 (fun Q E q => q) (a1 (fun Q E q => q) a0)) rfl fun Q E q => ⟨ho, by rw [areG_false]; exact q⟩
    cases ha : areP d with
    | false =>
      rw [ha] at ec
      refine seq_if true (not_v (b := false) (b_v ec)) (bitS (fun _ => ?_) fun h => by cases h)
      exact hbad ha
    | true =>
    rw [ha] at ec
    refine seq_if false (not_v (b := true) (b_v ec)) (bitS (fun h => by cases h) fun _ => ?_)
    obtain ⟨ns, rfl, hg, h1, h40, har⟩ := areP_tup ha
    obtain ⟨K, hk⟩ := ar_kids har
    have hkl := kids_len hk
    have hq := hok _ rfl ha
    rw [progF_eq hk] at hq
    refine seq_setF rfl (.tup (ns.map nodD)) (by decide) (fun Q E q => q) ?_
    refine seq_setF rfl (.tup (K.map kidD)) (by show 1 < 1000; decide) (ev_cb (a1 (d := .lst (K.map kidD)) (ev_call (a1 (d := .tup (ns.map nodD)) (fun Q E q => ⟨rfl, _, rfl, q⟩) a0) rfl fun Q E q => ⟨ns, rfl, by omega, by rw [hk]; exact q⟩) a0) fun Q q => q) ?_
    refine seq_setF rfl (.tup (natsD (endsP 0 K))) (by show 2 < 1000; decide) (ev_cb (a1 (d := .lst (natsD (endsP 0 K))) (ev_call (a1 (d := .tup (K.map kidD)) (fun Q E q => ⟨rfl, _, rfl, q⟩) a0) rfl fun Q E q => ⟨K, rfl, by omega, kids_in hk, q⟩) a0) fun Q q => q) ?_
    refine end_setF rfl (.tup (natsD (bndsP [0] ns))) (by show 3 < 1000; decide) (ev_cb (a1 (d := .lst (natsD (bndsP [0] ns))) (ev_call (ds := [.tup (ns.map nodD), .tup (K.map kidD)]) (a1 (fun Q E q => ⟨rfl, _, rfl, q⟩) (a1 (fun Q E q => ⟨rfl, _, rfl, q⟩) a0)) rfl fun Q E q => ⟨ns, K, rfl, .inr rfl, hk, by omega, q⟩) a0) fun Q q => q) ⟨_, _, rfl, hq⟩
  | [_], _, .inr ⟨p, rfl, h900, hq⟩ =>
    have e0 : startD (2 - 1) [.ins "Nodes" [("told_nodes", .tup ((nodesT p).map nodD))]] = [Sl.d (.ins "Nodes" [("told_nodes", .tup ((nodesT p).map nodD))])] := rfl
    have hnN : (["self", "nodes"] : List Str).length = 2 := rfl
    rw [hnN, e0]
    clear e0 hnN
    rw [← progF_T] at hq
    have hk := kidsP_T p
    have h40 : (nodesT p).length ≤ 900 := by
      rw [nodes_len]
      exact h900
    generalize nodesT p = ns at hq hk h40
    generalize kidsT 0 p = K at hk
    have hkl := kids_len hk
    rw [progF_eq hk] at hq
    refine seq_if true (b_v fun Q E q => ?_) (bitS (fun _ => ?_) fun h => by cases h)
    · show (match isiD ["Nodes"] (fun _ => true) (.ins "Nodes" [("told_nodes", .tup (ns.map nodD))]) with | some b => Q (.bl b) | none => False)
      rw [isi_own]
      exact q
    refine seq_setF rfl (.tup (ns.map nodD)) (by decide) (ev_fld (fs := [("told_nodes", .tup (ns.map nodD))]) (fun Q E q => q) rfl) ?_
    refine seq_setF rfl (.tup (K.map kidD)) (by show 1 < 1000; decide) (ev_cb (a1 (d := .lst (K.map kidD)) (ev_call (a1 (d := .tup (ns.map nodD)) (fun Q E q => ⟨rfl, _, rfl, q⟩) a0) rfl fun Q E q => ⟨ns, rfl, by omega, by rw [hk]; exact q⟩) a0) fun Q q => q) ?_
    refine seq_setF rfl (.tup (natsD (endsP 0 K))) (by show 2 < 1000; decide) (ev_cb (a1 (d := .lst (natsD (endsP 0 K))) (ev_call (a1 (d := .tup (K.map kidD)) (fun Q E q => ⟨rfl, _, rfl, q⟩) a0) rfl fun Q E q => ⟨K, rfl, by omega, kids_in hk, q⟩) a0) fun Q q => q) ?_
    refine end_setF rfl (.tup (natsD (bndsP [0] ns))) (by show 3 < 1000; decide) (ev_cb (a1 (d := .lst (natsD (bndsP [0] ns))) (ev_call (ds := [.tup (ns.map nodD), .tup (K.map kidD)]) (a1 (fun Q E q => ⟨rfl, _, rfl, q⟩) (a1 (fun Q E q => ⟨rfl, _, rfl, q⟩) a0)) rfl fun Q E q => ⟨ns, K, rfl, .inr rfl, hk, by omega, q⟩) a0) fun Q q => q) ⟨_, _, rfl, hq⟩
theorem ok_Program_nodes {P : Program} {w : World} {mg : Gm} {base : Heap} {Z : Ads} (A : All mg Z) : PropOk P w mg base 1 Z.a_Program "nodes" f_nodesT := by
  refine mkProp (N := ["self"]) (ps := ["self"]) A.d_Program_nodes sc_Program_nodes rfl (fun _ _ _ _ _ _ us hl => match us, hl with | [_], _ => rfl) fun fa cdv Ar outer s H E hr => ⟨_,
    (dss_one (ds_ret (de_fld A.kc_Program A.na_Program_own_nodes (de_var 0)))),  fun ds Q Ex hl hf => ?_⟩
  match ds, hl, hf with
  | [_], _, ⟨p, rfl, hq⟩ =>
    have e0 : startD 1 [progD p] = [Sl.d (progD p)] := rfl
    have hnN : (["self"] : List Str).length = 1 := rfl
    rw [hnN, e0]
    clear e0 hnN
    exact ret_v (.tup ((nodesT p).map nodD)) (ev_fld (fs := progT p) (fun Q E q => q) rfl) hq
end K16
namespace K16
open PySem L2 FP
variable [FP.Tabl]
open KP
theorem ok_tokens_of {P : Program} {w : World} {mg : Gm} {base : Heap} {Z : Ads} (A : All mg Z) : DefOk P w mg base 1 "tokens_of" 1 f_tokens := by
  refine mkDef (N := ["text", "found", "at", "size"]) (ps := ["text"]) A.d_tokens_of sc_tokens_of (fun _ _ _ _ _ _ us hl => match us, hl with | [_], _ => rfl) fun fa cdv Ar outer s H E hr => ⟨_,
    (dss_cons (ds_setO (i := 1) (do_lst da_nil) (fun _ => sc_tokens_of.nd))
    (dss_cons (ds_set (i := 2) de_int (fun _ => sc_tokens_of.nd))
    (dss_cons (ds_while (dt_cmp ok_lt (de_var 2) (de_callB ok_len A.n_len FP.boot_len (da_cons (de_var 0) da_nil)))
    (dss_cons (ds_set (i := 3) de_int (fun _ => sc_tokens_of.nd))
    (dss_cons (ds_if (dt_cmp ok_in (de_ix (de_var 0) (de_var 2)) (de_op ok_add (de_gstr A.c_LETTERS) (de_gstr A.c_DIGITS)))
    (dss_one (ds_while (dt_w (dw_and (dt_cmp (ok_ne (fun _ => hr.r.units)) (de_slice (de_var 0) (do_some (de_op ok_add (de_var 2) (de_var 3))) (do_some (de_op ok_add (de_op ok_add (de_var 2) (de_var 3)) de_int))) de_str) (dw_and1 (dt_cmp ok_in (de_ix (de_var 0) (de_op ok_add (de_var 2) (de_var 3))) (de_op ok_add (de_gstr A.c_LETTERS) (de_gstr A.c_DIGITS))))))
    (dss_one (ds_set (i := 3) (de_op ok_add (de_var 3) de_int) (fun _ => sc_tokens_of.nd))) (fun _ => passes_of rfl)))
    (dss_one (ds_if (dt_cmp (ok_eq (fun _ => hr.r.units)) (de_slice (de_var 0) (do_some (de_var 2)) (do_some (de_op ok_add (de_var 2) de_int))) (de_gstr A.c_DOT))
    (dss_one (ds_set (i := 3) de_int (fun _ => sc_tokens_of.nd)))
    (dss_one (ds_if (dt_cmp ok_notIn (de_ix (de_var 0) (de_var 2)) (de_op ok_add (de_op ok_add de_str (de_gstr A.c_LAMBDA)) (de_gstr A.c_GAP)))
    (dss_one (ds_ret de_non))
    dss_nil)))))
    (dss_cons (ds_append 1 (de_slice (de_var 0) (do_some (de_var 2)) (do_some (de_op ok_add (de_var 2) (de_var 3)))) (pe := fun _ _ h => ps_expr (pe_bm PySem.F.plainAttrs_list PySem.F.slot_list_append PySem.F.type_list_append mt_append (pv 1) (pa_cons h pa_nil))))
    (dss_one (ds_set (i := 2) (de_op ok_add (de_var 2) (de_var 3)) (fun _ => sc_tokens_of.nd)))))) (fun _ => passes_of rfl))
    (dss_one (ds_frz 1 (ds_ret (de_var 1))))))),  fun ds Q Ex hl hf => ?_⟩
  match ds, hl, hf with
  | [.str z], _, ⟨hz, hq⟩ =>
    change (_ : DTS) _ [Sl.d (.str z), Sl.no, Sl.no, Sl.no]
    refine ⟨line rfl, LIA z, ⟨_, LIA.start z _⟩, ?_⟩
    rintro m ρ ⟨pre, rest, found, o, h, rfl, rfl, hx, hn⟩
    have hzl : z.length = pre.length + rest.length := by rw [str_len, h, List.length_append]
    refine ⟨len_ok hz, ?_⟩
    show bit (decide ((pre.length : Int) < (z.length : Int))) _ _
    cases rest with
    | nil =>
      rw [decide_eq_false (by rw [hzl, List.length_nil]; omega)]
      have e := hx.stop
      rw [e] at hq
      exact hq
    | cons c r =>
      have hlr : (c :: r).length = r.length + 1 := rfl
      rw [decide_eq_true (by omega)]
      refine ⟨c, len_ok hz, at_mid h rfl, aln_len, in_aln ?_⟩
      show bit (isA c) _ _
      cases hc : isA c with
      | true =>
        refine word_loopA hz h ?_
        obtain ⟨t1, t2⟩ := take_wordA (c := c) (r := r)
        have hx' := hx.step (s := ⟨(c :: r.takeWhile isA).toArray⟩) (rest' := r.dropWhile isA) (by rw [tkP_cons, if_pos hc])
        rw [← t1, ← t2] at hx'
        have htw := (List.takeWhile_sublist isA (l := r)).length_le
        exact lexA_tail hz h hx' (by omega) (by omega) hn (by omega)
      | false =>
        have hcn : ¬ isA c = true := by rw [hc]; exact Bool.false_ne_true
        refine ⟨len_ok hz, eq_str ?_⟩
        rw [cut_mid (hi := (pre.length : Int) + 2) (k := 2) h rfl rfl]
        by_cases ha : (c :: r).take 2 = [46, 32]
        · have he : (⟨((c :: r).take 2).toArray⟩ : Str) = ". " := str_eq.mpr ha
          rw [decide_eq_true he]
          have hx' : LxA z (found ++ [⟨((c :: r).take 2).toArray⟩]) ((c :: r).drop 2) := by
            rw [he]
            exact hx.step (by rw [tkP_cons, if_neg hcn, if_pos ha]; rfl)
          have h2 : 2 ≤ (c :: r).length := by
            have q := congrArg List.length ha
            rw [List.length_take] at q
            have e : ([46, 32] : List Nat).length = 2 := rfl
            omega
          exact lexA_tail hz h hx' (by omega) h2 hn rfl
        · rw [decide_eq_false (fun q => ha (str_eq.mp q))]
          refine ⟨c, len_ok hz, at_mid h rfl, sgn_len1, sgn_len2, notin_sgn ?_⟩
          show bit (!decide (c ∈ signL)) _ _
          by_cases hp : c ∈ signL
          · rw [decide_eq_true hp]
            exact lexA_tail (k := 1) hz h (hx.step (by rw [tkP_cons, if_neg hcn, if_neg ha, if_pos hp]; rfl)) (by omega) (by omega) hn rfl
          · rw [decide_eq_false hp]
            have e : tkP z.cps.toList = none := by
              unfold LxA at hx
              rw [hx, tkP_cons, if_neg hcn, if_neg ha, if_neg hp]
              rfl
            rw [e] at hq
            exact hq
end K16
namespace K16
open PySem L2 FP
variable [FP.Tabl]
open KP
theorem ok_variable_text {P : Program} {w : World} {mg : Gm} {base : Heap} {Z : Ads} (A : All mg Z) : DefOk P w mg base 1 "variable_text" 1 f_vartextG := by
  refine mkDef (N := ["level"]) (ps := ["level"]) A.d_variable_text sc_variable_text (fun _ _ _ _ _ _ us hl => match us, hl with | [_], _ => rfl) fun fa cdv Ar outer s H E hr => ⟨_,
    (dss_one (ds_ret (de_op ok_add (de_gstr A.c_VARIABLE) (de_callTy ok_str A.n_str FP.boot_str (da_cons (de_var 0) da_nil))))),  fun ds Q Ex hl hf => ?_⟩
  match ds, hl, hf with
  | [.int _], _, ⟨k, rfl, hk, hq⟩ =>
    have e0 : startD 1 [.int k] = [Sl.d (.int k)] := rfl
    have hnN : (["level"] : List Str).length = 1 := rfl
    rw [hnN, e0]
    clear e0 hnN
    exact ret_v (.str (xS k)) (ev_xsG hk (fun Q E q => q)) hq
theorem ok_Reader___init__ {P : Program} {w : World} {mg : Gm} {base : Heap} {Z : Ads} (A : All mg Z) : InitO P w mg base 1 "Reader" Z.a_Reader 1 f_rdinit := by
  refine mkInitO (N := ["self", "tokens"]) (ps := ["self", "tokens"]) A.kc_Reader A.d_Reader___init__ sc_Reader___init__ rfl (fun _ _ _ _ _ _ us hl => match us, hl with | [_, _], _ => rfl) fun fa cdv Ar outer s H E hr => ⟨_,
    (dss_cons (ds_owSet 0 A.kc_Reader A.na_Reader_of_tokens (de_var 1))
    (dss_cons (ds_owSet 0 A.kc_Reader A.na_Reader_of_at de_int)
    (dss_cons (ds_owNewL 0 A.kc_Reader A.na_Reader_of_nodes (do_lst da_nil))
    (dss_one (ds_owNewL 0 A.kc_Reader A.na_Reader_of_open (do_lst da_nil)))))),  fun x ds Q hl hf => ?_⟩
  match ds, hl, hf with
  | [.lst _], _, ⟨ts, rfl, hq⟩ =>
    change (_ : DTS) _ [Sl.ow "Reader" [x] [], Sl.d (.lst (ts.map .str))]
    exact ⟨rfl, by decide, rfl, rfl, by show 1 < 1000; decide, rfl, line rfl, rfl, by show 2 < 1000; decide, rfl, fun p => ⟨line rfl, rfl, by show 3 < 1000; decide, rfl, fun p2 => ⟨_, _, _, rfl, rfl, hq⟩⟩⟩
theorem ok_Reader_token {P : Program} {w : World} {mg : Gm} {base : Heap} {Z : Ads} (A : All mg Z) : MethO P w mg base 1 "Reader" Z.a_Reader "token" 0 f_tok := by
  refine mkMethO (N := ["self", "found"]) (ps := ["self"]) A.d_Reader_token sc_Reader_token rfl (fun _ _ _ _ _ _ us hl => match us, hl with | [_], _ => rfl) fun fa cdv Ar outer s H E hr => ⟨_,
    (dss_cons (ds_set (i := 1) (de_view 0 (de_if (dt_cmp ok_lt (de_fld A.kc_Reader A.na_Reader_of_at (de_var 0)) (de_callB ok_len A.n_len FP.boot_len (da_cons (de_fld A.kc_Reader A.na_Reader_of_tokens (de_var 0)) da_nil))) (de_ix (de_fld A.kc_Reader A.na_Reader_of_tokens (de_var 0)) (de_fld A.kc_Reader A.na_Reader_of_at (de_var 0))) de_str)) (fun _ => sc_Reader_token.nd))
    (dss_cons (ds_owSet 0 A.kc_Reader A.na_Reader_of_at (de_view 0 (de_op ok_add (de_fld A.kc_Reader A.na_Reader_of_at (de_var 0)) de_int)))
    (dss_one (ds_ret (de_var 1))))),  fun as fs ds Q Ex hl hf => ?_⟩
  match ds, hl, hf with
  | [], _, ⟨ts, i, ns, op, hfs, ho, hq⟩ =>
    subst hfs
    change (_ : DTS) _ [Sl.ow "Reader" as (rdF ts i ns op), Sl.no]
    refine seq_v (.str (hdT ts i)) (ev_view rfl rfl (ev_if (b := decide (i < ts.length)) (b_v (ev_op (x := .int i) (y := .int ((ts.map D.str).length : Nat)) (ev_fld (fs := toDs (rdF ts i ns op)) (fun Q E q => q) rfl) (ev_cb (a1 (d := .lst (ts.map D.str)) (ev_fld (fs := toDs (rdF ts i ns op)) (fun Q E q => q) rfl) a0) fun Q q => q) fun Q q => ?_)) (fun h => ev_op (x := .lst (ts.map D.str)) (y := .int i) (ev_fld (fs := toDs (rdF ts i ns op)) (fun Q E q => q) rfl) (ev_fld (fs := toDs (rdF ts i ns op)) (fun Q E q => q) rfl) fun Q q => ⟨_, at_of rfl (hdT_lt (of_decide_eq_true h)), q⟩) fun h => Ev.eq (fun Q E q => q) (by rw [hdT_ge (of_decide_eq_false h)]))) ?_
    · show Q (.bl (decide ((i : Int) < ((ts.map D.str).length : Nat))))
      rw [List.length_map, show decide ((i : Int) < (ts.length : Nat)) = decide (i < ts.length) from decide_eq_decide.mpr ⟨fun h => by omega, fun h => by omega⟩]
      exact q
    refine seq_owSet rfl (by show 4 < 1000; decide) rfl (.int ((i + 1 : Nat) : Int)) (ev_view rfl rfl (ev_op (x := .int i) (y := .int 1) (ev_fld (fs := toDs (rdF ts i ns op)) (fun Q E q => q) rfl) (fun Q E q => q) fun Q q => q)) ?_
    exact ret_v (.str (hdT ts i)) (fun Q E q => q) ⟨_, _, _, rfl, rfl, hq⟩
theorem ok_Reader_binders {P : Program} {w : World} {mg : Gm} {base : Heap} {Z : Ads} (A : All mg Z) (G_Reader_token : MethO P w mg base 1 "Reader" Z.a_Reader "token" 0 f_tok) (G_variable_text : DefOk P w mg base 1 "variable_text" 1 f_vartextG) : MethO P w mg base 2 "Reader" Z.a_Reader "binders" 1 f_binders := by
  refine mkMethO (N := ["self", "bound", "count", "sign"]) (ps := ["self", "bound"]) A.d_Reader_binders sc_Reader_binders rfl (fun _ _ _ _ _ _ us hl => match us, hl with | [_, _], _ => rfl) fun fa cdv Ar outer s H E hr => ⟨_,
    (dss_cons (ds_ifX (dtx_cmp (ok_ne (fun _ => hr.r.units)) (dx_meth0 0 A.kc_Reader G_Reader_token (fun _ => hr.mono (by omega)) (fun _ => pas (takes_of rfl rfl rfl rfl))) (de_gstr A.c_LAMBDA))
    (dss_cons (ds_owSet 0 A.kc_Reader A.na_Reader_of_at (de_view 0 (de_op ok_sub (de_fld A.kc_Reader A.na_Reader_of_at (de_var 0)) de_int)))
    (dss_one (ds_ret de_int)))
    dss_nil)
    (dss_cons (ds_set (i := 2) de_int (fun _ => sc_Reader_binders.nd))
    (dss_cons (ds_set (i := 3) de_str (fun _ => sc_Reader_binders.nd))
    (dss_cons (ds_while (dt_cmp (ok_eq (fun _ => hr.r.units)) (de_var 3) de_str)
    (dss_cons (ds_ifX (dtx_cmp (ok_ne (fun _ => hr.r.units)) (dx_meth0 0 A.kc_Reader G_Reader_token (fun _ => hr.mono (by omega)) (fun _ => pas (takes_of rfl rfl rfl rfl))) (de_call G_variable_text (fun _ => hr.mono (by omega)) (fun _ => pas (takes_of rfl rfl rfl rfl)) (da_cons (de_op ok_add (de_var 1) (de_var 2)) da_nil)))
    (dss_one (ds_ret de_non))
    dss_nil)
    (dss_cons (ds_set (i := 2) (de_op ok_add (de_var 2) de_int) (fun _ => sc_Reader_binders.nd))
    (dss_one (ds_setX (i := 3) (dx_meth0 0 A.kc_Reader G_Reader_token (fun _ => hr.mono (by omega)) (fun _ => pas (takes_of rfl rfl rfl rfl))) (fun _ => sc_Reader_binders.nd))))) (fun _ => passes_of rfl))
    (dss_one (ds_ret (de_if (dt_cmp (ok_eq (fun _ => hr.r.units)) (de_var 3) (de_gstr A.c_DOT)) (de_var 2) de_non))))))),  fun as fs ds Q Ex hl hf => ?_⟩
  match ds, hl, hf with
  | [.int _], _, ⟨ts, i, ns, op, bd, hfs, ho, rfl, hbd, hq1, hq2⟩ =>
    subst hfs
    change (_ : DTS) _ [Sl.ow "Reader" as (rdF ts i ns op), Sl.d (.int bd), Sl.no, Sl.no]
    by_cases hb : hdT ts i = "\\"
    case neg =>
      refine ifX_tokT (s := "\\") rfl ho (fun as' => (fun Q E q => q)) (fun Q q => ne_str (by rw [decide_eq_false hb]; exact q)) fun as1 h1 => seq_seq ?_
      refine seq_owSet rfl (by show 4 < 1000; decide) rfl (.int (i : Nat)) (ev_view rfl rfl (ev_op (x := .int ((i + 1 : Nat) : Int)) (y := .int 1) (ev_fld (fs := toDs (rdF ts (i + 1) ns op)) (fun Q E q => q) rfl) (fun Q E q => q) fun Q q => by
        show Q (.int (((i + 1 : Nat) : Int) - 1))
        rw [int_pred]
        exact q)) ?_
      exact ret_v (.int 0) (fun Q E q => q) ⟨_, _, _, rfl, h1, hq2 0 _ (bindHd_no hb) i rfl⟩
    rw [bindHd_yes hb] at hq1 hq2
    refine ifX_tokF (s := "\\") rfl ho (fun as' => (fun Q E q => q)) (fun Q q => ne_str (by rw [decide_eq_true hb]; exact q)) fun as1 h1 => ?_
    refine seq_v (.int 0) (fun Q E q => q) ?_
    refine seq_v (.str " ") (fun Q E q => q) ?_
    refine seq_while (fun m ρ => ∃ as' j cnt s, as'.head? = as.head? ∧ ρ = [Sl.ow "Reader" as' (rdF ts j ns op), Sl.d (.int bd), Sl.d (.int (cnt : Nat)), Sl.d (.str s)] ∧ InvB ts bd i j cnt s m) (ts.length + 1 - (i + 1)) ⟨as1, i + 1, 0, " ", h1, rfl, fun _ => ⟨rfl, ?_, Nat.zero_le _, rfl⟩, fun z => absurd z (by decide +kernel), fun z => absurd rfl z⟩ ?_
    · by_cases z : i < ts.length
      · exact z
      · rw [hdT_ge z] at hb
        exact absurd hb (by decide +kernel)
    rintro m ρ ⟨as', j, cnt, s, ha, rfl, hi⟩
    have tw : EvT (dB (dOp rdEq (dVar 3) (dC (.str " ")))) [Sl.ow "Reader" as' (rdF ts j ns op), Sl.d (.int bd), Sl.d (.int (cnt : Nat)), Sl.d (.str s)] (decide (s = " ")) := b_v (ev_op (x := .str s) (y := .str " ") (fun Q E q => q) (fun Q E q => q) fun Q q => eq_str q)
    refine tw _ _ ?_
    by_cases hs : s = " "
    case neg =>
      rw [decide_eq_false hs, bit_f]
      by_cases hd : s = ". "
      · exact ret_v (.int (cnt : Nat)) (ev_if (b := true) (b_v (ev_op (x := .str s) (y := .str ". ") (fun Q E q => q) (fun Q E q => q) fun Q q => eq_str (by rw [decide_eq_true hd]; exact q))) (fun _ => (fun Q E q => q)) fun h => by cases h) ⟨_, _, _, rfl, ha, hq2 cnt _ (hi.2.1 hd) j rfl⟩
      · exact ret_v .non (ev_if (b := false) (b_v (ev_op (x := .str s) (y := .str ". ") (fun Q E q => q) (fun Q E q => q) fun Q q => eq_str (by rw [decide_eq_false hd]; exact q))) (fun h => by cases h) fun _ => (fun Q E q => q)) ⟨_, _, _, rfl, ha, hq1 (hi.2.2 hs hd) j⟩
    subst hs
    rw [decide_eq_true rfl, bit_t]
    obtain ⟨g1, g2, g3, g4⟩ := hi.1 rfl
    have hn := ho.n
    have hva : ∀ as2, Ev (dCall f_vartextG 1 (dCons (dOp rdAdd (dVar 1) (dVar 2)) dNil)) [Sl.ow "Reader" as2 (rdF ts (j + 1) ns op), Sl.d (.int bd), Sl.d (.int (cnt : Nat)), Sl.d (.str " ")] (.str (xS (bd + cnt))) := (fun as2 => ev_call (a1 (d := .int ((bd + cnt : Nat) : Int)) (ev_op (x := .int bd) (y := .int (cnt : Nat)) (fun Q E q => q) (fun Q E q => q) fun Q q => q) a0) rfl fun Q E q => ⟨bd + cnt, rfl, by omega, q⟩)
    by_cases ht : hdT ts j = xS (bd + cnt)
    case neg =>
      refine ifX_tokT (s := xS (bd + cnt)) rfl ho hva (fun Q q => ne_str (by rw [decide_eq_false ht]; exact q)) fun as2 h2 => ?_
      exact ret_v .non (fun Q E q => q) ⟨_, _, _, rfl, h2.trans ha, hq1 (g1.trans (bind_bad ht)) _⟩
    refine ifX_tokF (s := xS (bd + cnt)) rfl ho hva (fun Q q => ne_str (by rw [decide_eq_true ht]; exact q)) fun as2 h2 => ?_
    refine seq_v (.int ((cnt + 1 : Nat) : Int)) (ev_op (x := .int (cnt : Nat)) (y := .int 1) (fun Q E q => q) (fun Q E q => q) fun Q q => q) ?_
    refine end_setTok rfl ho fun as3 h3 => ?_
    obtain ⟨t1, t2⟩ := hi.turn ht
    exact ⟨_, t1, as3, j + 2, cnt + 1, _, h3.trans (h2.trans ha), rfl, t2⟩
theorem ok_Reader_add {P : Program} {w : World} {mg : Gm} {base : Heap} {Z : Ads} (A : All mg Z) (G_Reader_token : MethO P w mg base 1 "Reader" Z.a_Reader "token" 0 f_tok) (G_is_node : DefOk P w mg base 3 "is_node" 2 f_isnodeG) : MethO P w mg base 4 "Reader" Z.a_Reader "add" 1 f_add := by
  refine mkMethO (N := ["self", "count", "head"]) (ps := ["self", "count"]) A.d_Reader_add sc_Reader_add rfl (fun _ _ _ _ _ _ us hl => match us, hl with | [_, _], _ => rfl) fun fa cdv Ar outer s H E hr => ⟨_,
    (dss_cons (ds_setX (i := 2) (dx_meth0 0 A.kc_Reader G_Reader_token (fun _ => hr.mono (by omega)) (fun _ => pas (takes_of rfl rfl rfl rfl))) (fun _ => sc_Reader_add.nd))
    (dss_cons (ds_owApp (x := "self") 0 A.kc_Reader A.na_Reader_of_nodes (de_tup (da_cons (de_var 1) (da_cons (de_var 2) (da_cons de_int da_nil)))) (fun _ _ h => ps_expr (pe_bm PySem.F.plainAttrs_list PySem.F.slot_list_append PySem.F.type_list_append mt_append (pe_fld (pv 0) rfl) (pa_cons h pa_nil))))
    (dss_one (ds_ret (de_view 0 (de_and (de_call G_is_node (fun _ => hr.mono (by omega)) (fun _ => pas (takes_of rfl rfl rfl rfl)) (da_cons (de_tup (da_cons de_int (da_cons (de_var 2) (da_cons de_int da_nil)))) (da_cons de_bl da_nil))) (de_one (de_cmp ok_le (de_callB ok_len A.n_len FP.boot_len (da_cons (de_fld A.kc_Reader A.na_Reader_of_nodes (de_var 0)) da_nil)) (de_gint A.c_MAX_NODES))))))))),  fun as fs ds Q Ex hl hf => ?_⟩
  match ds, hl, hf with
  | [.int _], _, ⟨ts, i, ns, op, c, hfs, ho, rfl, hn, hq⟩ =>
    subst hfs
    change (_ : DTS) _ [Sl.ow "Reader" as (rdF ts i ns op), Sl.d (.int c), Sl.no]
    refine seq_setTok rfl ho fun as1 h1 => ?_
    refine seq_owApp rfl (xs := ns.map nodD) rfl (by rw [List.length_map]; exact Nat.lt_of_le_of_lt hn (by decide)) (nodD (c, hdT ts i, 0)) (ev_tup (a1 (fun Q E q => q) (a1 (fun Q E q => q) (a1 (fun Q E q => q) a0))) (line rfl)) ?_
    rw [rd_addN]
    refine ret_v (.bl (okG (hdT ts i) && decide (ns.length + 1 ≤ 40))) (ev_view rfl rfl (ev_andV (ev_call (a1 (d := .tup [.int 0, .str (hdT ts i), .int 0]) (ev_tup (a1 (fun Q E q => q) (a1 (fun Q E q => q) (a1 (fun Q E q => q) a0))) (line rfl)) (a1 (fun Q E q => q) a0)) rfl fun Q E q => ⟨⟨trivial, hdT_ok ho i, trivial⟩, by rw [node_okG]; exact q⟩) fun _ => ev_op (x := .int (((ns ++ [(c, hdT ts i, 0)]).map nodD).length : Nat)) (y := .int 40) (ev_lenL (ev_fld (fs := toDs (rdF ts (i + 1) (ns ++ [(c, hdT ts i, 0)]) op)) (fun Q E q => q) rfl)) (fun Q E q => q) fun Q q => ?_)) ⟨_, _, _, rfl, h1, hq⟩
    show Q (.bl (decide ((((ns ++ [(c, hdT ts i, 0)]).map nodD).length : Int) ≤ 40)))
    rw [List.length_map, List.length_append, List.length_singleton, show decide (((ns.length + 1 : Nat) : Int) ≤ 40) = decide (ns.length + 1 ≤ 40) from decide_eq_decide.mpr ⟨fun h => by omega, fun h => by omega⟩]
    exact q
theorem ok_Reader_begin {P : Program} {w : World} {mg : Gm} {base : Heap} {Z : Ads} (A : All mg Z) (G_Reader_add : MethO P w mg base 4 "Reader" Z.a_Reader "add" 1 f_add) (G_Reader_binders : MethO P w mg base 2 "Reader" Z.a_Reader "binders" 1 f_binders) : MethO P w mg base 5 "Reader" Z.a_Reader "begin" 0 f_begin := by
  refine mkMethO (N := ["self", "bound", "count"]) (ps := ["self"]) A.d_Reader_begin sc_Reader_begin rfl (fun _ _ _ _ _ _ us hl => match us, hl with | [_], _ => rfl) fun fa cdv Ar outer s H E hr => ⟨_,
    (dss_cons (ds_set (i := 1) (de_view 0 (de_if (dt_cmp (ok_ne (fun _ => hr.r.units)) (de_fld A.kc_Reader A.na_Reader_of_open (de_var 0)) (de_lst da_nil)) (de_ix (de_ix (de_fld A.kc_Reader A.na_Reader_of_open (de_var 0)) (de_neg de_int)) de_int) de_int)) (fun _ => sc_Reader_begin.nd))
    (dss_cons (ds_setX (i := 2) (dx_meth 0 A.kc_Reader G_Reader_binders (fun _ => hr.mono (by omega)) (fun _ => pas (takes_of rfl rfl rfl rfl)) (da_cons (de_var 1) da_nil)) (fun _ => sc_Reader_begin.nd))
    (dss_cons (ds_if (dt_cmp ok_is (de_var 2) de_non)
    (dss_one (ds_ret de_bl))
    dss_nil)
    (dss_cons (ds_owApp (x := "self") 0 A.kc_Reader A.na_Reader_of_open (de_tup (da_cons (de_view 0 (de_callB ok_len A.n_len FP.boot_len (da_cons (de_fld A.kc_Reader A.na_Reader_of_nodes (de_var 0)) da_nil))) (da_cons (de_op ok_add (de_var 1) (de_var 2)) da_nil))) (fun _ _ h => ps_expr (pe_bm PySem.F.plainAttrs_list PySem.F.slot_list_append PySem.F.type_list_append mt_append (pe_fld (pv 0) rfl) (pa_cons h pa_nil))))
    (dss_one (ds_retX (dx_meth 0 A.kc_Reader G_Reader_add (fun _ => hr.mono (by omega)) (fun _ => pas (takes_of rfl rfl rfl rfl)) (da_cons (de_var 2) da_nil)))))))),  fun as fs ds Q Ex hl hf => ?_⟩
  match ds, hl, hf with
  | [], _, ⟨ts, i, ns, op, hfs, ho, hn, hop, hbd, hq1, hq2⟩ =>
    subst hfs
    change (_ : DTS) _ [Sl.ow "Reader" as (rdF ts i ns op), Sl.no, Sl.no]
    generalize hB : (op.getLast?.map (·.2)).getD 0 = bd at hbd hq1 hq2
    refine seq_v (.int (bd : Nat)) (ev_view rfl rfl (ev_if (b := !(op.map opD).isEmpty) (b_v (ev_op (x := .lst (op.map opD)) (y := .lst []) (ev_fld (fs := toDs (rdF ts i ns op)) (fun Q E q => q) rfl) (ev_lst a0 (line rfl)) fun Q q => neNil (sh_op op) q)) (fun h => ?_) fun h => Ev.eq (fun Q E q => q) ?_)) ?_
    · rcases List.eq_nil_or_concat op with e | ⟨op', x, e⟩
      · rw [e] at h
        cases h
      · rw [List.concat_eq_append] at e
        have hx : x.2 = bd := by
          rw [← hB, e, List.getLast?_append]
          rfl
        refine Ev.eq (ev_op (x := opD x) (y := .int 1) (ev_op (x := .lst (op.map opD)) (y := .int (-1)) (ev_fld (fs := toDs (rdF ts i ns op)) (fun Q E q => q) rfl) (fun Q E q => q) fun Q q => ⟨_, by rw [e, List.map_append]; exact atI_snoc _ _, q⟩) (fun Q E q => q) fun Q q => ⟨_, rfl, q⟩) (by rw [← hx])
    · rcases List.eq_nil_or_concat op with e | ⟨op', x, e⟩
      · rw [← hB, e]
        rfl
      · rw [List.concat_eq_append] at e
        rw [e] at h
        simp at h
    refine seq_setM (d := .int (bd : Nat)) rfl rfl (fun Q E q => q) ⟨ts, i, ns, op, bd, rfl, ho, rfl, hbd, fun e j as1 h1 => ?_, fun c r e j hj as1 h1 => ?_⟩
    · refine seq_ifT (b_v (ev_op (x := .non) (y := .non) (fun Q E q => q) (fun Q E q => q) fun Q q => q)) ?_
      exact ret_v (.bl false) (fun Q E q => q) ⟨_, _, _, rfl, h1, hq1 e _⟩
    refine seq_ifF (b_v (ev_op (x := .int (c : Nat)) (y := .non) (fun Q E q => q) (fun Q E q => q) fun Q q => q)) ?_
    refine seq_owApp rfl (xs := op.map opD) rfl (by rw [List.length_map]; exact Nat.lt_of_le_of_lt hop (by decide)) (opD (ns.length, bd + c)) (ev_tup (a1 (ev_view rfl rfl (ev_cb (d := .int (ns.length : Nat)) (a1 (d := .lst (ns.map nodD)) (ev_fld (fs := toDs (rdF ts j ns op)) (fun Q E q => q) rfl) a0) fun Q q => by
      show Q (.int ((ns.map nodD).length : Nat))
      rw [List.length_map]
      exact q)) (a1 (d := .int ((bd + c : Nat) : Int)) (ev_op (x := .int (bd : Nat)) (y := .int (c : Nat)) (fun Q E q => q) (fun Q E q => q) fun Q q => q) a0)) (line rfl)) ?_
    rw [rd_addO]
    refine ret_M (d := .int (c : Nat)) rfl rfl (fun Q E q => q) ⟨ts, j, ns, op ++ [(ns.length, bd + c)], c, rfl, ho, rfl, hn, fun as' h' => ⟨_, _, _, rfl, h'.trans h1, ?_⟩⟩
    have := hq2 c r e j hj
    rw [← hj] at this
    exact this
end K16
namespace K16
open PySem L2 FP
variable [FP.Tabl]
open KP
theorem ok_Reader_go_on {P : Program} {w : World} {mg : Gm} {base : Heap} {Z : Ads} (A : All mg Z) (G_Reader_add : MethO P w mg base 4 "Reader" Z.a_Reader "add" 1 f_add) (G_Reader_begin : MethO P w mg base 5 "Reader" Z.a_Reader "begin" 0 f_begin) (G_Reader_token : MethO P w mg base 1 "Reader" Z.a_Reader "token" 0 f_tok) : MethO P w mg base 6 "Reader" Z.a_Reader "go_on" 0 f_goon := by
  refine mkMethO (N := ["self", "sign", "index", "binders", "head", "count"]) (ps := ["self"]) A.d_Reader_go_on sc_Reader_go_on rfl (fun _ _ _ _ _ _ us hl => match us, hl with | [_], _ => rfl) fun fa cdv Ar outer s H E hr => ⟨_,
    (dss_cons (ds_setX (i := 1) (dx_meth0 0 A.kc_Reader G_Reader_token (fun _ => hr.mono (by omega)) (fun _ => pas (takes_of rfl rfl rfl rfl))) (fun _ => sc_Reader_go_on.nd))
    (dss_cons (ds_if (dt_cmp (ok_eq (fun _ => hr.r.units)) (de_var 1) de_str)
    (dss_cons (ds_setX (i := 2) (dx_ix (dx_owPop 0 A.kc_Reader A.na_Reader_of_open (fun _ => pe_bm0 PySem.F.plainAttrs_list PySem.F.slot_list_pop PySem.F.type_list_pop mt_pop (pe_fld (pv 0) rfl))) de_int) (fun _ => sc_Reader_go_on.nd))
    (dss_one (ds_ret (de_view 0 (de_and (de_cmp (ok_ne (fun _ => hr.r.units)) (de_fld A.kc_Reader A.na_Reader_of_open (de_var 0)) (de_lst da_nil)) (de_one (de_or (de_cmp ok_gt (de_ix (de_ix (de_fld A.kc_Reader A.na_Reader_of_nodes (de_var 0)) (de_var 2)) de_int) de_int) (de_one (de_cmp ok_gt (de_ix (de_ix (de_fld A.kc_Reader A.na_Reader_of_nodes (de_var 0)) (de_var 2)) de_int) de_int)))))))))
    dss_nil)
    (dss_cons (ds_if (dt_cmp (ok_ne (fun _ => hr.r.units)) (de_var 1) de_str)
    (dss_one (ds_ret de_bl))
    dss_nil)
    (dss_cons (ds_set (i := 2) (de_view 0 (de_ix (de_ix (de_fld A.kc_Reader A.na_Reader_of_open (de_var 0)) (de_neg de_int)) de_int)) (fun _ => sc_Reader_go_on.nd))
    (dss_cons (ds_asg (de_owIx 0 A.kc_Reader A.na_Reader_of_nodes (de_var 2) (fun _ _ h => pe_ix ix_seq (pe_fld (pv 0) rfl) h (fun _ _ => rfl))) (dg_tup (dgs_cons (dg_name (i := 3) (fun _ => sc_Reader_go_on.nd)) (dgs_cons (dg_name (i := 4) (fun _ => sc_Reader_go_on.nd)) (dgs_cons (dg_name (i := 5) (fun _ => sc_Reader_go_on.nd)) dgs_nil)))))
    (dss_cons (ds_owSetIx 0 A.kc_Reader A.na_Reader_of_nodes (de_var 2) (de_tup (da_cons (de_var 3) (da_cons (de_var 4) (da_cons (de_op ok_add (de_var 5) de_int) da_nil)))) (fun _ _ _ h h2 => ps_asg h2 (pg_sub (pe_fld (pv 0) rfl) h set_list)))
    (dss_cons (ds_ifX (dtx_cmp (ok_eq (fun _ => hr.r.units)) (dx_meth0 0 A.kc_Reader G_Reader_token (fun _ => hr.mono (by omega)) (fun _ => pas (takes_of rfl rfl rfl rfl))) de_str)
    (dss_one (ds_retX (dx_meth0 0 A.kc_Reader G_Reader_begin (fun _ => hr.mono (by omega)) (fun _ => pas (takes_of rfl rfl rfl rfl)))))
    dss_nil)
    (dss_cons (ds_owSet 0 A.kc_Reader A.na_Reader_of_at (de_view 0 (de_op ok_sub (de_fld A.kc_Reader A.na_Reader_of_at (de_var 0)) de_int)))
    (dss_one (ds_retX (dx_meth 0 A.kc_Reader G_Reader_add (fun _ => hr.mono (by omega)) (fun _ => pas (takes_of rfl rfl rfl rfl)) (da_cons de_int da_nil)))))))))))),  fun as fs ds Q Ex hl hf => ?_⟩
  match ds, hl, hf with
  | [], _, ⟨ts, i, F, hfs, ho, hF, hsz, hFl, hbd, hq1, hq2⟩ =>
    subst hfs
    change (_ : DTS) _ [Sl.ow "Reader" as (rdF ts i (nodesF F) (openF 0 0 F)), Sl.no, Sl.no, Sl.no, Sl.no, Sl.no]
    obtain ⟨F0, eF⟩ := snocF hF
    generalize lastF F = l at eF
    subst eF
    have hop := open_l F0 l
    have hnl : (nodesF (F0 ++ [l])).length = szF (F0 ++ [l]) := rfl
    have hlen : szF F0 < (nodesF (F0 ++ [l])).length := by
      rw [hnl, szF_snoc]
      omega
    refine seq_setTok rfl ho fun as1 h1 => ?_
    by_cases hp : hdT ts i = ")"
    · refine seq_ifT (b_v (ev_op (x := .str (hdT ts i)) (y := .str ")") (fun Q E q => q) (fun Q E q => q) fun Q q => eq_str (by rw [decide_eq_true hp]; exact q))) (seq_seq ?_)
      have hr : ∃ r, ts.drop i = (")" : Str) :: r := by
        cases q : ts.drop i with
        | nil =>
          rw [hdT_nil q] at hp
          exact absurd hp (by decide +kernel)
        | cons t r =>
          rw [(hdT_cons q).1] at hp
          exact ⟨r, by rw [hp]⟩
      obtain ⟨r, hr⟩ := hr
      have hg : goF (F0 ++ [l]) (ts.drop i) = if F0 ≠ [] ∧ (0 < l.b ∨ 0 < l.as.length) then some (pushF (.mk l.b l.h l.as) F0, r) else none := by
        rw [hr, goF_cons, if_pos rfl, closeF_l]
      rw [hg] at hq1 hq2
      refine seq_setPop (xs := (openF 0 0 F0).map opD) (d0 := opD (szF F0, bdF 0 F0 + l.b)) (d := .int (szF F0 : Nat)) (n := 0) rfl (by rw [hop]; show some (OF.l ((openF 0 0 F0 ++ [(szF F0, bdF 0 F0 + l.b)]).map opD)) = _; rw [List.map_append]; rfl) (fun Q q => ⟨_, rfl, q⟩) ?_
      have eo : putO "of_open" (.l ((openF 0 0 F0).map opD)) (rdF ts (i + 1) (nodesF (F0 ++ [l])) (openF 0 0 (F0 ++ [l]))) = rdF ts (i + 1) (nodesF (F0 ++ [l])) (openF 0 0 F0) := rfl
      rw [eo]
      have hat : ((nodesF (F0 ++ [l])).map nodD)[szF F0]? = some (nodD (l.b, l.h, l.as.length)) := by
        rw [List.getElem?_map, nodes_l]
        rfl
      have evn : ∀ k : Int, ∀ d, atI [D.int (l.b : Nat), .str l.h, .int (l.as.length : Nat)] k = some d → Ev (dOp rdIx (dOp rdIx (dFld "Reader" "of_nodes" (dVar 0)) (dVar 2)) (dC (.int k))) [Sl.d (.ins "Reader" (toDs (rdF ts (i + 1) (nodesF (F0 ++ [l])) (openF 0 0 F0)))), Sl.d (.str (hdT ts i)), Sl.d (.int (szF F0 : Nat)), Sl.no, Sl.no, Sl.no] d := fun k d hd => ev_op (x := nodD (l.b, l.h, l.as.length)) (y := .int k) (ev_op (x := .lst ((nodesF (F0 ++ [l])).map nodD)) (y := .int (szF F0 : Nat)) (ev_fld (fs := toDs (rdF ts (i + 1) (nodesF (F0 ++ [l])) (openF 0 0 F0))) (fun Q E q => q) rfl) (fun Q E q => q) fun Q q => ⟨_, at_of rfl hat, q⟩) (fun Q E q => q) fun Q q => ⟨_, hd, q⟩
      refine ret_v (.bl (!F0.isEmpty && (decide (0 < l.b) || decide (0 < l.as.length)))) (ev_view rfl rfl (ev_andV (ev_op (x := .lst ((openF 0 0 F0).map opD)) (y := .lst []) (ev_fld (fs := toDs (rdF ts (i + 1) (nodesF (F0 ++ [l])) (openF 0 0 F0))) (fun Q E q => q) rfl) (ev_lst a0 (line rfl)) fun Q q => neNil (sh_op _) (by rw [open_nil]; exact q)) fun _ => ev_orV (ev_op (x := .int (l.b : Nat)) (y := .int 0) (evn 0 _ rfl) (fun Q E q => q) fun Q q => ?_) fun _ => ev_op (x := .int (l.as.length : Nat)) (y := .int 0) (evn 2 _ rfl) (fun Q E q => q) fun Q q => ?_)) ⟨_, _, _, rfl, h1, ?_⟩
      · show Q (.bl (decide ((0 : Int) < (l.b : Nat))))
        rw [show decide ((0 : Int) < (l.b : Nat)) = decide (0 < l.b) from decide_eq_decide.mpr ⟨fun h => by omega, fun h => by omega⟩]
        exact q
      · show Q (.bl (decide ((0 : Int) < (l.as.length : Nat))))
        rw [show decide ((0 : Int) < (l.as.length : Nat)) = decide (0 < l.as.length) from decide_eq_decide.mpr ⟨fun h => by omega, fun h => by omega⟩]
        exact q
      · by_cases hc : F0 ≠ [] ∧ (0 < l.b ∨ 0 < l.as.length)
        · rw [if_pos hc] at hq2
          have hv := hq2 _ _ rfl (i + 1) (hdT_cons hr).2
          rw [open_push, ← nodes_close l F0 hc.1] at hv
          have eb : (!F0.isEmpty && (decide (0 < l.b) || decide (0 < l.as.length))) = true := by
            rw [Bool.and_eq_true, Bool.or_eq_true, decide_eq_true_eq, decide_eq_true_eq]
            refine ⟨?_, hc.2⟩
            cases F0 with
            | nil => exact absurd rfl hc.1
            | cons _ _ => rfl
          rw [eb]
          exact hv
        · rw [if_neg hc] at hq1
          have eb : (!F0.isEmpty && (decide (0 < l.b) || decide (0 < l.as.length))) = false := by
            rw [Bool.and_eq_false_iff, Bool.or_eq_false_iff, decide_eq_false_iff_not, decide_eq_false_iff_not]
            cases F0 with
            | nil => exact .inl rfl
            | cons a b => exact .inr ⟨fun z => hc ⟨by simp, .inl z⟩, fun z => hc ⟨by simp, .inr z⟩⟩
          rw [eb]
          exact hq1 rfl _
    refine seq_ifF (b_v (ev_op (x := .str (hdT ts i)) (y := .str ")") (fun Q E q => q) (fun Q E q => q) fun Q q => eq_str (by rw [decide_eq_false hp]; exact q))) ?_
    by_cases hb : hdT ts i = " "
    case neg =>
      have hg : goF (F0 ++ [l]) (ts.drop i) = none := by
        cases q : ts.drop i with
        | nil => rfl
        | cons t r =>
          rw [(hdT_cons q).1] at hp hb
          rw [goF_cons, if_neg hp, if_neg hb]
      refine seq_ifT (b_v (ev_op (x := .str (hdT ts i)) (y := .str " ") (fun Q E q => q) (fun Q E q => q) fun Q q => ne_str (by rw [decide_eq_false hb]; exact q))) ?_
      exact ret_v (.bl false) (fun Q E q => q) ⟨_, _, _, rfl, h1, hq1 hg _⟩
    refine seq_ifF (b_v (ev_op (x := .str (hdT ts i)) (y := .str " ") (fun Q E q => q) (fun Q E q => q) fun Q q => ne_str (by rw [decide_eq_true hb]; exact q))) ?_
    have hr : ∃ r, ts.drop i = (" " : Str) :: r := by
      cases q : ts.drop i with
      | nil =>
        rw [hdT_nil q] at hb
        exact absurd hb (by decide +kernel)
      | cons t r =>
        rw [(hdT_cons q).1] at hb
        exact ⟨r, by rw [hb]⟩
    obtain ⟨r, hr⟩ := hr
    have hr1 := (hdT_cons hr).2
    have hg : goF (F0 ++ [l]) (ts.drop i) = if hdT ts (i + 1) = "(" then newF (F0 ++ [l]) r.tail else leafF (F0 ++ [l]) r := by
      rw [hr, goF_cons, if_neg sp_par, if_pos rfl]
      unfold hdT
      rw [hr1]
    rw [hg] at hq1 hq2
    refine seq_v (.int (szF F0 : Nat)) (ev_view rfl rfl (ev_op (x := opD (szF F0, bdF 0 F0 + l.b)) (y := .int 0) (ev_op (x := .lst ((openF 0 0 (F0 ++ [l])).map opD)) (y := .int (-1)) (ev_fld (fs := toDs (rdF ts (i + 1) (nodesF (F0 ++ [l])) (openF 0 0 (F0 ++ [l])))) (fun Q E q => q) rfl) (fun Q E q => q) fun Q q => ⟨_, by rw [hop, List.map_append]; exact atI_snoc _ _, q⟩) (fun Q E q => q) fun Q q => ⟨_, rfl, q⟩)) ?_
    refine seq_asg (ρ' := [Sl.ow "Reader" as1 (rdF ts (i + 1) (nodesF (F0 ++ [l])) (openF 0 0 (F0 ++ [l]))), Sl.d (.str (hdT ts i)), Sl.d (.int (szF F0 : Nat)), Sl.d (.int (l.b : Nat)), Sl.d (.str l.h), Sl.d (.int (l.as.length : Nat))]) (nodD (l.b, l.h, l.as.length)) (ev_owIx (xs := (nodesF (F0 ++ [l])).map nodD) rfl rfl (m := (szF F0 : Nat)) (fun Q E q => q) (at_of rfl (by rw [List.getElem?_map, nodes_l]; rfl))) rfl ?_
    refine seq_owSetIx (xs := (nodesF (F0 ++ [l])).map nodD) (m := (szF F0 : Nat)) (j := szF F0) (d := nodD (l.b, l.h, l.as.length + 1)) rfl rfl (ev_tup (a1 (fun Q E q => q) (a1 (fun Q E q => q) (a1 (d := .int ((l.as.length + 1 : Nat) : Int)) (ev_op (x := .int (l.as.length : Nat)) (y := .int 1) (fun Q E q => q) (fun Q E q => q) fun Q q => q) a0))) (line rfl)) (fun Q E q => q) (ixN_nat (by rw [List.length_map]; exact hlen)) ?_
    rw [rd_setN]
    generalize hns : (nodesF (F0 ++ [l])).set (szF F0) (l.b, l.h, l.as.length + 1) = ns2
    have hns2 : ns2.length = szF (F0 ++ [l]) := by rw [← hns, List.length_set]; rfl
    by_cases hk : hdT ts (i + 1) = "("
    · rw [if_pos hk] at hq1 hq2
      have hr2 : ts.drop (i + 2) = r.tail := by
        cases r with
        | nil =>
          have := hdT_nil hr1
          rw [this] at hk
          exact absurd hk (by decide +kernel)
        | cons t r2 => exact (hdT_cons hr1).2
      refine ifX_tokT (s := "(") rfl ho (fun as' => (fun Q E q => q)) (fun Q q => eq_str (by rw [decide_eq_true hk]; exact q)) fun as3 h3 => ?_
      have hgl : ((openF 0 0 (F0 ++ [l])).getLast?.map (·.2)).getD 0 = bdF 0 (F0 ++ [l]) := by
        rw [open_last _ _ _ hF]
        rfl
      refine ret_M0 (m := "begin") (g := f_begin) rfl rfl ⟨ts, i + 2, ns2, openF 0 0 (F0 ++ [l]), rfl, ho, by omega, by rw [open_len]; omega, by rw [hgl]; exact hbd, ?_, ?_⟩
      · rw [hgl, hr2]
        intro e fs' as' h'
        refine ⟨_, _, _, rfl, h'.trans (h3.trans h1), hq1 ?_ _⟩
        unfold newF
        rw [e]
      · rw [hgl, hr2]
        intro c r' e j hj as' h'
        refine ⟨_, _, _, rfl, h'.trans (h3.trans h1), ?_⟩
        rw [hns2]
        by_cases hc : okG (r'.headD "") = true ∧ szF (F0 ++ [l]) + 1 ≤ 40
        · have en : newF (F0 ++ [l]) r.tail = some (F0 ++ [l] ++ [⟨c, r'.headD "", []⟩], r'.tail) := by
            unfold newF
            rw [e]
            dsimp only
            rw [if_pos hc]
          have hjt : ts.drop (j + 1) = r'.tail := by
            rw [← hj, List.tail_drop]
          have hv := hq2 _ _ en (j + 1) hjt
          rw [hc.1, decide_eq_true hc.2]
          rw [open_snoc, ← begin_l, hns, Nat.zero_add] at hv
          exact hv
        · have en : newF (F0 ++ [l]) r.tail = none := by
            unfold newF
            rw [e]
            dsimp only
            rw [if_neg hc]
          have eb : (okG (r'.headD "") && decide (szF (F0 ++ [l]) + 1 ≤ 40)) = false := by
            rw [Bool.and_eq_false_iff, decide_eq_false_iff_not]
            cases z : okG (r'.headD "") with
            | false => exact .inl rfl
            | true => exact .inr fun z2 => hc ⟨z, z2⟩
          rw [eb]
          exact hq1 en _
    · rw [if_neg hk] at hq1 hq2
      refine ifX_tokF (s := "(") rfl ho (fun as' => (fun Q E q => q)) (fun Q q => eq_str (by rw [decide_eq_false hk]; exact q)) fun as3 h3 => ?_
      refine seq_owSet rfl (by show 4 < 1000; decide) rfl (.int ((i + 1 : Nat) : Int)) (ev_view rfl rfl (ev_op (x := .int ((i + 1 + 1 : Nat) : Int)) (y := .int 1) (ev_fld (fs := toDs (rdF ts (i + 1 + 1) ns2 (openF 0 0 (F0 ++ [l])))) (fun Q E q => q) rfl) (fun Q E q => q) fun Q q => by
        show Q (.int (((i + 1 + 1 : Nat) : Int) - 1))
        rw [int_pred]
        exact q)) ?_
      refine ret_M (m := "add") (g := f_add) (d := .int 0) rfl rfl (fun Q E q => q) ⟨ts, i + 1, ns2, openF 0 0 (F0 ++ [l]), 0, rfl, ho, rfl, by omega, fun as' h' => ⟨_, _, _, rfl, h'.trans (h3.trans h1), ?_⟩⟩
      rw [hr1, hns2]
      have hj2 : ts.drop (i + 1 + 1) = r.tail := by
        rw [← hr1, List.tail_drop]
      by_cases hc : okG (r.headD "") = true ∧ szF (F0 ++ [l]) + 1 ≤ 40
      · have en : leafF (F0 ++ [l]) r = some (pushF (.mk 0 (r.headD "") []) (F0 ++ [l]), r.tail) := by
          unfold leafF
          rw [if_pos hc]
        have hv := hq2 _ _ en (i + 1 + 1) hj2
        rw [hc.1, decide_eq_true hc.2]
        rw [open_push, ← leaf_l, hns] at hv
        exact hv
      · have en : leafF (F0 ++ [l]) r = none := by
          unfold leafF
          rw [if_neg hc]
        have eb : (okG (r.headD "") && decide (szF (F0 ++ [l]) + 1 ≤ 40)) = false := by
          rw [Bool.and_eq_false_iff, decide_eq_false_iff_not]
          cases z : okG (r.headD "") with
          | false => exact .inl rfl
          | true => exact .inr fun z2 => hc ⟨z, z2⟩
        rw [eb]
        exact hq1 en _
end K16
namespace K16
open PySem L2 FP
variable [FP.Tabl]
open KP
theorem ok_nodes_of {P : Program} {w : World} {mg : Gm} {base : Heap} {Z : Ads} (A : All mg Z) (G_Reader___init__ : InitO P w mg base 1 "Reader" Z.a_Reader 1 f_rdinit) (G_Reader_begin : MethO P w mg base 5 "Reader" Z.a_Reader "begin" 0 f_begin) (G_Reader_go_on : MethO P w mg base 6 "Reader" Z.a_Reader "go_on" 0 f_goon) (G_are_nodes : DefOk P w mg base 4 "are_nodes" 2 f_arenodesG) (G_tokens_of : DefOk P w mg base 1 "tokens_of" 1 f_tokens) : DefOk P w mg base 7 "nodes_of" 1 f_nodesof := by
  refine mkDef (N := ["text", "tokens", "reader", "nodes"]) (ps := ["text"]) A.d_nodes_of sc_nodes_of (fun _ _ _ _ _ _ us hl => match us, hl with | [_], _ => rfl) fun fa cdv Ar outer s H E hr => ⟨_,
    (dss_cons (ds_set (i := 1) (de_if (dt_val (de_isi (de_var 0) A.n_isinstance A.n_str FP.boot_str FP.boot_isinstance)) (de_call G_tokens_of (fun _ => hr.mono (by omega)) (fun _ => pas (takes_of rfl rfl rfl rfl)) (da_cons (de_var 0) da_nil)) de_non) (fun _ => sc_nodes_of.nd))
    (dss_cons (ds_if (dt_cmp ok_is (de_var 1) de_non)
    (dss_one (ds_ret de_non))
    dss_nil)
    (dss_cons (ds_makeOA (i := 2) A.kc_Reader G_Reader___init__ (fun _ => hr.mono (by omega)) (fun _ => pas (takes_of rfl rfl rfl rfl)) (da_cons (de_var 1) da_nil) (fun _ => sc_nodes_of.nd))
    (dss_cons (ds_ifX (dtx_not (dtx_val (dx_meth0 2 A.kc_Reader G_Reader_begin (fun _ => hr.mono (by omega)) (fun _ => pas (takes_of rfl rfl rfl rfl)))))
    (dss_one (ds_ret de_non))
    dss_nil)
    (dss_cons (ds_while (dt_view 2 (dt_cmp ok_lt (de_fld A.kc_Reader A.na_Reader_of_at (de_var 2)) (de_callB ok_len A.n_len FP.boot_len (da_cons (de_var 1) da_nil))))
    (dss_one (ds_ifX (dtx_not (dtx_val (dx_meth0 2 A.kc_Reader G_Reader_go_on (fun _ => hr.mono (by omega)) (fun _ => pas (takes_of rfl rfl rfl rfl)))))
    (dss_one (ds_ret de_non))
    dss_nil)) (fun _ => passes_of rfl))
    (dss_cons (ds_frzO 2 (ds_set (i := 3) (de_callTy ok_tuple A.n_tuple FP.boot_tuple (da_cons (de_fld A.kc_Reader A.na_Reader_of_nodes (de_var 2)) da_nil)) (fun _ => sc_nodes_of.nd)))
    (dss_one (ds_ret (de_if (dt_w (dw_and (dt_cmp (ok_eq (fun _ => hr.r.units)) (de_callB ok_len A.n_len FP.boot_len (da_cons (de_fld A.kc_Reader A.na_Reader_of_open (de_var 2)) da_nil)) de_int) (dw_and1 (dt_val (de_call G_are_nodes (fun _ => hr.mono (by omega)) (fun _ => pas (takes_of rfl rfl rfl rfl)) (da_cons (de_var 3) (da_cons de_bl da_nil))))))) (de_var 3) de_non))))))))),  fun ds Q Ex hl hf => ?_⟩
  match ds, hl, hf with
  | [.str z], _, ⟨hz, hq⟩ =>
    change (_ : DTS) _ [Sl.d (.str z), Sl.no, Sl.no, Sl.no]
    refine seq_v (tkD (tkP z.cps.toList)) (ev_if (b := true) (b_v fun Q E q => ⟨true, kit_ss, q⟩) (fun _ => ev_call (a1 (fun Q E q => q) a0) rfl fun Q E q => ⟨hz, q⟩) fun h => by cases h) ?_
    cases ht : tkP z.cps.toList with
    | none =>
      rw [rdG_none ht] at hq
      exact seq_ifT (b_v (ev_op (x := .non) (y := .non) (fun Q E q => q) (fun Q E q => q) fun Q q => q)) (ret_v .non (fun Q E q => q) hq)
    | some ts =>
    rw [rdG_some ht] at hq
    have ho := ok_toks hz ht
    refine seq_ifF (b_v (ev_op (x := .lst (ts.map .str)) (y := .non) (fun Q E q => q) (fun Q E q => q) fun Q q => q)) ?_
    refine seq_makeOA (ds := [.lst (ts.map .str)]) (a1 (fun Q E q => q) a0) rfl ⟨ts, rfl, fun as => ?_⟩
    refine ifX_not0 (m := "begin") (g := f_begin) rfl rfl ⟨ts, 0, [], [], rfl, ho, Nat.zero_le _, Nat.zero_le _, Nat.zero_le _, ?_, ?_⟩
    · intro e fs' as' ha
      have en : newF [] ts = none := by
        unfold newF
        have e : bindHd (bdF 0 []) ts = none := e
        rw [e]
      rw [rdTk_none en] at hq
      replace hq : Q .non := hq
      rw [blc_bl, Bool.not_false, bit_t]
      exact ret_v .non (fun Q E q => q) hq
    intro c r e j hj as' ha
    have e : bindHd (bdF 0 []) ts = some (c, r) := e
    have en : newF [] ts = if okG (r.headD "") = true ∧ szF [] + 1 ≤ 40 then some ([] ++ [⟨c, r.headD "", []⟩], r.tail) else none := by
      unfold newF
      rw [e]
    rw [blc_bl]
    by_cases hc : okG (r.headD "") = true
    case neg =>
      rw [if_neg (fun z => hc z.1)] at en
      rw [rdTk_none en] at hq
      replace hq : Q .non := hq
      have eb : (okG (r.headD "") && decide (([] : List Nod).length + 1 ≤ 40)) = false := by
        cases z : okG (r.headD "") with
        | false => rfl
        | true => exact absurd z hc
      rw [eb, Bool.not_false, bit_t]
      exact ret_v .non (fun Q E q => q) hq
    rw [if_pos ⟨hc, by show 0 + 1 ≤ 40; decide⟩] at en
    rw [hc]
    rw [rdTk_some en] at hq
    have ets := (new0_toks en).2
    have esz := newF_sz en
    have est : runP [⟨c, r.headD "", []⟩] r.tail = runP ([] ++ [⟨c, r.headD "", []⟩]) r.tail := rfl
    generalize hR : runP ([] ++ [⟨c, r.headD "", []⟩]) r.tail = R at hq est
    have hjt : ts.drop (j + 1) = r.tail := by rw [← hj, List.tail_drop]
    have estart : rdF ts (j + 1) ([] ++ [(c, r.headD "", 0)]) ([] ++ [(([] : List Nod).length, (([] : List (Nat × Nat)).getLast?.map (·.2)).getD 0 + c)]) = rdF ts (j + 1) (nodesF [⟨c, r.headD "", []⟩]) (openF 0 0 [⟨c, r.headD "", []⟩]) := by
      unfold nodesF openF openF
      rw [nodesTs]
      rfl
    rw [estart]
    refine seq_while (fun m ρ => ∃ as' j F, ρ = [Sl.d (.str z), Sl.d (.lst (ts.map .str)), Sl.ow "Reader" as' (rdF ts j (nodesF F) (openF 0 0 F)), Sl.no] ∧ F ≠ [] ∧ szF F ≤ 40 ∧ toksF 0 F ++ ts.drop j = ts ∧ runP F (ts.drop j) = R ∧ m = (ts.drop j).length) (ts.drop (j + 1)).length ⟨as', j + 1, [⟨c, r.headD "", []⟩], rfl, by simp, esz, by rw [hjt]; exact ets, by rw [hjt]; exact est, rfl⟩ ?_
    rintro m ρ ⟨as2, j2, F, rfl, hF, hsz, htk, hrun, rfl⟩
    have tw : EvT (dViewT 2 (dB (dOp rdLt (dFld "Reader" "of_at" (dVar 2)) (dCB rdLen (dCons (dVar 1) dNil))))) [Sl.d (.str z), Sl.d (.lst (ts.map .str)), Sl.ow "Reader" as2 (rdF ts j2 (nodesF F) (openF 0 0 F)), Sl.no] (decide (j2 < ts.length)) := t_view rfl (b_v (ev_op (x := .int (j2 : Nat)) (y := .int ((ts.map D.str).length : Nat)) (ev_fld (fs := toDs (rdF ts j2 (nodesF F) (openF 0 0 F))) (fun Q E q => q) rfl) (ev_lenL (fun Q E q => q)) fun Q q => by
      show Q (.bl (decide ((j2 : Int) < ((ts.map D.str).length : Nat))))
      rw [List.length_map, show decide ((j2 : Int) < (ts.length : Nat)) = decide (j2 < ts.length) from decide_eq_decide.mpr ⟨fun h => by omega, fun h => by omega⟩]
      exact q))
    refine tw _ _ ?_
    have hts := ho.n
    by_cases hj2 : j2 < ts.length
    · rw [decide_eq_true hj2, bit_t]
      have hlf := len_sz F
      have hbf := bd_toks F 0
      have htl := congrArg List.length htk
      rw [List.length_append] at htl
      cases hd : ts.drop j2 with
      | nil =>
        have := congrArg List.length hd
        rw [List.length_drop, List.length_nil] at this
        omega
      | cons t r2 =>
      rw [hd] at hrun
      refine ifX_not0 (m := "go_on") (g := f_goon) rfl rfl ⟨ts, j2, F, rfl, ho, hF, hsz, by omega, by omega, ?_, ?_⟩
      · intro e fs' as3 h3
        rw [hd] at e
        rw [runP_none e] at hrun
        rw [← hrun] at hq
        replace hq : Q .non := hq
        rw [blc_bl, Bool.not_false, bit_t]
        exact ret_v .non (fun Q E q => q) hq
      · intro F' r' e j3 hj3 as3 h3
        rw [hd] at e
        have hlen := go_len e
        rw [runP_some e] at hrun
        have htk2 := (go_toks hF e)
        refine ⟨(ts.drop j3).length, by rw [hj3]; exact hlen, as3, j3, F', rfl, htk2.1, go_sz hF hsz e, ?_, by rw [hj3]; exact hrun, rfl⟩
        rw [hj3, htk2.2, ← hd]
        exact htk
    rw [decide_eq_false hj2, bit_f]
    have hd : ts.drop j2 = [] := List.drop_of_length_le (by omega)
    rw [hd, runP_nil] at hrun
    rw [hd, List.append_nil] at htk
    rw [← hrun] at hq
    refine seq_frzO rfl ?_
    refine seq_v (.tup ((nodesF F).map nodD)) (ev_cb (a1 (d := .lst ((nodesF F).map nodD)) (ev_fld (fs := toDs (rdF ts j2 (nodesF F) (openF 0 0 F))) (fun Q E q => q) rfl) a0) fun Q q => q) ?_
    have el : EvT (dB (dOp rdEq (dCB rdLen (dCons (dFld "Reader" "of_open" (dVar 2)) dNil)) (dC (.int 1)))) [Sl.d (.str z), Sl.d (.lst (ts.map .str)), Sl.d (.ins "Reader" (toDs (rdF ts j2 (nodesF F) (openF 0 0 F)))), Sl.d (.tup ((nodesF F).map nodD))] (decide (F.length = 1)) := b_v (ev_op (x := .int (((openF 0 0 F).map opD).length : Nat)) (y := .int 1) (ev_lenL (ev_fld (fs := toDs (rdF ts j2 (nodesF F) (openF 0 0 F))) (fun Q E q => q) rfl)) (fun Q E q => q) fun Q q => eq_int (by
      rw [List.length_map, open_len, show decide (((F.length : Nat) : Int) = 1) = decide (F.length = 1) from decide_eq_decide.mpr ⟨fun h => by omega, fun h => by omega⟩]
      exact q))
    match F, hF, htk, el, hq with
    | [f], _, htk, el, hq =>
      have hnd : nodesF [f] = nodesT (.mk f.b f.h f.as) := by rw [nodesT]; rfl
      have htk : toksT 0 (.mk f.b f.h f.as) = ts := by
        rw [← htk, toksT]
        rfl
      have hns := okNs_toks ho htk
      dsimp only at hq
      rw [hnd] at el ⊢
      refine ret_v (if areG true (nodesD (.mk f.b f.h f.as)) = true then nodesD (.mk f.b f.h f.as) else .non) (ev_if (b := areG true (nodesD (.mk f.b f.h f.as))) (and_t (el.eq rfl) (b_v (ev_call (a1 (fun Q E q => q) (a1 (fun Q E q => q) a0)) rfl fun Q E q => ⟨hns, q⟩))) (fun h => Ev.eq (fun Q E q => q) (by rw [if_pos h])) fun h => Ev.eq (fun Q E q => q) (by rw [if_neg (by rw [h]; exact Bool.false_ne_true)])) ?_
      by_cases h : areG true (nodesD (.mk f.b f.h f.as)) = true
      · rw [if_pos h] at hq ⊢
        exact hq
      · rw [if_neg h] at hq ⊢
        exact hq
    | f :: g :: r3, _, _, el, hq =>
      refine ret_v .non (ev_if (b := false) (and_f (el.eq (decide_eq_false (by rw [List.length_cons, List.length_cons]; omega)))) (fun h => by cases h) fun _ => (fun Q E q => q)) hq
theorem ok_Program_read {P : Program} {w : World} {mg : Gm} {base : Heap} {Z : Ads} (A : All mg Z) (G_Program___init__ : InitOk P w mg base 5 "Program" Z.a_Program 1 f_initPN) (G_are_nodes : DefOk P w mg base 4 "are_nodes" 2 f_arenodesG) (G_nodes_of : DefOk P w mg base 7 "nodes_of" 1 f_nodesof) : CMethOk P w mg base 8 Z.a_Program "read" 2 f_progread := by
  refine mkCMeth (N := ["cls", "text", "nodes"]) (ps := ["cls", "text"]) A.d_Program_read sc_Program_read (fun _ _ _ _ _ _ us hl => match us, hl with | [_, _], _ => rfl) fun fa cdv Ar outer s H E hr => ⟨_,
    (dss_cons (ds_set (i := 2) (de_call G_nodes_of (fun _ => hr.mono (by omega)) (fun _ => pas (takes_of rfl rfl rfl rfl)) (da_cons (de_var 1) da_nil)) (fun _ => sc_Program_read.nd))
    (dss_cons (ds_if (dt_w (dw_or (dt_cmp ok_is (de_var 2) de_non) (dw_or1 (dt_not (dt_val (de_call G_are_nodes (fun _ => hr.mono (by omega)) (fun _ => pas (takes_of rfl rfl rfl rfl)) (da_cons (de_var 2) (da_cons de_bl da_nil))))))))
    (dss_one (ds_raiseA (k := 0) veB veS A.xc_ParseError (fun _ => hr.mono (by omega)) (fun _ => takes_of rfl rfl rfl rfl) de_non))
    dss_nil)
    (dss_one (ds_ret (de_makeV 0 A.kc_Program G_Program___init__ (fun _ => hr.mono (by omega)) (fun _ => pas (takes_of rfl rfl rfl rfl)) (da_cons (de_var 2) da_nil)))))),  fun ds Q Ex hl hf => ?_⟩
  match ds, hl, hf with
  | [.cl _, .str z], _, ⟨rfl, hz, hq1, hq2⟩ =>
    change (_ : DTS) _ [Sl.d (.cl "Program"), Sl.d (.str z), Sl.no]
    refine seq_v (match rdG z with | none => .non | some p => nodesD p) (ev_call (a1 (fun Q E q => q) a0) rfl fun Q E q => ⟨hz, q⟩) ?_
    unfold rdS at hq1 hq2
    cases hG : rdG z with
    | none =>
      rw [hG] at hq2
      exact seq_ifT (or_t (b_v (ev_op (x := .non) (y := .non) (fun Q E q => q) (fun Q E q => q) fun Q q => q))) (hq2 rfl)
    | some p =>
    rw [hG] at hq1 hq2
    have hns := okNs_rdG hz hG
    have ec : Ev (dCall f_arenodesG 2 (dCons (dVar 2) (dCons (dC (.bl false)) dNil))) [Sl.d (.cl "Program"), Sl.d (.str z), Sl.d (nodesD p)] (.bl (areP (nodesD p))) := ev_call (a1 (fun Q E q => q) (a1 (fun Q E q => q) a0)) rfl fun Q E q => ⟨hns, by rw [areG_false]; exact q⟩
    have e0 : EvT (dB (dOp rdIs (dVar 2) (dC .non))) [Sl.d (.cl "Program"), Sl.d (.str z), Sl.d (nodesD p)] false := b_v (ev_op (x := nodesD p) (y := .non) (fun Q E q => q) (fun Q E q => q) fun Q q => q)
    by_cases ha : areP (nodesD p) = true
    · rw [ha] at ec
      refine seq_ifF (or_f e0 (not_v (b := true) (b_v ec))) ?_
      have hv := hq1 p (if_pos ha)
      refine ⟨rfl, rfl, .inl ⟨hns, rfl, fun xs e _ => ?_, fun e => ?_⟩⟩
      · cases e
        rw [progF_T]
        exact hv
      · rw [ha] at e
        cases e
    · have ha2 : areP (nodesD p) = false := by
        cases q : areP (nodesD p) with
        | true => exact absurd q ha
        | false => rfl
      rw [ha2] at ec
      exact seq_ifT (or_f e0 (not_v (b := false) (b_v ec))) (hq2 (if_neg ha))
theorem ok__law_read {P : Program} {w : World} {mg : Gm} {base : Heap} {Z : Ads} (A : All mg Z) (G_Program_nodes : PropOk P w mg base 1 Z.a_Program "nodes" f_nodesT) (G_Program_read : CMethOk P w mg base 8 Z.a_Program "read" 2 f_progread) : DefOk P w mg base 10 "_law_read" 1 f_lawread := by
  refine mkDef (N := ["_law_text", "error"]) (ps := ["_law_text"]) A.d__law_read sc__law_read (fun _ _ _ _ _ _ us hl => match us, hl with | [_], _ => rfl) fun fa cdv Ar outer s H E hr => ⟨_,
    (dss_one (ds_tryM (fun _ => takes_of rfl rfl rfl rfl) (fun W => (dss_one (ds_ret (de_prop A.kc_Program G_Program_nodes (fun _ => hr.mono (by omega)) (de_cmeth A.kc_Program G_Program_read (fun _ => hr.mono (by omega)) (fun j => pas j.2.1) (da_cons (de_var 0) da_nil))))))
    (dh_as (i := 1) (fun _ => ⟨rfl, by decide, .inl A.xc_ParseError.nm⟩) A.cam_ParseError (fun _ _ _ => (dss_one (ds_ret (de_xf (i := 1) A.xc_ParseError))))
    dh_nil) (fun _ => sc__law_read.nd))),  fun ds Q Ex hl hf => ?_⟩
  match ds, hl, hf with
  | [.str z], _, ⟨hz, hq⟩ =>
    change (_ : DTS) _ [Sl.d (.str z), Sl.no]
    refine try_m fun N' hrt hrs => ?_
    have hq' : N'.rt (rdD z) [Sl.d (.str z), Sl.no] := by
      rw [hrt]
      exact hq
    refine ⟨rfl, rfl, hz, fun p hp => ⟨rfl, p, rfl, ?_⟩, fun hn => ?_⟩
    · unfold rdD at hq'
      rw [hp] at hq'
      exact hq'
    · unfold rdD at hq
      rw [hn] at hq
      refine hrs _ ⟨by show ("ParseError" : Str) ∈ (_ : List Str); decide +kernel, ?_⟩
      have hy : decide (("ParseError" : Str) ∈ (["ParseError"] : List Str)) = true := by decide +kernel
      show bit (decide (("ParseError" : Str) ∈ (["ParseError"] : List Str))) _ _
      rw [hy]
      intro a cls d
      exact ⟨rfl, rfl, rfl, rfl, .non, rfl, hq⟩
end K16
namespace K16
open PySem L2 FP
variable [FP.Tabl]
open KP
theorem ok__law_is_head {P : Program} {w : World} {mg : Gm} {base : Heap} {Z : Ads} (A : All mg Z) : DefOk P w mg base 2 "_law_is_head" 2 f_ishead := by
  refine mkDef (N := ["_law_word", "_law_bound", "_law_at", "_law_sign"]) (ps := ["_law_word", "_law_bound"]) A.d__law_is_head sc__law_is_head (fun _ _ _ _ _ _ us hl => match us, hl with | [_, _], _ => rfl) fun fa cdv Ar outer s H E hr => ⟨_,
    (dss_cons (ds_if (dt_cmp ok_in (de_var 0) (de_lc (own := [("_law_at", 2)]) (fun _ => sc__law_is_head.nd) (di_range1 A.n_range (da_cons (de_var 1) da_nil)) (fun _ => blkOk_by (by kernel_rfl)) (dg_name (i := 2) (fun _ => sc__law_is_head.nd)) dts_nil (de_op ok_add de_str (de_callTy ok_str A.n_str FP.boot_str (da_cons (de_var 2) da_nil)))))
    (dss_one (ds_ret de_bl))
    dss_nil)
    (dss_one (ds_ret (de_and (de_chain ok_le ok_le de_int (de_callB ok_len A.n_len FP.boot_len (da_cons (de_var 0) da_nil)) de_int) (de_one (de_cmp (ok_eq (fun _ => hr.r.units)) (de_lc (own := [("_law_sign", 3)]) (fun _ => sc__law_is_head.nd) (di_str (de_var 0)) (fun _ => blkOk_by (by kernel_rfl)) (dg_name (i := 3) (fun _ => sc__law_is_head.nd)) (dts_one (dt_not (dt_chain ok_le ok_le de_str (de_var 3) de_str))) (de_var 3)) (de_lst da_nil))))))),  fun ds Q Ex hl hf => ?_⟩
  match ds, hl, hf with
  | [.str w, .int _], _, ⟨inner, rfl, hw, hi, hq⟩ =>
    have e0 : startD 4 [.str w, .int (inner : Nat)] = [Sl.d (.str w), Sl.d (.int (inner : Nat)), Sl.no, Sl.no] := rfl
    have hnN : (["_law_word", "_law_bound", "_law_at", "_law_sign"] : List Str).length = 4 := rfl
    rw [hnN, e0]
    clear e0 hnN
    have ein : Ev (dOp rdIn (dVar 0) (dLc (dIRng1 (dCons (dVar 1) dNil)) (.one 2) dYes (dOp rdAdd (dC (.str "x")) (dCB rdStr (dCons (dVar 2) dNil))) [2])) [Sl.d (.str w), Sl.d (.int (inner : Nat)), Sl.no, Sl.no] (.bl (decide (w ∈ xsL 0 inner))) := ev_op (x := .str w) (y := .lst ((xsL 0 inner).map .str)) (fun Q E q => q) (ev_namesG hi (fun Q E q => q) fun k => rfl) fun Q q => in_strs q (by rw [xsL_len]; exact hi)
    unfold headB at hq
    cases hm : decide (w ∈ xsL 0 inner) with
    | true =>
      rw [hm] at ein hq
      exact seq_ifT (b_v ein) (ret_v (.bl true) (fun Q E q => q) hq)
    | false =>
      rw [hm] at ein hq
      refine seq_ifF (b_v ein) ?_
      exact ret_v (.bl (isWordS w)) (Ev.eq (ev_andV (ev_chainLen hw (fun Q E q => q)) fun _ => ev_letters hw rfl fun c => rfl) rfl) hq
theorem ok__law_closing {P : Program} {w : World} {mg : Gm} {base : Heap} {Z : Ads} (A : All mg Z) : DefOk P w mg base 1 "_law_closing" 1 f_closing := by
  refine mkDef (N := ["_law_text", "_law_deep", "_law_at"]) (ps := ["_law_text"]) A.d__law_closing sc__law_closing (fun _ _ _ _ _ _ us hl => match us, hl with | [_], _ => rfl) fun fa cdv Ar outer s H E hr => ⟨_,
    (dss_cons (ds_set (i := 1) de_int (fun _ => sc__law_closing.nd))
    (dss_cons (ds_for (di_range1 A.n_range (da_cons (de_callB ok_len A.n_len FP.boot_len (da_cons (de_var 0) da_nil)) da_nil)) (dg_name (i := 2) (fun _ => sc__law_closing.nd))
    (dss_cons (ds_set (i := 1) (de_op ok_sub (de_op ok_add (de_var 1) (de_callTy ok_int A.n_int FP.boot_int (da_cons (de_cmp (ok_eq (fun _ => hr.r.units)) (de_ix (de_var 0) (de_var 2)) de_str) da_nil))) (de_callTy ok_int A.n_int FP.boot_int (da_cons (de_cmp (ok_eq (fun _ => hr.r.units)) (de_ix (de_var 0) (de_var 2)) de_str) da_nil))) (fun _ => sc__law_closing.nd))
    (dss_one (ds_if (dt_cmp (ok_eq (fun _ => hr.r.units)) (de_var 1) de_int)
    (dss_one (ds_ret (de_var 2)))
    dss_nil))) (fun _ => passes_of rfl))
    (dss_one (ds_ret de_non)))),  fun ds Q Ex hl hf => ?_⟩
  match ds, hl, hf with
  | [.str z], _, ⟨r, hzr, hz, hq⟩ =>
    obtain ⟨zs, rfl⟩ : ∃ zs, z = SX.S zs := ⟨_, (SX.S_tl z).symm⟩
    replace hzr : zs = 40 :: r := hzr
    have hzl := hz.1
    rw [SX.S_len] at hzl
    have e0 : startD 3 [.str (SX.S zs)] = [Sl.d (.str (SX.S zs)), Sl.no, Sl.no] := rfl
    have hnN : (["_law_text", "_law_deep", "_law_at"] : List Str).length = 3 := rfl
    rw [hnN, e0]
    clear e0 hnN
    refine seq_v (.int ((0 : Nat) : Int)) (fun Q E q => q) ?_
    refine seq_for (dnR 0 zs.length) (fun Q E q => ?_) ?_
    · refine ev_rng (n := zs.length) hzl (ev_cb (d := .int (zs.length : Nat)) (a1 (d := .str (SX.S zs)) (fun Q E q => q) a0) fun Q q => ⟨len_ok hz, by rw [SX.S_len]; exact q⟩) Q E ?_
      rw [dnR_all]
      exact q
    refine for_st (fun rest ρ => ∃ (k d : Nat) (t : Sl), rest = dnR k (zs.length - k) ∧ k ≤ zs.length ∧ ρ = [Sl.d (.str (SX.S zs)), Sl.d (.int (d : Nat)), t] ∧ ((k = 0 ∧ d = 0) ∨ (1 ≤ k ∧ 1 ≤ d ∧ clD 1 (closeL 1 r) = clD k (closeL d (zs.drop k))))) ?_ ?_ _ _ ⟨0, 0, _, rfl, Nat.zero_le _, rfl, .inl ⟨rfl, rfl⟩⟩
    · rintro ρ ⟨k, d, t, hk, hkl, rfl, hi⟩
      have hk2 : zs.length - k = 0 := by
        cases e : zs.length - k with
        | zero => rfl
        | succ n =>
          rw [e, dnR_succ] at hk
          cases hk
      rcases hi with ⟨h1, h2⟩ | ⟨h1, h2, h3⟩
      · rw [h1, hzr, List.length_cons] at hk2
        omega
      · rw [List.drop_of_length_le (by omega), closeL] at h3
        rw [h3] at hq
        replace hq : Q .non := hq
        dsimp only
        exact ret_v .non (fun Q E q => q) hq
    · rintro x rest ρ ⟨k, d, t, hk, hkl, rfl, hi⟩
      cases hn : zs.length - k with
      | zero =>
        rw [hn] at hk
        cases hk
      | succ n =>
      rw [hn, dnR_succ] at hk
      obtain ⟨hk1, hk2⟩ := List.cons.inj hk
      subst hk1
      have hlt : k < zs.length := by omega
      have hn2 : n = zs.length - (k + 1) := by omega
      rw [hn2] at hk2
      refine ⟨_, rfl, fun K hK => ?_⟩
      have e0 : ((0 : Int) + (k : Nat)) = (k : Nat) := by omega
      rw [e0]
      obtain ⟨c, hc⟩ : ∃ c, zs[k]? = some c := ⟨zs[k], List.getElem?_eq_getElem hlt⟩
      have hdr : zs.drop k = c :: zs.drop (k + 1) := by
        rw [List.drop_eq_getElem_cons hlt]
        rw [List.getElem?_eq_getElem hlt] at hc
        rw [Option.some.inj hc]
      have ev : ∀ v : Nat, (d : Int) + (if decide (c = 40) = true then 1 else 0) - (if decide (c = 41) = true then 1 else 0) = (v : Nat) → Ev (dOp rdSub (dOp rdAdd (dVar 1) (dCB rdInt (dCons (dOp rdEq (dOp rdIx (dVar 0) (dVar 2)) (dC (.str "("))) dNil))) (dCB rdInt (dCons (dOp rdEq (dOp rdIx (dVar 0) (dVar 2)) (dC (.str ")"))) dNil))) [Sl.d (.str (SX.S zs)), Sl.d (.int (d : Nat)), Sl.d (.int (k : Nat))] (.int (v : Nat)) := fun v hv => ev_op (x := .int ((d : Int) + (if decide (c = 40) = true then 1 else 0))) (y := .int (if decide (c = 41) = true then 1 else 0)) (ev_op (x := .int (d : Nat)) (y := .int (if decide (c = 40) = true then 1 else 0)) (fun Q E q => q) (ev_cb (a1 (d := .bl (decide (c = 40))) (ev_op (x := .str ⟨#[c]⟩) (y := .str "(") (ev_at (k := k) (fun Q E q => q) (fun Q E q => q) rfl hc hzl) (fun Q E q => q) fun Q q => eq_str (by rw [show decide ((⟨#[c]⟩ : Str) = "(") = decide (c = 40) from one_eq c 40]; exact q)) a0) fun Q q => q) fun Q q => q) (ev_cb (a1 (d := .bl (decide (c = 41))) (ev_op (x := .str ⟨#[c]⟩) (y := .str ")") (ev_at (k := k) (fun Q E q => q) (fun Q E q => q) rfl hc hzl) (fun Q E q => q) fun Q q => eq_str (by rw [show decide ((⟨#[c]⟩ : Str) = ")") = decide (c = 41) from one_eq c 41]; exact q)) a0) fun Q q => q) fun Q q => by
        show Q (.int ((d : Int) + (if decide (c = 40) = true then 1 else 0) - (if decide (c = 41) = true then 1 else 0)))
        rw [hv]
        exact q
      have et : ∀ v : Nat, EvT (dB (dOp rdEq (dVar 1) (dC (.int 0)))) [Sl.d (.str (SX.S zs)), Sl.d (.int (v : Nat)), Sl.d (.int (k : Nat))] (decide (v = 0)) := fun v => b_v (ev_op (x := .int (v : Nat)) (y := .int 0) (fun Q E q => q) (fun Q E q => q) fun Q q => eq_int (by
        rw [show decide (((v : Nat) : Int) = 0) = decide (v = 0) from decide_eq_decide.mpr ⟨fun h => by omega, fun h => by omega⟩]
        exact q))
      have hgo : ∀ v : Nat, 1 ≤ v → (d : Int) + (if decide (c = 40) = true then 1 else 0) - (if decide (c = 41) = true then 1 else 0) = (v : Nat) → clD 1 (closeL 1 r) = clD (k + 1) (closeL v (zs.drop (k + 1))) → dSeq (dSet 1 (dOp rdSub (dOp rdAdd (dVar 1) (dCB rdInt (dCons (dOp rdEq (dOp rdIx (dVar 0) (dVar 2)) (dC (.str "("))) dNil))) (dCB rdInt (dCons (dOp rdEq (dOp rdIx (dVar 0) (dVar 2)) (dC (.str ")"))) dNil)))) (dIfS (dB (dOp rdEq (dVar 1) (dC (.int 0)))) (dRet (dVar 2)) dNext) { { nx := fun _ => Q .non, rt := fun d _ => Q d, bk := fun _ => False, ct := fun _ => False, rs := fun x _ => Ex x : Nd } with nx := K, ct := K, bk := fun _ => False } [Sl.d (.str (SX.S zs)), Sl.d (.int (d : Nat)), Sl.d (.int (k : Nat))] := fun v h1 hv hcl => seq_v (.int (v : Nat)) (ev v hv) (end_ifF ((et v).eq (decide_eq_false (by omega))) (hK _ ⟨k + 1, v, _, hk2, hlt, rfl, .inr ⟨by omega, h1, hcl⟩⟩))
      rcases hi with ⟨h1, h2⟩ | ⟨h1, h2, h3⟩
      · subst h1
        subst h2
        have hc40 : c = 40 := by
          rw [hzr] at hc
          exact (Option.some.inj hc).symm
        refine hgo 1 (Nat.le_refl 1) (by rw [hc40]; decide) ?_
        rw [hzr]
        rfl
      · rw [hdr, closeL] at h3
        by_cases c40 : c = 40
        · rw [if_pos c40, clD_map] at h3
          exact hgo (d + 1) (by omega) (by rw [c40]; simp) h3
        · by_cases c41 : c = 41
          · rw [if_neg c40, if_pos c41] at h3
            by_cases hd1 : d ≤ 1
            · rw [if_pos hd1] at h3
              have hd1 : d = 1 := by omega
              subst hd1
              refine seq_v (.int ((0 : Nat) : Int)) (ev 0 (by rw [c41]; decide)) (end_ifT ((et 0).eq rfl) (ret_v (.int (k : Nat)) (fun Q E q => q) ?_))
              rw [h3] at hq
              exact hq
            · rw [if_neg hd1, clD_map] at h3
              exact hgo (d - 1) (by omega) (by rw [c41, show decide ((41 : Nat) = 40) = false by decide, show decide ((41 : Nat) = 41) = true by decide, if_neg Bool.false_ne_true, if_pos rfl]; omega) h3
          · rw [if_neg c40, if_neg c41, clD_map] at h3
            exact hgo d h2 (by rw [decide_eq_false c40, decide_eq_false c41, if_neg Bool.false_ne_true]; omega) h3
end K16
namespace K16
open PySem L2 FP
variable [FP.Tabl]
open KP
theorem nv__law_told {P : Program} {w : World} {mg : Gm} {base : Heap} {Z : Ads} {k : Nat} (A : All mg Z) : DefOk P w mg base k "_law_told" 2 (f_ltold 0) :=
  (DefOk.never (ps := ["_law_text", "_law_bound"]) A.d__law_told (fun _ _ _ _ _ _ us hl => match us, hl with | [_, _], _ => rfl)).mono (Nat.le_refl _) (nope_ltold)
theorem ok__law_told {P : Program} {w : World} {mg : Gm} {base : Heap} {Z : Ads} {d : Nat} (A : All mg Z) (G__law_closing : DefOk P w mg base 1 "_law_closing" 1 f_closing) (G__law_is_head : DefOk P w mg base 2 "_law_is_head" 2 f_ishead) (G__law_told : DefOk P w mg base (d + 3) "_law_told" 2 (f_ltold d)) : DefOk P w mg base (d + 4) "_law_told" 2 (f_ltold (d + 1)) := by
  refine mkDef (N := ["_law_text", "_law_bound", "_law_binders", "_law_head", "_law_blank", "_law_rest", "_law_args", "_law_names", "_law_dot", "_law_end", "_law_inner", "_law_one", "_law_at"]) (ps := ["_law_text", "_law_bound"]) A.d__law_told sc__law_told (fun _ _ _ _ _ _ us hl => match us, hl with | [_, _], _ => rfl) fun fa cdv Ar outer s H E hr => ⟨_,
    (dss_cons (ds_set (i := 2) de_int (fun _ => sc__law_told.nd))
    (dss_cons (ds_if (dt_cmp (ok_eq (fun _ => hr.r.units)) (de_slice (de_var 0) do_none (do_some de_int)) de_str)
    (dss_cons (ds_asg (de_partition (de_slice (de_var 0) (do_some de_int) do_none) de_str) (dg_tup (dgs_cons (dg_name (i := 7) (fun _ => sc__law_told.nd)) (dgs_cons (dg_name (i := 8) (fun _ => sc__law_told.nd)) (dgs_cons (dg_name (i := 0) (fun _ => sc__law_told.nd)) dgs_nil)))))
    (dss_cons (ds_set (i := 2) (de_callB ok_len A.n_len FP.boot_len (da_cons (de_split (de_var 7) de_str) da_nil)) (fun _ => sc__law_told.nd))
    (dss_one (ds_if (dt_w (dw_or (dt_cmp (ok_ne (fun _ => hr.r.units)) (de_split (de_var 7) de_str) (de_lc (own := [("_law_at", 12)]) (fun _ => sc__law_told.nd) (di_range1 A.n_range (da_cons (de_var 2) da_nil)) (fun _ => blkOk_by (by kernel_rfl)) (dg_name (i := 12) (fun _ => sc__law_told.nd)) dts_nil (de_op ok_add de_str (de_callTy ok_str A.n_str FP.boot_str (da_cons (de_op ok_add (de_var 1) (de_var 12)) da_nil))))) (dw_or1 (dt_cmp (ok_eq (fun _ => hr.r.units)) (de_var 8) de_str))))
    (dss_one (ds_ret de_non))
    dss_nil))))
    dss_nil)
    (dss_cons (ds_asg (de_partition (de_var 0) de_str) (dg_tup (dgs_cons (dg_name (i := 3) (fun _ => sc__law_told.nd)) (dgs_cons (dg_name (i := 4) (fun _ => sc__law_told.nd)) (dgs_cons (dg_name (i := 5) (fun _ => sc__law_told.nd)) dgs_nil)))))
    (dss_cons (ds_if (dt_w (dw_or (dt_not (dt_val (de_call G__law_is_head (fun _ => hr.mono (by omega)) (fun _ => pas (takes_of rfl rfl rfl rfl)) (da_cons (de_var 3) (da_cons (de_op ok_add (de_var 1) (de_var 2)) da_nil))))) (dw_or1 (dt_w (dw_and (dt_cmp (ok_ne (fun _ => hr.r.units)) (de_var 4) de_str) (dw_and1 (dt_cmp (ok_eq (fun _ => hr.r.units)) (de_var 5) de_str)))))))
    (dss_one (ds_ret de_non))
    dss_nil)
    (dss_cons (ds_setO (i := 6) (do_lst da_nil) (fun _ => sc__law_told.nd))
    (dss_cons (ds_while (dt_cmp (ok_ne (fun _ => hr.r.units)) (de_var 5) de_str)
    (dss_cons (ds_set (i := 9) (de_if (dt_cmp (ok_eq (fun _ => hr.r.units)) (de_ix (de_var 5) de_int) de_str) (de_call G__law_closing (fun _ => hr.mono (by omega)) (fun _ => pas (takes_of rfl rfl rfl rfl)) (da_cons (de_var 5) da_nil)) (de_op ok_sub (de_callB ok_len A.n_len FP.boot_len (da_cons (de_ix (de_partition (de_var 5) de_str) de_int) da_nil)) de_int)) (fun _ => sc__law_told.nd))
    (dss_cons (ds_if (dt_w (dw_or (dt_cmp ok_is (de_var 9) de_non) (dw_or1 (dt_cmp ok_gt (de_lenO 6 A.n_len) de_int))))
    (dss_one (ds_ret de_non))
    dss_nil)
    (dss_cons (ds_set (i := 10) (de_if (dt_cmp (ok_eq (fun _ => hr.r.units)) (de_ix (de_var 5) de_int) de_str) (de_slice (de_var 5) (do_some de_int) (do_some (de_var 9))) (de_slice (de_var 5) do_none (do_some (de_op ok_add (de_var 9) de_int)))) (fun _ => sc__law_told.nd))
    (dss_cons (ds_set (i := 11) (de_call G__law_told (fun _ => hr.mono (by omega)) (fun _ => pas (takes_of rfl rfl rfl rfl)) (da_cons (de_var 10) (da_cons (de_op ok_add (de_var 1) (de_var 2)) da_nil))) (fun _ => sc__law_told.nd))
    (dss_cons (ds_if (dt_w (dw_or (dt_cmp ok_is (de_var 11) de_non) (dw_or1 (dt_cmp (ok_ne (fun _ => hr.r.units)) (de_or (de_cmp ok_gt (de_ix (de_var 11) de_int) de_int) (de_one (de_cmp (ok_neT0 (fun _ => hr.r.units)) (de_ix (de_var 11) de_int) (de_tup da_nil)))) (de_cmp (ok_eq (fun _ => hr.r.units)) (de_ix (de_var 5) de_int) de_str)))))
    (dss_one (ds_ret de_non))
    dss_nil)
    (dss_cons (ds_append 6 (de_var 11) (pe := fun _ _ h => ps_expr (pe_bm PySem.F.plainAttrs_list PySem.F.slot_list_append PySem.F.type_list_append mt_append (pv 6) (pa_cons h pa_nil))))
    (dss_cons (ds_if (dt_w (dw_and (dt_cmp (ok_ne (fun _ => hr.r.units)) (de_slice (de_var 5) (do_some (de_op ok_add (de_var 9) de_int)) do_none) de_str) (dw_and1 (dt_w (dw_or (dt_cmp (ok_ne (fun _ => hr.r.units)) (de_ix (de_var 5) (de_op ok_add (de_var 9) de_int)) de_str) (dw_or1 (dt_cmp (ok_eq (fun _ => hr.r.units)) (de_slice (de_var 5) (do_some (de_op ok_add (de_var 9) de_int)) do_none) de_str)))))))
    (dss_one (ds_ret de_non))
    dss_nil)
    (dss_one (ds_set (i := 5) (de_slice (de_var 5) (do_some (de_op ok_add (de_var 9) de_int)) do_none) (fun _ => sc__law_told.nd)))))))))) (fun _ => passes_of rfl))
    (dss_one (ds_frz 6 (ds_ret (de_tup (da_cons (de_var 2) (da_cons (de_var 3) (da_cons (de_callTy ok_tuple A.n_tuple FP.boot_tuple (da_cons (de_var 6) da_nil)) da_nil))))))))))))),  fun ds Q Ex hl hf => ?_⟩
  match ds, hl, hf with
  | [.str z, .int _], _, ⟨bd, rfl, hz, hlen, hdeep, hq⟩ =>
    obtain ⟨zs, rfl⟩ : ∃ zs, z = SX.S zs := ⟨_, (SX.S_tl z).symm⟩
    have hzl := hz.1
    rw [SX.S_len] at hzl hlen
    have hzc : ∀ c ∈ zs, c < 1114112 := hz.2
    replace hdeep : deepL zs < d + 1 := hdeep
    replace hq : Q (ptOD (toldR (d + 1) zs bd)) := hq
    have e0 : startD 13 [.str (SX.S zs), .int (bd : Nat)] = [Sl.d (.str (SX.S zs)), Sl.d (.int (bd : Nat)), Sl.no, Sl.no, Sl.no, Sl.no, Sl.no, Sl.no, Sl.no, Sl.no, Sl.no, Sl.no, Sl.no] := rfl
    have hnN : (["_law_text", "_law_bound", "_law_binders", "_law_head", "_law_blank", "_law_rest", "_law_args", "_law_names", "_law_dot", "_law_end", "_law_inner", "_law_one", "_law_at"] : List Str).length = 13 := rfl
    rw [hnN, e0]
    clear e0 hnN
    refine seq_v (.int ((0 : Nat) : Int)) (fun Q E q => q) ?_
    refine seq_joinG (fun ρ' => ∃ (b : Nat) (ys : List Nat) (s7 s8 : Sl), headP zs bd = some (b, ys) ∧ ρ' = [Sl.d (.str (SX.S ys)), Sl.d (.int (bd : Nat)), Sl.d (.int (b : Nat)), Sl.no, Sl.no, Sl.no, Sl.no, s7, s8, Sl.no, Sl.no, Sl.no, Sl.no]) (fun G hG => ?_) ?_
    · have et : EvT (dB (dOp rdEq (dSl (dVar 0) dONone (dOSome (dC (.int 1)))) (dC (.str "\\")))) [Sl.d (.str (SX.S zs)), Sl.d (.int (bd : Nat)), Sl.d (.int ((0 : Nat) : Int)), Sl.no, Sl.no, Sl.no, Sl.no, Sl.no, Sl.no, Sl.no, Sl.no, Sl.no, Sl.no] (decide (zs.take 1 = [92])) := b_v (ev_op (x := .str (SX.S (zs.take 1))) (y := .str "\\") (ev_slTo (i := 1) (fun Q E q => q) (fun Q E q => q) (by decide) hzl) (fun Q E q => q) fun Q q => eq_str (by rw [S_lit lit_lam]; exact q))
      cases zs with
      | nil => exact end_ifF (et.eq (decide_eq_false (by decide))) (hG _ ⟨0, [], _, _, rfl, rfl⟩)
      | cons c r =>
      by_cases hc : c = 92
      case neg => exact end_ifF (et.eq (decide_eq_false (by simpa using hc))) (hG _ ⟨0, c :: r, _, _, by rw [headP_cons, if_neg hc], rfl⟩)
      subst hc
      refine end_ifT (et.eq (decide_eq_true rfl)) ?_
      have hrl : r.length ≤ 899 := by
        rw [List.length_cons] at hlen
        omega
      have hrc : ∀ c ∈ r, c < 1114112 := fun c hc => hzc c (List.mem_cons_of_mem _ hc)
      have ep : Ev (dPartition (dSl (dVar 0) (dOSome (dC (.int 1))) dONone) (dC (.str ". "))) [Sl.d (.str (SX.S (92 :: r))), Sl.d (.int (bd : Nat)), Sl.d (.int ((0 : Nat) : Int)), Sl.no, Sl.no, Sl.no, Sl.no, Sl.no, Sl.no, Sl.no, Sl.no, Sl.no, Sl.no] (.tup [.str (Txt.partition (SX.S r) ". ").1, .str (Txt.partition (SX.S r) ". ").2.1, .str (Txt.partition (SX.S r) ". ").2.2]) := ev_partition (ev_slFrom (i := 1) (fun Q E q => q) (fun Q E q => q) (by decide) hzl) (fun Q E q => q) (by decide +kernel) (by rw [SX.S_len]; exact size_small (by show r.length ≤ 1000; omega))
      cases hp : TL.par dotS [] r with
      | none =>
        have hh : headP (92 :: r) bd = none := by
          rw [headP_cons, if_pos rfl, hp]
        rw [told_none d hh] at hq
        have e := SX.partition_none (b := dotS) (by decide) hp
        rw [lit_dot, e] at ep
        refine seq_asg (ρ' := [Sl.d (.str (SX.S [])), Sl.d (.int (bd : Nat)), Sl.d (.int ((0 : Nat) : Int)), Sl.no, Sl.no, Sl.no, Sl.no, Sl.d (.str (SX.S r)), Sl.d (.str (SX.S [])), Sl.no, Sl.no, Sl.no, Sl.no]) _ ep rfl ?_
        obtain ⟨k1, k2⟩ := split_bl hrc
        have es : ∀ s2 : Sl, Ev (dSplit (dVar 7) (dC (.str " "))) [Sl.d (.str (SX.S [])), Sl.d (.int (bd : Nat)), s2, Sl.no, Sl.no, Sl.no, Sl.no, Sl.d (.str (SX.S r)), Sl.d (.str (SX.S [])), Sl.no, Sl.no, Sl.no, Sl.no] (.lst ((Txt.split (SX.S r) (SX.S blS)).map .str)) := fun s2 => by
          rw [← lit_bl]
          exact ev_split (fun Q E q => q) (fun Q E q => q) (by decide +kernel) (by rw [SX.S_len]; exact size_small (by omega))
        generalize Txt.split (SX.S r) (SX.S blS) = ns at es k1 k2
        rw [List.length_cons] at hlen
        refine seq_v (.int (ns.length : Nat)) (Ev.eq (ev_lenL (es _)) (by rw [len_strs])) ?_
        exact end_ifT ((or_v (b_v (ev_op (x := .lst (ns.map .str)) (y := .lst ((xsL bd ns.length).map .str)) (es _) (Ev.eq (ev_lc (fun k : Nat => D.int ((0 : Int) + k)) (fun k => .str (xS (bd + k))) (xs := List.range ns.length) (ev_rng (by omega) (fun Q E q => q)) (size_small (by rw [List.length_range]; omega)) fun k hk => ⟨_, rfl, ev_xsG (n := bd + k) (by have := List.mem_range.mp hk; omega) (ev_op (x := .int (bd : Nat)) (y := .int ((0 : Int) + k)) (fun Q E q => q) (fun Q E q => q) fun Q q => by
          show Q (.int ((bd : Int) + ((0 : Int) + k)))
          rw [show (bd : Int) + ((0 : Int) + k) = ((bd + k : Nat) : Int) by omega]
          exact q)⟩) (by unfold xsL; rw [List.map_map]; rfl)) fun Q q => neStrsL k1 (fun t ht => by
          unfold xsL at ht
          obtain ⟨k, hk, rfl⟩ := List.mem_map.mp ht
          exact xS_ok _ (by have := List.mem_range.mp hk; omega)) q)) fun _ => b_v (ev_op (x := .str (SX.S [])) (y := .str "") (fun Q E q => q) (fun Q E q => q) fun Q q => eq_str (by rw [S_lit lit_nil, decide_eq_true rfl]; exact q))).eq (Bool.or_true _)) (ret_v .non (fun Q E q => q) hq)
      | some x =>
      obtain ⟨u, v⟩ := x
      have hru := par_sound (by decide) hp
      have hul : u.length ≤ r.length := by
        rw [hru, List.length_append, List.length_append]
        omega
      have huc : ∀ c ∈ u, c < 1114112 := fun c hc => hrc c (by rw [hru, List.append_assoc]; exact List.mem_append_left _ hc)
      have hh : headP (92 :: r) bd = if Txt.split (SX.S u) (SX.S blS) = xsL bd (Txt.split (SX.S u) (SX.S blS)).length then some ((Txt.split (SX.S u) (SX.S blS)).length, v) else none := by
        rw [headP_cons, if_pos rfl, hp]
      have e := SX.partition_some (b := dotS) (by decide) hp
      rw [lit_dot, e] at ep
      refine seq_asg (ρ' := [Sl.d (.str (SX.S v)), Sl.d (.int (bd : Nat)), Sl.d (.int ((0 : Nat) : Int)), Sl.no, Sl.no, Sl.no, Sl.no, Sl.d (.str (SX.S u)), Sl.d (.str (SX.S dotS)), Sl.no, Sl.no, Sl.no, Sl.no]) _ ep rfl ?_
      obtain ⟨k1, k2⟩ := split_bl huc
      have es : ∀ s2 : Sl, Ev (dSplit (dVar 7) (dC (.str " "))) [Sl.d (.str (SX.S v)), Sl.d (.int (bd : Nat)), s2, Sl.no, Sl.no, Sl.no, Sl.no, Sl.d (.str (SX.S u)), Sl.d (.str (SX.S dotS)), Sl.no, Sl.no, Sl.no, Sl.no] (.lst ((Txt.split (SX.S u) (SX.S blS)).map .str)) := fun s2 => by
        rw [← lit_bl]
        exact ev_split (fun Q E q => q) (fun Q E q => q) (by decide +kernel) (by rw [SX.S_len]; exact size_small (by omega))
      generalize Txt.split (SX.S u) (SX.S blS) = ns at es k1 k2 hh
      rw [List.length_cons] at hlen
      refine seq_v (.int (ns.length : Nat)) (Ev.eq (ev_lenL (es _)) (by rw [len_strs])) ?_
      by_cases hs : ns = xsL bd ns.length
      · rw [if_pos hs] at hh
        exact end_ifF (or_f ((b_v (ev_op (x := .lst (ns.map .str)) (y := .lst ((xsL bd ns.length).map .str)) (es _) (Ev.eq (ev_lc (fun k : Nat => D.int ((0 : Int) + k)) (fun k => .str (xS (bd + k))) (xs := List.range ns.length) (ev_rng (by omega) (fun Q E q => q)) (size_small (by rw [List.length_range]; omega)) fun k hk => ⟨_, rfl, ev_xsG (n := bd + k) (by have := List.mem_range.mp hk; omega) (ev_op (x := .int (bd : Nat)) (y := .int ((0 : Int) + k)) (fun Q E q => q) (fun Q E q => q) fun Q q => by
          show Q (.int ((bd : Int) + ((0 : Int) + k)))
          rw [show (bd : Int) + ((0 : Int) + k) = ((bd + k : Nat) : Int) by omega]
          exact q)⟩) (by unfold xsL; rw [List.map_map]; rfl)) fun Q q => neStrsL k1 (fun t ht => by
          unfold xsL at ht
          obtain ⟨k, hk, rfl⟩ := List.mem_map.mp ht
          exact xS_ok _ (by have := List.mem_range.mp hk; omega)) q)).eq (by rw [decide_eq_true hs]; rfl)) (b_v (ev_op (x := .str (SX.S dotS)) (y := .str "") (fun Q E q => q) (fun Q E q => q) fun Q q => eq_str (by rw [S_lit lit_nil, decide_eq_false (by decide)]; exact q)))) (hG _ ⟨ns.length, v, _, _, hh, rfl⟩)
      · rw [if_neg hs] at hh
        rw [told_none d hh] at hq
        exact end_ifT (or_t ((b_v (ev_op (x := .lst (ns.map .str)) (y := .lst ((xsL bd ns.length).map .str)) (es _) (Ev.eq (ev_lc (fun k : Nat => D.int ((0 : Int) + k)) (fun k => .str (xS (bd + k))) (xs := List.range ns.length) (ev_rng (by omega) (fun Q E q => q)) (size_small (by rw [List.length_range]; omega)) fun k hk => ⟨_, rfl, ev_xsG (n := bd + k) (by have := List.mem_range.mp hk; omega) (ev_op (x := .int (bd : Nat)) (y := .int ((0 : Int) + k)) (fun Q E q => q) (fun Q E q => q) fun Q q => by
          show Q (.int ((bd : Int) + ((0 : Int) + k)))
          rw [show (bd : Int) + ((0 : Int) + k) = ((bd + k : Nat) : Int) by omega]
          exact q)⟩) (by unfold xsL; rw [List.map_map]; rfl)) fun Q q => neStrsL k1 (fun t ht => by
          unfold xsL at ht
          obtain ⟨k, hk, rfl⟩ := List.mem_map.mp ht
          exact xS_ok _ (by have := List.mem_range.mp hk; omega)) q)).eq (by rw [decide_eq_false hs]; rfl))) (ret_v .non (fun Q E q => q) hq)
    rintro ρ' ⟨b, ys, s7, s8, hh, rfl⟩
    have hys := headP_sound hh
    have hyl : b + ys.length ≤ zs.length := by
      have h1 := hdc_len bd b
      have h2 := congrArg List.length hys
      rw [List.length_append] at h2
      omega
    have hyc : ∀ c ∈ ys, c < 1114112 := fun c hc => hzc c (by rw [hys]; exact List.mem_append_right _ hc)
    have hy40 : ys.count 40 ≤ zs.count 40 := by
      rw [hys, List.count_append]
      omega
    obtain ⟨h0, blk, v0, hpt, hsh, htd⟩ := told_parts d hh
    rw [htd] at hq
    obtain ⟨p1, p2, p3, p4, p5, p6⟩ := part_ok hsh
    refine seq_asg (ρ' := [Sl.d (.str (SX.S ys)), Sl.d (.int (bd : Nat)), Sl.d (.int (b : Nat)), Sl.d (.str (SX.S h0)), Sl.d (.str (SX.S blk)), Sl.d (.str (SX.S v0)), Sl.no, s7, s8, Sl.no, Sl.no, Sl.no, Sl.no]) (.tup [.str (SX.S h0), .str (SX.S blk), .str (SX.S v0)]) (Ev.eq (ev_partition (a := SX.S ys) (b := " ") (fun Q E q => q) (fun Q E q => q) (by decide +kernel) (by rw [SX.S_len]; exact size_small (by omega))) (by rw [lit_bl, hpt])) rfl ?_
    have hbk : (blk = [] → v0 = []) ∧ (v0 ≠ [] → blk ≠ []) := by
      rcases hsh with ⟨_, h2, _⟩ | ⟨h1, _⟩
      · exact ⟨fun _ => h2, fun h => absurd h2 h⟩
      · exact ⟨fun h => (by rw [h1] at h; cases h), fun _ => by rw [h1]; simp⟩
    have evH : EvT (dNot (dB (dCall f_ishead 2 (dCons (dVar 3) (dCons (dOp rdAdd (dVar 1) (dVar 2)) dNil))))) [Sl.d (.str (SX.S ys)), Sl.d (.int (bd : Nat)), Sl.d (.int (b : Nat)), Sl.d (.str (SX.S h0)), Sl.d (.str (SX.S blk)), Sl.d (.str (SX.S v0)), Sl.no, s7, s8, Sl.no, Sl.no, Sl.no, Sl.no] (!headB (bd + b) (SX.S h0)) := not_v (b_v (ev_call (a1 (fun Q E q => q) (a1 (d := .int ((bd + b : Nat) : Int)) (ev_op (x := .int (bd : Nat)) (y := .int (b : Nat)) (fun Q E q => q) (fun Q E q => q) fun Q q => q) a0)) rfl fun Q E q => ⟨bd + b, rfl, okS (by omega) fun c hc => hyc c (p3 c hc), by omega, q⟩))
    have evB : EvT (dAnd (dB (dOp rdNe (dVar 4) (dC (.str "")))) (dB (dOp rdEq (dVar 5) (dC (.str ""))))) [Sl.d (.str (SX.S ys)), Sl.d (.int (bd : Nat)), Sl.d (.int (b : Nat)), Sl.d (.str (SX.S h0)), Sl.d (.str (SX.S blk)), Sl.d (.str (SX.S v0)), Sl.no, s7, s8, Sl.no, Sl.no, Sl.no, Sl.no] (!decide (blk = []) && decide (v0 = [])) := and_v (b_v (ev_op (x := .str (SX.S blk)) (y := .str "") (fun Q E q => q) (fun Q E q => q) fun Q q => ne_str (by rw [S_lit lit_nil]; exact q))) fun _ => b_v (ev_op (x := .str (SX.S v0)) (y := .str "") (fun Q E q => q) (fun Q E q => q) fun Q q => eq_str (by rw [S_lit lit_nil]; exact q))
    by_cases hc : headB (bd + b) (SX.S h0) = true ∧ ¬ (blk ≠ [] ∧ v0 = [])
    case neg =>
      rw [if_neg hc] at hq
      refine seq_ifT ((or_v evH fun _ => evB).eq ?_) (ret_v .non (fun Q E q => q) hq)
      cases hB : headB (bd + b) (SX.S h0) with
      | false => rfl
      | true =>
        have h2 : blk ≠ [] ∧ v0 = [] := Classical.byContradiction fun z => hc ⟨hB, z⟩
        rw [decide_eq_false h2.1, decide_eq_true h2.2]
        rfl
    rw [if_pos hc] at hq
    refine seq_ifF ((or_v evH fun _ => evB).eq ?_) ?_
    · rw [hc.1]
      by_cases hb : blk = []
      · rw [decide_eq_true hb]
        rfl
      · rw [decide_eq_false (p := v0 = []) fun z => hc.2 ⟨hb, z⟩, Bool.and_false]
        rfl
    clear evH evB
    refine seq_oN (ds := []) a0 (line rfl) ?_
    refine seq_while (fun m ρ => ∃ (xs : List Nat) (as : List Pt) (s9 s10 s11 s12 : Sl), ρ = [Sl.d (.str (SX.S ys)), Sl.d (.int (bd : Nat)), Sl.d (.int (b : Nat)), Sl.d (.str (SX.S h0)), Sl.d (.str (SX.S blk)), Sl.d (.str (SX.S xs)), Sl.own (as.map ptD), s7, s8, s9, s10, s11, s12] ∧ argsQ (fun zs => toldR d zs (bd + b)) v0 [] = argsQ (fun zs => toldR d zs (bd + b)) xs as ∧ as.length ≤ 15 ∧ xs.length ≤ v0.length ∧ xs.count 40 ≤ v0.count 40 ∧ (∀ c ∈ xs, c ∈ v0) ∧ m = xs.length) v0.length ⟨v0, [], _, _, _, _, rfl, rfl, Nat.zero_le _, Nat.le_refl _, Nat.le_refl _, fun c hc => hc, rfl⟩ ?_
    rintro m ρ ⟨xs, as, s9, s10, s11, s12, rfl, hR, hal, hxl, hx40, hxm, rfl⟩
    have tw : EvT (dB (dOp rdNe (dVar 5) (dC (.str "")))) [Sl.d (.str (SX.S ys)), Sl.d (.int (bd : Nat)), Sl.d (.int (b : Nat)), Sl.d (.str (SX.S h0)), Sl.d (.str (SX.S blk)), Sl.d (.str (SX.S xs)), Sl.own (as.map ptD), s7, s8, s9, s10, s11, s12] (!decide (xs = [])) := b_v (ev_op (x := .str (SX.S xs)) (y := .str "") (fun Q E q => q) (fun Q E q => q) fun Q q => ne_str (by rw [S_lit lit_nil]; exact q))
    refine tw _ _ ?_
    clear tw
    rw [hR] at hq
    cases xs with
    | nil =>
      rw [argsQ_nil] at hq
      rw [decide_eq_true rfl, Bool.not_true, bit_f]
      refine frz_ret rfl (ret_v (ptD (.mk b (SX.S h0) as)) ?_ hq)
      rw [ptD_eq]
      exact ev_tup (a1 (fun Q E q => q) (a1 (fun Q E q => q) (a1 (ev_cb (a1 (d := .lst (as.map ptD)) (fun Q E q => q) a0) fun Q q => q) a0))) (line rfl)
    | cons c r =>
    rw [decide_eq_false (by simp), Bool.not_false, bit_t]
    have hx1 : (c :: r).length ≤ 1000 := by omega
    have hxc : ∀ x ∈ c :: r, x < 1114112 := fun x hx => hyc x (p4 x (hxm x hx))
    have hb32 : 32 ∈ zs := by
      rw [hys]
      refine List.mem_append_right _ (p6 fun z => ?_)
      have := hxm c List.mem_cons_self
      rw [z] at this
      cases this
    have hpos : 1 ≤ v0.length := Nat.le_trans (by simp) hxl
    have ec : ∀ (t6 t9 t10 t11 : Sl), EvT (dB (dOp rdEq (dOp rdIx (dVar 5) (dC (.int 0))) (dC (.str "(")))) [Sl.d (.str (SX.S ys)), Sl.d (.int (bd : Nat)), Sl.d (.int (b : Nat)), Sl.d (.str (SX.S h0)), Sl.d (.str (SX.S blk)), Sl.d (.str (SX.S (c :: r))), t6, s7, s8, t9, t10, t11, s12] (decide (c = 40)) := fun t6 t9 t10 t11 => b_v (ev_op (x := .str ⟨#[c]⟩) (y := .str "(") (ev_at (k := 0) (fun Q E q => q) (fun Q E q => q) rfl rfl hx1) (fun Q E q => q) fun Q q => eq_str (by rw [show decide ((⟨#[c]⟩ : Str) = "(") = decide (c = 40) from one_eq c 40]; exact q))
    refine seq_v (endD c (pieceP c r)) (ev_if (b := decide (c = 40)) (ec _ _ _ _) (fun h => ?_) fun h => ?_) ?_
    · have h := of_decide_eq_true h
      subst h
      refine ev_call (a1 (d := .str (SX.S (40 :: r))) (fun Q E q => q) a0) rfl fun Q E q => ⟨r, rfl, okS hx1 hxc, ?_⟩
      rw [endD_40]
      exact q
    · have h := of_decide_eq_false h
      have hpc : pieceP c r = some ((c :: r).takeWhile (· != 32), (c :: r).dropWhile (· != 32)) := by
        unfold pieceP
        rw [if_neg h]
      have hu := (piece_u hpc).2.1
      rw [hpc]
      refine ev_op (x := .int (((c :: r).takeWhile (· != 32)).length : Nat)) (y := .int 1) (ev_cb (a1 (d := .str (SX.S ((c :: r).takeWhile (· != 32)))) (ev_op (x := .tup [.str (Txt.partition (SX.S (c :: r)) " ").1, .str (Txt.partition (SX.S (c :: r)) " ").2.1, .str (Txt.partition (SX.S (c :: r)) " ").2.2]) (y := .int 0) (ev_partition (fun Q E q => q) (fun Q E q => q) (by decide +kernel) (by rw [SX.S_len]; exact size_small hx1)) (fun Q E q => q) fun Q q => ⟨_, rfl, by rw [lit_bl, part_blank]; exact q⟩) a0) fun Q q => ⟨by rw [SX.S_len]; exact size_small (by omega), by rw [SX.S_len]; exact q⟩) (fun Q E q => q) fun Q q => ?_
      unfold endD preN at q
      dsimp only at q
      rw [if_neg h] at q
      exact q
    cases hpc : pieceP c r with
    | none =>
      rw [argsQ_c0 hpc] at hq
      exact seq_ifT (or_t (b_v (ev_op (x := .non) (y := .non) (fun Q E q => q) (fun Q E q => q) fun Q q => q))) (ret_v .non (fun Q E q => q) hq)
    | some x =>
    obtain ⟨u, v⟩ := x
    obtain ⟨q1, q2, q3, q4⟩ := piece_u hpc
    obtain ⟨c1, c2, c3⟩ := piece_cut hpc
    have hkp : preN c u ≤ (c :: r).length := by
      have e := congrArg List.length (piece_sound hpc)
      rw [List.length_append] at e
      unfold preN
      rw [e]
      split
      · rw [List.length_cons, List.length_append, List.length_singleton]
        omega
      · omega
    have e9 : EvT (dB (dOp rdIs (dVar 9) (dC .non))) [Sl.d (.str (SX.S ys)), Sl.d (.int (bd : Nat)), Sl.d (.int (b : Nat)), Sl.d (.str (SX.S h0)), Sl.d (.str (SX.S blk)), Sl.d (.str (SX.S (c :: r))), Sl.own (as.map ptD), s7, s8, Sl.d (.int (((preN c u : Nat) : Int) - 1)), s10, s11, s12] false := b_v (ev_op (x := .int (((preN c u : Nat) : Int) - 1)) (y := .non) (fun Q E q => q) (fun Q E q => q) fun Q q => q)
    have e14 : EvT (dB (dOp rdGt (dLenO 6) (dC (.int 14)))) [Sl.d (.str (SX.S ys)), Sl.d (.int (bd : Nat)), Sl.d (.int (b : Nat)), Sl.d (.str (SX.S h0)), Sl.d (.str (SX.S blk)), Sl.d (.str (SX.S (c :: r))), Sl.own (as.map ptD), s7, s8, Sl.d (.int (((preN c u : Nat) : Int) - 1)), s10, s11, s12] (decide (14 < as.length)) := b_v (ev_op (x := .int ((as.map ptD).length : Nat)) (y := .int 14) (ev_lenO rfl) (fun Q E q => q) fun Q q => by
      show Q (.bl (decide ((14 : Int) < ((as.map ptD).length : Nat))))
      rw [List.length_map, show decide ((14 : Int) < (as.length : Nat)) = decide (14 < as.length) from decide_eq_decide.mpr ⟨fun h => by omega, fun h => by omega⟩]
      exact q)
    by_cases h14 : 14 < as.length
    · rw [argsQ_c1 hpc h14] at hq
      exact seq_ifT (or_f e9 (e14.eq (decide_eq_true h14))) (ret_v .non (fun Q E q => q) hq)
    refine seq_ifF (or_f e9 (e14.eq (decide_eq_false h14))) ?_
    clear e9 e14
    refine seq_v (.str (SX.S u)) (ev_if (b := decide (c = 40)) (ec _ _ _ _) (fun h => ?_) fun h => ?_) ?_
    · have h := of_decide_eq_true h
      have e := c3 h
      refine ev_slMid (pre := [40]) (u := u) (post := 41 :: v) (i := 1) (j := ((preN c u : Nat) : Int) - 1) (fun Q E q => by rw [← e] at q; exact q) (fun Q E q => q) (fun Q E q => q) rfl ?_ (by rw [← e]; exact hx1)
      unfold preN
      rw [if_pos h]
      show ((u.length + 2 : Nat) : Int) - 1 = (1 : Int) + (u.length : Nat)
      omega
    · have h := of_decide_eq_false h
      have hk : preN c u = u.length := if_neg h
      refine Ev.eq (ev_slTo (xs := c :: r) (i := ((preN c u : Nat) : Int) - 1 + 1) (fun Q E q => q) (ev_op (x := .int (((preN c u : Nat) : Int) - 1)) (y := .int 1) (fun Q E q => q) (fun Q E q => q) fun Q q => q) (by omega) hx1) ?_
      rw [show (((preN c u : Nat) : Int) - 1 + 1).toNat = u.length by omega, c2 h]
    refine seq_v (ptOD (toldR d u (bd + b))) (ev_call (a1 (fun Q E q => q) (a1 (d := .int ((bd + b : Nat) : Int)) (ev_op (x := .int (bd : Nat)) (y := .int (b : Nat)) (fun Q E q => q) (fun Q E q => q) fun Q q => q) a0)) rfl fun Q E q => ⟨bd + b, rfl, okS (by omega) fun x hx => hxc x (q1 x hx), by rw [SX.S_len]; omega, piece_deep hpc hdeep hb32 (by omega), q⟩) ?_
    cases hT : toldR d u (bd + b) with
    | none =>
      rw [argsQ_c2 hpc hT] at hq
      exact seq_ifT (or_t (b_v (ev_op (x := .non) (y := .non) (fun Q E q => q) (fun Q E q => q) fun Q q => q))) (ret_v .non (fun Q E q => q) hq)
    | some p =>
    have eis : EvT (dB (dOp rdIs (dVar 11) (dC .non))) [Sl.d (.str (SX.S ys)), Sl.d (.int (bd : Nat)), Sl.d (.int (b : Nat)), Sl.d (.str (SX.S h0)), Sl.d (.str (SX.S blk)), Sl.d (.str (SX.S (c :: r))), Sl.own (as.map ptD), s7, s8, Sl.d (.int (((preN c u : Nat) : Int) - 1)), Sl.d (.str (SX.S u)), Sl.d (ptD p), s12] false := b_v (ev_op (x := ptD p) (y := .non) (fun Q E q => q) (fun Q E q => q) fun Q q => by cases p; exact q)
    have efl : EvT (dB (dOp rdNe (dOrV (dOp rdGt (dOp rdIx (dVar 11) (dC (.int 0))) (dC (.int 0))) (dOp (rdT0 true) (dOp rdIx (dVar 11) (dC (.int 2))) (dTup dNil))) (dOp rdEq (dOp rdIx (dVar 5) (dC (.int 0))) (dC (.str "("))))) [Sl.d (.str (SX.S ys)), Sl.d (.int (bd : Nat)), Sl.d (.int (b : Nat)), Sl.d (.str (SX.S h0)), Sl.d (.str (SX.S blk)), Sl.d (.str (SX.S (c :: r))), Sl.own (as.map ptD), s7, s8, Sl.d (.int (((preN c u : Nat) : Int) - 1)), Sl.d (.str (SX.S u)), Sl.d (ptD p), s12] (!decide ((!flatT p) = decide (c = 40))) := by
      cases p with
      | mk pb ph pas =>
      rw [ptD_eq]
      have e0 : (!flatT (.mk pb ph pas)) = (decide (0 < pb) || !(pas.map ptD).isEmpty) := by
        show (!(decide (pb = 0) && pas.isEmpty)) = _
        rw [List.isEmpty_map, Bool.not_and, ← decide_not, show decide (¬ pb = 0) = decide (0 < pb) from decide_eq_decide.mpr ⟨fun h => by omega, fun h => by omega⟩]
      rw [e0]
      refine b_v (ev_op (x := .bl (decide (0 < pb) || !(pas.map ptD).isEmpty)) (y := .bl (decide (c = 40))) (ev_orV (ev_op (x := .int (pb : Nat)) (y := .int 0) (ev_op (x := .tup [.int (pb : Nat), .str ph, .tup (pas.map ptD)]) (y := .int 0) (fun Q E q => q) (fun Q E q => q) fun Q q => ⟨_, rfl, q⟩) (fun Q E q => q) fun Q q => ?_) fun _ => ev_op (x := .tup (pas.map ptD)) (y := .tup []) (ev_op (x := .tup [.int (pb : Nat), .str ph, .tup (pas.map ptD)]) (y := .int 2) (fun Q E q => q) (fun Q E q => q) fun Q q => ⟨_, rfl, q⟩) (ev_tup a0 (line rfl)) fun Q q => q) (ev_op (x := .str ⟨#[c]⟩) (y := .str "(") (ev_at (k := 0) (fun Q E q => q) (fun Q E q => q) rfl rfl hx1) (fun Q E q => q) fun Q q => eq_str (by rw [show decide ((⟨#[c]⟩ : Str) = "(") = decide (c = 40) from one_eq c 40]; exact q)) fun Q q => ne_bl2 q)
      show Q (.bl (decide ((0 : Int) < (pb : Nat))))
      rw [show decide ((0 : Int) < (pb : Nat)) = decide (0 < pb) from decide_eq_decide.mpr ⟨fun h => by omega, fun h => by omega⟩]
      exact q
    by_cases hf : flatT p = decide (c = 40)
    · rw [argsQ_c3 hpc hT hf] at hq
      refine seq_ifT (or_f eis (efl.eq ?_)) (ret_v .non (fun Q E q => q) hq)
      rw [hf]
      cases decide (c = 40) <;> rfl
    refine seq_ifF (or_f eis (efl.eq ?_)) ?_
    · cases h1 : flatT p <;> cases h2 : decide (c = 40) <;> first | rfl | exact absurd (h1.trans h2.symm) hf
    clear eis efl
    refine seq_app rfl (ptD p) (by rw [List.length_map]; exact Nat.lt_of_le_of_lt hal (by decide)) (fun Q E q => q) ?_
    have ek : ∀ s6 : Sl, Ev (dOp rdAdd (dVar 9) (dC (.int 1))) [Sl.d (.str (SX.S ys)), Sl.d (.int (bd : Nat)), Sl.d (.int (b : Nat)), Sl.d (.str (SX.S h0)), Sl.d (.str (SX.S blk)), Sl.d (.str (SX.S (c :: r))), s6, s7, s8, Sl.d (.int (((preN c u : Nat) : Int) - 1)), Sl.d (.str (SX.S u)), Sl.d (ptD p), s12] (.int (preN c u : Nat)) := fun s6 => ev_op (x := .int (((preN c u : Nat) : Int) - 1)) (y := .int 1) (fun Q E q => q) (fun Q E q => q) fun Q q => by
      show Q (.int (((preN c u : Nat) : Int) - 1 + 1))
      rw [show ((preN c u : Nat) : Int) - 1 + 1 = (preN c u : Nat) by omega]
      exact q
    have ek2 : ∀ s6 : Sl, Ev (dOp rdAdd (dVar 9) (dC (.int 2))) [Sl.d (.str (SX.S ys)), Sl.d (.int (bd : Nat)), Sl.d (.int (b : Nat)), Sl.d (.str (SX.S h0)), Sl.d (.str (SX.S blk)), Sl.d (.str (SX.S (c :: r))), s6, s7, s8, Sl.d (.int (((preN c u : Nat) : Int) - 1)), Sl.d (.str (SX.S u)), Sl.d (ptD p), s12] (.int ((preN c u + 1 : Nat) : Int)) := fun s6 => ev_op (x := .int (((preN c u : Nat) : Int) - 1)) (y := .int 2) (fun Q E q => q) (fun Q E q => q) fun Q q => by
      show Q (.int (((preN c u : Nat) : Int) - 1 + 2))
      rw [show ((preN c u : Nat) : Int) - 1 + 2 = ((preN c u + 1 : Nat) : Int) by omega]
      exact q
    have c4 : (c :: r).drop (preN c u + 1) = v.drop 1 := by rw [← c1, List.drop_drop]
    have ev1 : ∀ s6 : Sl, Ev (dSl (dVar 5) (dOSome (dOp rdAdd (dVar 9) (dC (.int 1)))) dONone) [Sl.d (.str (SX.S ys)), Sl.d (.int (bd : Nat)), Sl.d (.int (b : Nat)), Sl.d (.str (SX.S h0)), Sl.d (.str (SX.S blk)), Sl.d (.str (SX.S (c :: r))), s6, s7, s8, Sl.d (.int (((preN c u : Nat) : Int) - 1)), Sl.d (.str (SX.S u)), Sl.d (ptD p), s12] (.str (SX.S v)) := fun s6 => Ev.eq (ev_slFrom (xs := c :: r) (fun Q E q => q) (ek s6) (by omega) hx1) (by rw [Int.toNat_natCast, c1])
    have ev2 : ∀ s6 : Sl, Ev (dSl (dVar 5) (dOSome (dOp rdAdd (dVar 9) (dC (.int 2)))) dONone) [Sl.d (.str (SX.S ys)), Sl.d (.int (bd : Nat)), Sl.d (.int (b : Nat)), Sl.d (.str (SX.S h0)), Sl.d (.str (SX.S blk)), Sl.d (.str (SX.S (c :: r))), s6, s7, s8, Sl.d (.int (((preN c u : Nat) : Int) - 1)), Sl.d (.str (SX.S u)), Sl.d (ptD p), s12] (.str (SX.S (v.drop 1))) := fun s6 => Ev.eq (ev_slFrom (xs := c :: r) (fun Q E q => q) (ek2 s6) (by omega) hx1) (by rw [Int.toNat_natCast, c4])
    have et : ∀ s6 : Sl, EvT (dAnd (dB (dOp rdNe (dSl (dVar 5) (dOSome (dOp rdAdd (dVar 9) (dC (.int 1)))) dONone) (dC (.str "")))) (dOr (dB (dOp rdNe (dOp rdIx (dVar 5) (dOp rdAdd (dVar 9) (dC (.int 1)))) (dC (.str " ")))) (dB (dOp rdEq (dSl (dVar 5) (dOSome (dOp rdAdd (dVar 9) (dC (.int 2)))) dONone) (dC (.str "")))))) [Sl.d (.str (SX.S ys)), Sl.d (.int (bd : Nat)), Sl.d (.int (b : Nat)), Sl.d (.str (SX.S h0)), Sl.d (.str (SX.S blk)), Sl.d (.str (SX.S (c :: r))), s6, s7, s8, Sl.d (.int (((preN c u : Nat) : Int) - 1)), Sl.d (.str (SX.S u)), Sl.d (ptD p), s12] (nextP v).isNone := fun s6 => by
      have n1 : EvT (dB (dOp rdNe (dSl (dVar 5) (dOSome (dOp rdAdd (dVar 9) (dC (.int 1)))) dONone) (dC (.str "")))) [Sl.d (.str (SX.S ys)), Sl.d (.int (bd : Nat)), Sl.d (.int (b : Nat)), Sl.d (.str (SX.S h0)), Sl.d (.str (SX.S blk)), Sl.d (.str (SX.S (c :: r))), s6, s7, s8, Sl.d (.int (((preN c u : Nat) : Int) - 1)), Sl.d (.str (SX.S u)), Sl.d (ptD p), s12] (!decide (v = [])) := b_v (ev_op (x := .str (SX.S v)) (y := .str "") (ev1 s6) (fun Q E q => q) fun Q q => ne_str (by rw [S_lit lit_nil]; exact q))
      have n3 : EvT (dB (dOp rdEq (dSl (dVar 5) (dOSome (dOp rdAdd (dVar 9) (dC (.int 2)))) dONone) (dC (.str "")))) [Sl.d (.str (SX.S ys)), Sl.d (.int (bd : Nat)), Sl.d (.int (b : Nat)), Sl.d (.str (SX.S h0)), Sl.d (.str (SX.S blk)), Sl.d (.str (SX.S (c :: r))), s6, s7, s8, Sl.d (.int (((preN c u : Nat) : Int) - 1)), Sl.d (.str (SX.S u)), Sl.d (ptD p), s12] (decide (v.drop 1 = [])) := b_v (ev_op (x := .str (SX.S (v.drop 1))) (y := .str "") (ev2 s6) (fun Q E q => q) fun Q q => eq_str (by rw [S_lit lit_nil]; exact q))
      cases v with
      | nil => exact and_f (n1.eq (by rw [decide_eq_true rfl]; rfl))
      | cons c' w =>
      have hat : (c :: r)[preN c u]? = some c' := by
        have := congrArg (fun l => l[0]?) c1
        simpa using this
      have n2 : EvT (dB (dOp rdNe (dOp rdIx (dVar 5) (dOp rdAdd (dVar 9) (dC (.int 1)))) (dC (.str " ")))) [Sl.d (.str (SX.S ys)), Sl.d (.int (bd : Nat)), Sl.d (.int (b : Nat)), Sl.d (.str (SX.S h0)), Sl.d (.str (SX.S blk)), Sl.d (.str (SX.S (c :: r))), s6, s7, s8, Sl.d (.int (((preN c u : Nat) : Int) - 1)), Sl.d (.str (SX.S u)), Sl.d (ptD p), s12] (!decide (c' = 32)) := b_v (ev_op (x := .str ⟨#[c']⟩) (y := .str " ") (ev_at (k := preN c u) (fun Q E q => q) (ek s6) rfl hat hx1) (fun Q E q => q) fun Q q => ne_str (by rw [show decide ((⟨#[c']⟩ : Str) = " ") = decide (c' = 32) from one_eq c' 32]; exact q))
      refine EvT.eq (and_t (n1.eq (by rw [decide_eq_false (by simp)]; rfl)) (or_v n2 fun _ => n3)) ?_
      show (!decide (c' = 32) || decide (w = [])) = (if c' = 32 ∧ w ≠ [] then some w else none).isNone
      by_cases h1 : c' = 32
      · by_cases h2 : w = []
        · rw [decide_eq_true h1, decide_eq_true h2, if_neg (fun z => z.2 h2)]
          rfl
        · rw [decide_eq_true h1, decide_eq_false h2, if_pos ⟨h1, h2⟩]
          rfl
      · rw [decide_eq_false h1, if_neg (fun z => h1 z.1)]
        rfl
    cases hnx : nextP v with
    | none =>
      rw [argsQ_c4 hpc hT hnx] at hq
      exact seq_ifT ((et _).eq (by rw [hnx]; rfl)) (ret_v .non (fun Q E q => q) hq)
    | some w =>
    refine seq_ifF ((et _).eq (by rw [hnx]; rfl)) ?_
    obtain ⟨w1, w2, _, _, w5⟩ := piece_len hpc hnx
    refine end_v (.str (SX.S w)) (Ev.eq (ev2 _) (by rw [next_drop hnx])) ?_
    refine ⟨w.length, by rw [List.length_cons]; omega, w, as ++ [p], Sl.d (.int (((preN c u : Nat) : Int) - 1)), Sl.d (.str (SX.S u)), Sl.d (ptD p), s12, ?_, hR.trans (argsQ_c5 hpc h14 hT hf hnx), by rw [List.length_append, List.length_singleton]; omega, by rw [List.length_cons] at hxl; omega, by omega, fun x hx => hxm x (w2 x hx), rfl⟩
    rw [List.map_append]
    rfl
theorem rs__law_told {P : Program} {w : World} {mg : Gm} {base : Heap} {Z : Ads} (A : All mg Z) (G__law_closing : DefOk P w mg base 1 "_law_closing" 1 f_closing) (G__law_is_head : DefOk P w mg base 2 "_law_is_head" 2 f_ishead) : ∀ d : Nat, DefOk P w mg base (d + 3) "_law_told" 2 (f_ltold d)
  | 0 => nv__law_told A
  | d + 1 => ok__law_told A G__law_closing G__law_is_head (rs__law_told A G__law_closing G__law_is_head d)
end K16
namespace K16
open PySem L2 FP
variable [FP.Tabl]
open KP
theorem ok__law_dice {P : Program} {w : World} {mg : Gm} {base : Heap} {Z : Ads} (A : All mg Z) : DefOk P w mg base 1 "_law_dice" 2 f_dice := by
  refine mkDef (N := ["_law_script", "_law_spot", "_law_cell", "_law_great", "_law_blend"]) (ps := ["_law_script", "_law_spot"]) A.d__law_dice sc__law_dice (fun _ _ _ _ _ _ us hl => match us, hl with | [_, _], _ => rfl) fun fa cdv Ar outer s H E hr => ⟨_,
    (dss_cons (ds_set (i := 2) (de_op ok_add (de_op ok_mul de_int (de_var 1)) de_int) (fun _ => sc__law_dice.nd))
    (dss_cons (ds_if (dt_cmp ok_lt (de_var 1) (de_callB ok_len A.n_len FP.boot_len (da_cons (de_var 0) da_nil)))
    (dss_one (ds_set (i := 2) (de_ix (de_var 0) (de_var 1)) (fun _ => sc__law_dice.nd)))
    dss_nil)
    (dss_cons (ds_set (i := 3) (de_op ok_mod (de_callTy ok_int A.n_int FP.boot_int (da_cons (de_callB ok_abs A.n_abs FP.boot_abs (da_cons (de_var 2) da_nil)) da_nil)) (de_op ok_pow (de_op ok_pow de_int de_int) de_int)) (fun _ => sc__law_dice.nd))
    (dss_cons (ds_set (i := 4) (de_op ok_add (de_op ok_add (de_op ok_add (de_op ok_mul (de_op ok_mod (de_callTy ok_int A.n_int FP.boot_int (da_cons (de_var 3) da_nil)) de_int) de_int) (de_op ok_mul de_int (de_var 1))) (de_op ok_mul de_int (de_callTy ok_int A.n_int FP.boot_int (da_cons (de_cmp ok_lt (de_var 2) de_int) da_nil)))) de_int) (fun _ => sc__law_dice.nd))
    (dss_one (ds_retTok (da_cons (de_callB ok_max A.n_max FP.boot_max (da_cons de_int (da_cons (de_op ok_sub (de_var 3) (de_op ok_pow de_int de_int)) da_nil))) (da_cons (de_op ok_mod (de_callTy ok_int A.n_int FP.boot_int (da_cons (de_var 4) da_nil)) de_int) (da_cons de_int da_nil))))))))),  fun ds Q Ex hl hf => ?_⟩
  match ds, hl, hf with
  | [.fz xs, .int k], _, ⟨⟨ns, hx⟩, ⟨h0, h1⟩, hq⟩ =>
    subst hx
    change (_ : DTS) _ [Sl.d (.fz (ns.map D.int)), Sl.d (.int k), Sl.no, Sl.no, Sl.no]
    simp only [dSeq, dNext, dIfS, dB, dOp, dVar, dC, dCB, dCons, dNil, dSet, dTok, dRet, dRetN, dCall, rdAdd, rdSub, rdMul, rdMod, rdFdiv, rdPow, rdGt, rdLt, rdLe, rdGe, rdIx, rdInt, rdAbs, rdMax, rdMin, rdLen, dRetTok, dSetO, dListO, dLenO, dIRng1, dRetPop, List.getElem?_cons_zero, List.getElem?_cons_succ, List.set_cons_zero, List.set_cons_succ, bit_dec, bit_t, bit_f, bit_not, blc_bl, Option.some.injEq, exists_eq_left']
    refine ⟨cmulL (by decide), fun hb => ?_, fun _ => ?_⟩
    · obtain ⟨i, hi⟩ := atI_ints h0 hb
      refine ⟨_, hi, ?_⟩
      exact ⟨by decide +kernel, by decide +kernel, by decide +kernel, by decide, cmulR (by decide), cmulL (by decide), cmulL (by decide), by decide +kernel, by decide, hq⟩
    · exact ⟨by decide +kernel, by decide +kernel, by decide +kernel, by decide, cmulR (by decide), cmulL (by decide), cmulL (by decide), by decide +kernel, by decide, hq⟩
theorem ok__law_roll {P : Program} {w : World} {mg : Gm} {base : Heap} {Z : Ads} (A : All mg Z) : DefOk P w mg base 1 "_law_roll" 2 f_roll := by
  refine mkDef (N := ["_law_dice_here", "_law_total", "_law_one", "_law_two", "_law_found"]) (ps := ["_law_dice_here", "_law_total"]) A.d__law_roll sc__law_roll (fun _ _ _ _ _ _ us hl => match us, hl with | [_, _], _ => rfl) fun fa cdv Ar outer s H E hr => ⟨_,
    (dss_cons (ds_if (dt_cmp ok_gt (de_ix (de_var 0) de_int) de_int)
    (dss_cons (ds_set (i := 4) (de_op ok_mod (de_callTy ok_int A.n_int FP.boot_int (da_cons (de_ix (de_var 0) de_int) da_nil)) (de_var 1)) (fun _ => sc__law_roll.nd))
    (dss_cons (ds_tok 0 (de_op ok_fdiv (de_ix (de_var 0) de_int) (de_var 1)) (pg := fun _ _ h => ps_asg h (pg_sub (pv 0) pe_int set_list)))
    (dss_one (ds_ret (de_var 4)))))
    dss_nil)
    (dss_cons (ds_tok 0 (de_op ok_add (de_ix (de_var 0) de_int) de_int) (pg := fun _ _ h => ps_asg h (pg_sub (pv 0) pe_int set_list)))
    (dss_cons (ds_set (i := 2) (de_op ok_mod (de_callTy ok_int A.n_int FP.boot_int (da_cons (de_op ok_add (de_ix (de_var 0) de_int) (de_op ok_mul de_int (de_ix (de_var 0) de_int))) da_nil)) de_int) (fun _ => sc__law_roll.nd))
    (dss_cons (ds_set (i := 3) (de_op ok_add (de_op ok_mul (de_op ok_mod (de_callTy ok_int A.n_int FP.boot_int (da_cons (de_op ok_mul (de_var 2) (de_var 2)) da_nil)) de_int) (de_var 2)) (de_op ok_mul de_int (de_ix (de_var 0) de_int))) (fun _ => sc__law_roll.nd))
    (dss_cons (ds_set (i := 3) (de_op ok_mod (de_callTy ok_int A.n_int FP.boot_int (da_cons (de_var 3) da_nil)) de_int) (fun _ => sc__law_roll.nd))
    (dss_one (ds_ret (de_op ok_mod (de_callTy ok_int A.n_int FP.boot_int (da_cons (de_op ok_fdiv (de_var 3) de_int) da_nil)) (de_var 1))))))))),  fun ds Q Ex hl hf => ?_⟩
  match ds, hl, hf with
  | [.tok, .int n], _, ⟨⟨h0, h1⟩, hq⟩ =>
    change (_ : DTS) _ [Sl.d .tok, Sl.d (.int n), Sl.no, Sl.no, Sl.no]
    simp only [dSeq, dNext, dIfS, dB, dOp, dVar, dC, dCB, dCons, dNil, dSet, dTok, dRet, dRetN, dCall, rdAdd, rdSub, rdMul, rdMod, rdFdiv, rdPow, rdGt, rdLt, rdLe, rdGe, rdIx, rdInt, rdAbs, rdMax, rdMin, rdLen, dRetTok, dSetO, dListO, dLenO, dIRng1, dRetPop, List.getElem?_cons_zero, List.getElem?_cons_succ, List.set_cons_zero, List.set_cons_succ, bit_dec, bit_t, bit_f, bit_not, blc_bl, Option.some.injEq, exists_eq_left']
    have dn : ∀ j : Int, CDivN j n := fun j => ⟨by omega, by omega⟩
    have md : ∀ j : Int, Q (D.int (j % n)) := fun j => hq _ (Int.emod_nonneg _ (by omega)) (Int.emod_lt_of_pos _ h0)
    refine ⟨by decide, fun j => ⟨fun _ => ?_, fun _ => ?_⟩⟩
    · exact ⟨by decide, fun a => ⟨h0, by decide, fun b => ⟨dn _, by decide, md _⟩⟩⟩
    · exact ⟨by decide, fun a => ⟨by decide, by decide, fun b => ⟨by decide, fun c => ⟨cmulL (by decide), by decide, cmulL (by omega), by decide, cmulR (by omega), by decide, fun e => ⟨cmulL (by decide), by decide, ⟨by decide, by decide⟩, h0, md _⟩⟩⟩⟩⟩
theorem ok__law_pick {P : Program} {w : World} {mg : Gm} {base : Heap} {Z : Ads} (A : All mg Z) (G__law_roll : DefOk P w mg base 1 "_law_roll" 2 f_roll) : DefOk P w mg base 2 "_law_pick" 2 f_pick := by
  refine mkDef (N := ["_law_dice_here", "_law_items"]) (ps := ["_law_dice_here", "_law_items"]) A.d__law_pick sc__law_pick (fun _ _ _ _ _ _ us hl => match us, hl with | [_, _], _ => rfl) fun fa cdv Ar outer s H E hr => ⟨_,
    (dss_one (ds_ret (de_ix (de_var 1) (de_call G__law_roll (fun _ => hr.mono (by omega)) (fun _ => pas (takes_of rfl rfl rfl rfl)) (da_cons (de_var 0) (da_cons (de_callB ok_len A.n_len FP.boot_len (da_cons (de_var 1) da_nil)) da_nil)))))),  fun ds Q Ex hl hf => ?_⟩
  match ds, hl, hf with
  | [.tok, .lst xs], _, ⟨⟨h0, h1⟩, hq⟩ =>
    change (_ : DTS) _ [Sl.d .tok, Sl.d (.lst xs)]
    simp only [dSeq, dNext, dIfS, dB, dOp, dVar, dC, dCB, dCons, dNil, dSet, dTok, dRet, dRetN, dCall, rdAdd, rdSub, rdMul, rdMod, rdFdiv, rdPow, rdGt, rdLt, rdLe, rdGe, rdIx, rdInt, rdAbs, rdMax, rdMin, rdLen, dRetTok, dSetO, dListO, dLenO, dIRng1, dRetPop, List.getElem?_cons_zero, List.getElem?_cons_succ, List.set_cons_zero, List.set_cons_succ, bit_dec, bit_t, bit_f, bit_not, blc_bl, Option.some.injEq, exists_eq_left', f_roll]
    refine ⟨rfl, ⟨by omega, by omega⟩, fun r h2 h3 => ?_⟩
    obtain ⟨d, hd, hm⟩ := atI_mem h2 h3
    exact ⟨d, hd, hq d hm⟩
  | [.tok, .tup xs], _, ⟨⟨h0, h1⟩, hq⟩ =>
    change (_ : DTS) _ [Sl.d .tok, Sl.d (.tup xs)]
    simp only [dSeq, dNext, dIfS, dB, dOp, dVar, dC, dCB, dCons, dNil, dSet, dTok, dRet, dRetN, dCall, rdAdd, rdSub, rdMul, rdMod, rdFdiv, rdPow, rdGt, rdLt, rdLe, rdGe, rdIx, rdInt, rdAbs, rdMax, rdMin, rdLen, dRetTok, dSetO, dListO, dLenO, dIRng1, dRetPop, List.getElem?_cons_zero, List.getElem?_cons_succ, List.set_cons_zero, List.set_cons_succ, bit_dec, bit_t, bit_f, bit_not, blc_bl, Option.some.injEq, exists_eq_left', f_roll]
    refine ⟨rfl, ⟨by omega, by omega⟩, fun r h2 h3 => ?_⟩
    obtain ⟨d, hd, hm⟩ := atI_mem h2 h3
    exact ⟨d, hd, hq d hm⟩
theorem nv__law_program_nodes {P : Program} {w : World} {mg : Gm} {base : Heap} {Z : Ads} {k : Nat} (A : All mg Z) : DefOk P w mg base k "_law_program_nodes" 1 (f_pnodes 0) :=
  (DefOk.never (ps := ["_law_program"]) A.d__law_program_nodes (fun _ _ _ _ _ _ us hl => match us, hl with | [_], _ => rfl)).mono (Nat.le_refl _) (nope_pnodes)
theorem ok__law_program_nodes {P : Program} {w : World} {mg : Gm} {base : Heap} {Z : Ads} {d : Nat} (A : All mg Z) (G__law_program_nodes : DefOk P w mg base (d + 1) "_law_program_nodes" 1 (f_pnodes d)) : DefOk P w mg base (d + 2) "_law_program_nodes" 1 (f_pnodes (d + 1)) := by
  refine mkDef (N := ["_law_program", "_law_found", "_law_one"]) (ps := ["_law_program"]) A.d__law_program_nodes sc__law_program_nodes (fun _ _ _ _ _ _ us hl => match us, hl with | [_], _ => rfl) fun fa cdv Ar outer s H E hr => ⟨_,
    (dss_cons (ds_set (i := 1) (de_lst (da_cons (de_tup (da_cons (de_ix (de_var 0) de_int) (da_cons (de_ix (de_var 0) de_int) (da_cons (de_callB ok_len A.n_len FP.boot_len (da_cons (de_ix (de_var 0) de_int) da_nil)) da_nil)))) da_nil)) (fun _ => sc__law_program_nodes.nd))
    (dss_cons (ds_for (di_tup (de_ix (de_var 0) de_int)) (dg_name (i := 2) (fun _ => sc__law_program_nodes.nd))
    (dss_one (ds_set (i := 1) (de_op ok_add (de_var 1) (de_call G__law_program_nodes (fun _ => hr.mono (by omega)) (fun _ => pas (takes_of rfl rfl rfl rfl)) (da_cons (de_var 2) da_nil))) (fun _ => sc__law_program_nodes.nd))) (fun _ => passes_of rfl))
    (dss_one (ds_ret (de_var 1))))),  fun ds Q Ex hl hf => ?_⟩
  match ds, hl, hf with
  | [_], _, ⟨p, rfl, hd, h60, hq⟩ =>
    have e0 : startD 3 [ptD p] = [Sl.d (ptD p), Sl.no, Sl.no] := rfl
    have hnN : (["_law_program", "_law_found", "_law_one"] : List Str).length = 3 := rfl
    rw [hnN, e0]
    clear e0 hnN
    cases p with
    | mk b h as =>
    rw [ptD_eq]
    rw [sizeT] at hd h60
    rw [nodesT] at hq
    have hal := sizeTs_len as
    refine seq_v (.lst (((b, h, as.length) :: nodesTs []).map nodD)) (ev_lst (a1 (ev_tup (a1 (d := .int (b : Nat)) (fun Q E q => ⟨_, rfl, q⟩) (a1 (d := .str h) (fun Q E q => ⟨_, rfl, q⟩) (a1 (ev_cb (a1 (d := .tup (as.map ptD)) (fun Q E q => ⟨_, rfl, q⟩) a0) fun Q q => by
      show Q (.int ((as.map ptD).length : Nat))
      rw [List.length_map]
      exact q) a0))) (line rfl)) a0) (line rfl)) ?_
    refine seq_for (as.map ptD) (fun Q E q => ⟨_, rfl, q⟩) ?_
    refine for_of ptD (fun pre ρ => ∃ o, ρ = [Sl.d (.tup [.int (b : Nat), .str h, .tup (as.map ptD)]), Sl.d (.lst (((b, h, as.length) :: nodesTs pre).map nodD)), o]) as [] _ ⟨_, rfl⟩ ?_ ?_
    · rintro j pre post eq ρ K ⟨o, rfl⟩ hK
      rw [List.nil_append] at eq
      have hs : sizeTs as = sizeTs pre + (sizeT j + sizeTs post) := by rw [eq, sizeTs_app, sizeTs]
      refine ⟨_, rfl, ?_⟩
      refine end_v (.lst (((b, h, as.length) :: nodesTs pre).map nodD ++ (nodesT j).map nodD)) (ev_op (x := .lst (((b, h, as.length) :: nodesTs pre).map nodD)) (y := .lst ((nodesT j).map nodD)) (fun Q E q => q) (ev_call (a1 (fun Q E q => q) a0) rfl fun Q E q => ⟨j, rfl, by omega, by omega, q⟩) fun Q q => ⟨?_, q⟩) (hK _ ⟨.d (ptD j), ?_⟩)
      · rw [List.length_map, List.length_map, List.length_cons, nodes_lens, nodes_len]
        exact size_small (by omega)
      · rw [nodesTs_app, nodesTs, nodesTs, List.append_nil, ← List.map_append]
        rfl
    · rintro ρ ⟨o, rfl⟩
      rw [List.nil_append]
      dsimp only
      exact ret_v (.lst (((b, h, as.length) :: nodesTs as).map nodD)) (fun Q E q => q) hq
theorem rs__law_program_nodes {P : Program} {w : World} {mg : Gm} {base : Heap} {Z : Ads} (A : All mg Z) : ∀ d : Nat, DefOk P w mg base (d + 1) "_law_program_nodes" 1 (f_pnodes d)
  | 0 => nv__law_program_nodes A
  | d + 1 => ok__law_program_nodes A (rs__law_program_nodes A d)
theorem nv__law_program_parts {P : Program} {w : World} {mg : Gm} {base : Heap} {Z : Ads} {k : Nat} (A : All mg Z) : DefOk P w mg base k "_law_program_parts" 1 (f_ppartsT 0) :=
  (DefOk.never (ps := ["_law_program"]) A.d__law_program_parts (fun _ _ _ _ _ _ us hl => match us, hl with | [_], _ => rfl)).mono (Nat.le_refl _) (nope_ppartsT)
theorem ok__law_program_parts {P : Program} {w : World} {mg : Gm} {base : Heap} {Z : Ads} {d : Nat} (A : All mg Z) (G__law_program_parts : DefOk P w mg base (d + 1) "_law_program_parts" 1 (f_ppartsT d)) : DefOk P w mg base (d + 2) "_law_program_parts" 1 (f_ppartsT (d + 1)) := by
  refine mkDef (N := ["_law_program", "_law_found", "_law_one"]) (ps := ["_law_program"]) A.d__law_program_parts sc__law_program_parts (fun _ _ _ _ _ _ us hl => match us, hl with | [_], _ => rfl) fun fa cdv Ar outer s H E hr => ⟨_,
    (dss_cons (ds_set (i := 1) (de_lst (da_cons (de_var 0) da_nil)) (fun _ => sc__law_program_parts.nd))
    (dss_cons (ds_for (di_tup (de_ix (de_var 0) de_int)) (dg_name (i := 2) (fun _ => sc__law_program_parts.nd))
    (dss_one (ds_set (i := 1) (de_op ok_add (de_var 1) (de_call G__law_program_parts (fun _ => hr.mono (by omega)) (fun _ => pas (takes_of rfl rfl rfl rfl)) (da_cons (de_var 2) da_nil))) (fun _ => sc__law_program_parts.nd))) (fun _ => passes_of rfl))
    (dss_one (ds_ret (de_var 1))))),  fun ds Q Ex hl hf => ?_⟩
  match ds, hl, hf with
  | [_], _, ⟨p, rfl, hd, h60, hq⟩ =>
    have e0 : startD 3 [ptD p] = [Sl.d (ptD p), Sl.no, Sl.no] := rfl
    have hnN : (["_law_program", "_law_found", "_law_one"] : List Str).length = 3 := rfl
    rw [hnN, e0]
    clear e0 hnN
    cases p with
    | mk b h as =>
    rw [sizeT] at hd h60
    rw [partsT] at hq
    refine seq_v (.lst ((Pt.mk b h as :: partsTs []).map ptD)) (ev_lst (a1 (fun Q E q => q) a0) (line rfl)) ?_
    refine seq_for (as.map ptD) (fun Q E q => by
      show rdIx (ptD (.mk b h as)) (.int 2) _
      rw [ptD_eq]
      exact ⟨_, rfl, q⟩) ?_
    refine for_of ptD (fun pre ρ => ∃ o, ρ = [Sl.d (ptD (.mk b h as)), Sl.d (.lst ((Pt.mk b h as :: partsTs pre).map ptD)), o]) as [] _ ⟨_, rfl⟩ ?_ ?_
    · rintro j pre post eq ρ K ⟨o, rfl⟩ hK
      rw [List.nil_append] at eq
      have hs : sizeTs as = sizeTs pre + (sizeT j + sizeTs post) := by rw [eq, sizeTs_app, sizeTs]
      refine ⟨_, rfl, ?_⟩
      refine end_v (.lst ((Pt.mk b h as :: partsTs pre).map ptD ++ (partsT j).map ptD)) (ev_op (x := .lst ((Pt.mk b h as :: partsTs pre).map ptD)) (y := .lst ((partsT j).map ptD)) (fun Q E q => q) (ev_call (a1 (fun Q E q => q) a0) rfl fun Q E q => ⟨j, rfl, by omega, by omega, q⟩) fun Q q => ⟨?_, q⟩) (hK _ ⟨.d (ptD j), ?_⟩)
      · rw [List.length_map, List.length_map, List.length_cons, parts_lenTs, parts_lenT]
        exact size_small (by omega)
      · rw [partsTs_app, partsTs, partsTs, List.append_nil, ← List.map_append]
        rfl
    · rintro ρ ⟨o, rfl⟩
      rw [List.nil_append]
      dsimp only
      exact ret_v (.lst ((Pt.mk b h as :: partsTs as).map ptD)) (fun Q E q => q) hq
theorem rs__law_program_parts {P : Program} {w : World} {mg : Gm} {base : Heap} {Z : Ads} (A : All mg Z) : ∀ d : Nat, DefOk P w mg base (d + 1) "_law_program_parts" 1 (f_ppartsT d)
  | 0 => nv__law_program_parts A
  | d + 1 => ok__law_program_parts A (rs__law_program_parts A d)
theorem nv__law_drawn {P : Program} {w : World} {mg : Gm} {base : Heap} {Z : Ads} {k : Nat} (A : All mg Z) : DefOk P w mg base k "_law_drawn" 3 (f_drawnH wL16 0) :=
  (DefOk.never (ps := ["_law_dice_here", "_law_bound", "_law_most"]) A.d__law_drawn (fun _ _ _ _ _ _ us hl => match us, hl with | [_, _, _], _ => rfl)).mono (Nat.le_refl _) (nope_drawnH wL16)
theorem ok__law_drawn {P : Program} {w : World} {mg : Gm} {base : Heap} {Z : Ads} {d : Nat} (A : All mg Z) (G__law_drawn : DefOk P w mg base (d + 63) "_law_drawn" 3 (f_drawnH wL16 d)) (G__law_pick : DefOk P w mg base 2 "_law_pick" 2 f_pick) (G__law_program_parts : DefOk P w mg base 62 "_law_program_parts" 1 (f_ppartsT 61)) (G__law_roll : DefOk P w mg base 1 "_law_roll" 2 f_roll) : DefOk P w mg base (d + 64) "_law_drawn" 3 (f_drawnH wL16 (d + 1)) := by
  refine mkDef (N := ["_law_dice_here", "_law_bound", "_law_most", "_law_binders", "_law_left", "_law_args", "_law_names", "_law_head", "_law_turn", "_law_at"]) (ps := ["_law_dice_here", "_law_bound", "_law_most"]) A.d__law_drawn sc__law_drawn (fun _ _ _ _ _ _ us hl => match us, hl with | [_, _, _], _ => rfl) fun fa cdv Ar outer s H E hr => ⟨_,
    (dss_cons (ds_par3L (i := 3) (j := 4) (l := 5) (de_call G__law_pick (fun _ => hr.mono (by omega)) (fun _ => pas (takes_of rfl rfl rfl rfl)) (da_cons (de_var 0) (da_cons (de_lst (da_cons de_int (da_cons de_int (da_cons de_int (da_cons de_int da_nil))))) da_nil))) (de_op ok_sub (de_var 2) de_int) (do_lst da_nil) (fun _ => sc__law_drawn.nd))
    (dss_cons (ds_setLc (i := 6) (own := [("_law_at", 9)]) (fun _ => sc__law_drawn.nd) (di_range1 A.n_range (da_cons (de_op ok_add (de_var 1) (de_var 3)) da_nil)) (fun _ => blkOk_by (by kernel_rfl)) (dg_name (i := 9) (fun _ => sc__law_drawn.nd)) dts_nil (de_op ok_add de_str (de_callTy ok_str A.n_str FP.boot_str (da_cons (de_var 9) da_nil))) (fun _ => sw_true rfl rfl rfl (by decide +kernel)))
    (dss_cons (ds_set (i := 7) (de_call G__law_pick (fun _ => hr.mono (by omega)) (fun _ => pas (takes_of rfl rfl rfl rfl)) (da_cons (de_var 0) (da_cons (de_op ok_add (de_op ok_add (de_lst (da_cons de_str (da_cons de_str (da_cons de_str da_nil)))) (de_var 6)) (de_var 6)) da_nil))) (fun _ => sc__law_drawn.nd))
    (dss_cons (ds_for (di_range1 A.n_range (da_cons (de_call G__law_roll (fun _ => hr.mono (by omega)) (fun _ => pas (takes_of rfl rfl rfl rfl)) (da_cons (de_var 0) (da_cons de_int da_nil))) da_nil)) (dg_name (i := 8) (fun _ => sc__law_drawn.nd))
    (dss_one (ds_if (dt_cmp ok_gt (de_var 4) de_int)
    (dss_cons (ds_append 5 (de_call G__law_drawn (fun _ => hr.mono (by omega)) (fun _ => pas (takes_of rfl rfl rfl rfl)) (da_cons (de_var 0) (da_cons (de_op ok_add (de_var 1) (de_var 3)) (da_cons (de_callB ok_max A.n_max FP.boot_max (da_cons de_int (da_cons (de_op ok_fdiv (de_var 4) de_int) da_nil))) da_nil)))) (pe := fun _ _ h => ps_expr (pe_bm PySem.F.plainAttrs_list PySem.F.slot_list_append PySem.F.type_list_append mt_append (pv 5) (pa_cons h pa_nil))))
    (dss_one (ds_set (i := 4) (de_op ok_sub (de_var 4) (de_viewL 5 (de_callB ok_len A.n_len FP.boot_len (da_cons (de_call G__law_program_parts (fun _ => hr.mono (by omega)) (fun _ => pas (takes_of rfl rfl rfl rfl)) (da_cons (de_ix (de_var 5) (de_neg de_int)) da_nil)) da_nil)))) (fun _ => sc__law_drawn.nd))))
    dss_nil)) (fun _ => passes_of rfl))
    (dss_one (ds_frz 5 (ds_ret (de_tup (da_cons (de_var 3) (da_cons (de_var 7) (da_cons (de_callTy ok_tuple A.n_tuple FP.boot_tuple (da_cons (de_var 5) da_nil)) da_nil))))))))))),  fun ds Q Ex hl hf => ?_⟩
  match ds, hl, hf with
  | [.tok, .int _, .int _], _, ⟨b, m, rfl, rfl, h1, hd, h40, hb, hq⟩ =>
    have e0 : startD 10 [.tok, .int b, .int m] = [Sl.d (.tok), Sl.d (.int b), Sl.d (.int m), Sl.no, Sl.no, Sl.no, Sl.no, Sl.no, Sl.no, Sl.no] := rfl
    have hnN : (["_law_dice_here", "_law_bound", "_law_most", "_law_binders", "_law_left", "_law_args", "_law_names", "_law_head", "_law_turn", "_law_at"] : List Str).length = 10 := rfl
    rw [hnN, e0]
    clear e0 hnN
    refine seq_par3L (xs := []) (fun d => ∃ c : Nat, d = .int c ∧ c ≤ 2) (.int ((m - 1 : Nat) : Int)) (fun Q E q => ⟨line rfl, rfl, pkN rfl, fun d hd => q d ?_⟩) (ev_op (x := .int m) (y := .int 1) (fun Q E q => q) (fun Q E q => q) fun Q q => by
      show Q (.int ((m : Int) - 1))
      rw [show (m : Int) - 1 = ((m - 1 : Nat) : Int) by omega]
      exact q) (fun Q E q => ⟨by decide, q⟩) ?_
    · simp only [List.mem_cons, List.not_mem_nil, or_false] at hd
      rcases hd with rfl | rfl | rfl | rfl
      · exact ⟨0, rfl, by decide⟩
      · exact ⟨0, rfl, by decide⟩
      · exact ⟨1, rfl, by decide⟩
      · exact ⟨2, rfl, by decide⟩
    rintro _ ⟨c, rfl, hc⟩
    refine seq_v (.lst ((List.range (b + c)).map fun k => .str (xS k))) (ev_names (n := b + c) (by omega) (ev_op (x := .int b) (y := .int c) (fun Q E q => q) (fun Q E q => q) fun Q q => q) fun k => rfl) ?_
    have hnl : ((List.range (b + c)).map fun k => D.str (xS k)).length = b + c := by rw [List.length_map, List.length_range]
    have hev : Ev (dOp rdAdd (dOp rdAdd (dLst (dCons (dC (.str "f")) (dCons (dC (.str "gg")) (dCons (dC (.str "x")) dNil)))) (dVar 6)) (dVar 6)) [Sl.d .tok, Sl.d (.int b), Sl.d (.int m), Sl.d (.int c), Sl.d (.int ((m - 1 : Nat) : Int)), Sl.own [], Sl.d (.lst ((List.range (b + c)).map fun k => .str (xS k))), Sl.no, Sl.no, Sl.no] (.lst ([.str "f", .str "gg", .str "x"] ++ ((List.range (b + c)).map fun k => D.str (xS k)) ++ ((List.range (b + c)).map fun k => D.str (xS k)))) :=
      ev_op (x := .lst ([.str "f", .str "gg", .str "x"] ++ ((List.range (b + c)).map fun k => D.str (xS k)))) (y := .lst ((List.range (b + c)).map fun k => D.str (xS k))) (ev_op (x := .lst [.str "f", .str "gg", .str "x"]) (y := .lst ((List.range (b + c)).map fun k => D.str (xS k))) (ev_lst (a1 (fun Q E q => q) (a1 (fun Q E q => q) (a1 (fun Q E q => q) a0))) (line rfl)) (fun Q E q => q) fun Q q => ⟨by
        rw [hnl]
        exact size_small (by show 3 + (b + c) ≤ 1000; omega), q⟩) (fun Q E q => q) fun Q q => ⟨by
        rw [List.length_append, hnl]
        exact size_small (by show 3 + (b + c) + (b + c) ≤ 1000; omega), q⟩
    have hlen : ([D.str "f", .str "gg", .str "x"] ++ ((List.range (b + c)).map fun k => D.str (xS k)) ++ ((List.range (b + c)).map fun k => D.str (xS k))).length = 3 + (b + c) + (b + c) := by
      rw [List.length_append, List.length_append, hnl]
      rfl
    have hmem : ∀ d ∈ ([D.str "f", .str "gg", .str "x"] ++ ((List.range (b + c)).map fun k => D.str (xS k)) ++ ((List.range (b + c)).map fun k => D.str (xS k))), ∃ h, d = .str h ∧ scH (fun z => z ∈ wL16) (b + c) h := by
      intro d hd
      simp only [List.mem_append, List.mem_cons, List.not_mem_nil, or_false, List.mem_map, List.mem_range] at hd
      rcases hd with ((rfl | rfl | rfl) | ⟨k, hk, rfl⟩) | ⟨k, hk, rfl⟩
      · exact ⟨"f", rfl, .inl (show ("f" : Str) ∈ wL16 by decide +kernel)⟩
      · exact ⟨"gg", rfl, .inl (show ("gg" : Str) ∈ wL16 by decide +kernel)⟩
      · exact ⟨"x", rfl, .inl (show ("x" : Str) ∈ wL16 by decide +kernel)⟩
      · exact ⟨xS k, rfl, .inr ⟨k, hk, rfl⟩⟩
      · exact ⟨xS k, rfl, .inr ⟨k, hk, rfl⟩⟩
    refine seq_p (fun d => ∃ h, d = .str h ∧ scH (fun z => z ∈ wL16) (b + c) h) (fun Q E q => (a1 (d := .tok) (fun Q E q => q) (a1 hev a0)) _ _ ⟨rfl, by rw [hlen]; exact ⟨by omega, Nat.lt_of_le_of_lt (show _ ≤ 1000 by omega) (by decide)⟩, fun d hd => q d (hmem d hd)⟩) ?_
    rintro _ ⟨h, rfl, hh⟩
    refine seq_forP (fun ds => ∃ r : Nat, ds = rangeD 0 r ∧ r ≤ 3) (fun Q E q => ⟨rfl, ⟨by decide, by decide⟩, fun r hr0 hr1 => ⟨by omega, by omega, q _ ⟨r.toNat, rfl, by omega⟩⟩⟩) ?_
    rintro _ ⟨r, rfl, hr⟩
    refine for_st (fun rest ρ => ∃ (as : List Pt) (l : Nat) (t : Sl), rest.length + as.length ≤ 3 ∧ dhTs wL16 (hB m - 1) (b + c) as ∧ sizeTs as + l = m - 1 ∧ ρ = [Sl.d .tok, Sl.d (.int b), Sl.d (.int m), Sl.d (.int c), Sl.d (.int l), Sl.own (as.map ptD), Sl.d (.lst ((List.range (b + c)).map fun k => .str (xS k))), Sl.d (.str h), t, Sl.no]) ?_ ?_ _ _ ⟨[], m - 1, _, by rw [rangeD_len]; simpa using hr, trivial, by rw [sizeTs]; omega, rfl⟩
    · rintro ρ ⟨as, l, t, hl3, hsc, hsz, rfl⟩
      have hal : as.length ≤ 3 := by
        have e : ([] : List D).length = 0 := rfl
        omega
      dsimp only
      refine frz_ret rfl (ret_v (ptD (.mk c h as)) ?_ (hq (.mk c h as) ?_ ?_))
      · rw [ptD_eq]
        exact ev_tup (a1 (fun Q E q => q) (a1 (fun Q E q => q) (a1 (ev_cb (a1 (d := .lst (as.map ptD)) (fun Q E q => q) a0) fun Q q => q) a0))) (line rfl)
      · rw [hB_pos m, dhT]
        exact ⟨hc, hal, hh, hsc⟩
      · rw [sizeT]
        omega
    · rintro x rest ρ ⟨as, l, t, hl3, hsc, hsz, rfl⟩
      rw [List.length_cons] at hl3
      refine ⟨_, rfl, fun K hK => ?_⟩
      have et : EvT (dB (dOp rdGt (dVar 4) (dC (.int 0)))) [Sl.d .tok, Sl.d (.int b), Sl.d (.int m), Sl.d (.int c), Sl.d (.int l), Sl.own (as.map ptD), Sl.d (.lst ((List.range (b + c)).map fun k => .str (xS k))), Sl.d (.str h), Sl.d x, Sl.no] (decide (0 < l)) := b_v (ev_op (x := .int l) (y := .int 0) (fun Q E q => q) (fun Q E q => q) fun Q q => by
        show Q (.bl (decide ((0 : Int) < (l : Int))))
        rw [show decide ((0 : Int) < (l : Int)) = decide (0 < l) from decide_eq_decide.mpr ⟨fun h => by omega, fun h => by omega⟩]
        exact q)
      by_cases hl : 0 < l
      case neg =>
        rw [decide_eq_false hl] at et
        exact end_ifF et (hK _ ⟨as, l, _, by omega, hsc, hsz, rfl⟩)
      rw [decide_eq_true hl] at et
      refine end_ifT et ?_
      have hdl : Ev (dOp rdFdiv (dVar 4) (dC (.int 2))) [Sl.d .tok, Sl.d (.int b), Sl.d (.int m), Sl.d (.int c), Sl.d (.int l), Sl.own (as.map ptD), Sl.d (.lst ((List.range (b + c)).map fun k => .str (xS k))), Sl.d (.str h), Sl.d x, Sl.no] (.int ((l / 2 : Nat) : Int)) := ev_op (x := .int l) (y := .int 2) (fun Q E q => q) (fun Q E q => q) fun Q q => ⟨⟨by decide, by decide⟩, by
        show Q (.int ((l : Int).fdiv 2))
        rw [show (l : Int).fdiv 2 = ((l / 2 : Nat) : Int) by rw [Int.fdiv_eq_ediv_of_nonneg _ (by decide)]; rfl]
        exact q⟩
      have hmx : Ev (dCB rdMax (dCons (dC (.int 1)) (dCons (dOp rdFdiv (dVar 4) (dC (.int 2))) dNil))) [Sl.d .tok, Sl.d (.int b), Sl.d (.int m), Sl.d (.int c), Sl.d (.int l), Sl.own (as.map ptD), Sl.d (.lst ((List.range (b + c)).map fun k => .str (xS k))), Sl.d (.str h), Sl.d x, Sl.no] (.int ((max 1 (l / 2) : Nat) : Int)) := ev_cb (a1 (d := .int 1) (fun Q E q => q) (a1 hdl a0)) fun Q q => by
        show Q (.int (if ((l / 2 : Nat) : Int) > 1 then ((l / 2 : Nat) : Int) else 1))
        rw [show (if ((l / 2 : Nat) : Int) > 1 then ((l / 2 : Nat) : Int) else 1) = ((max 1 (l / 2) : Nat) : Int) by split <;> omega]
        exact q
      have has : (as.map ptD).length < sizeLine := by
        rw [List.length_map]
        exact Nat.lt_of_le_of_lt (show as.length ≤ 3 by omega) (by decide)
      refine seq_appP rfl (fun d => ∃ p, d = ptD p ∧ dhT wL16 (hB m - 1) (b + c) p ∧ sizeT p ≤ l) has (fun Q E q => (a1 (d := .tok) (fun Q E q => q) (a1 (d := .int ((b + c : Nat) : Int)) (ev_op (x := .int b) (y := .int c) (fun Q E q => q) (fun Q E q => q) fun Q q => q) (a1 hmx a0))) _ _ ⟨rfl, b + c, max 1 (l / 2), rfl, rfl, by omega, by omega, by omega, by omega, fun p hp hps => q _ ⟨p, rfl, dh_mono p _ _ _ hp (hB_less hl (by omega) h40), by omega⟩⟩) ?_
      · rintro _ ⟨p, rfl, hp, hps⟩
        have hpp := size_pos p
        refine end_v (.int ((l - sizeT p : Nat) : Int)) (ev_op (x := .int l) (y := .int (sizeT p : Nat)) (fun Q E q => q) (ev_viewL (xs := as.map ptD ++ [ptD p]) rfl rfl (ev_cb (a1 (d := .lst ((partsT p).map ptD)) (ev_call (a1 (d := ptD p) (ev_op (x := .lst (as.map ptD ++ [ptD p])) (y := .int (-1)) (fun Q E q => q) (fun Q E q => q) fun Q q => ⟨_, at_last (by simp), q⟩) a0) rfl fun Q E q => ⟨p, rfl, by omega, by omega, q⟩) a0) fun Q q => by
          show Q (.int (((partsT p).map ptD).length : Nat))
          rw [List.length_map, parts_lenT]
          exact q)) fun Q q => by
          show Q (.int ((l : Int) - (sizeT p : Nat)))
          rw [show (l : Int) - (sizeT p : Nat) = ((l - sizeT p : Nat) : Int) by omega]
          exact q) (hK _ ⟨as ++ [p], l - sizeT p, .d x, ?_, dhs_app hsc ?_, ?_, ?_⟩)
        · rw [List.length_append, List.length_singleton]
          omega
        · rw [dhTs]
          exact ⟨hp, trivial⟩
        · rw [sizeTs_app, sizeTs, sizeTs]
          omega
        · rw [List.map_append]
          rfl
theorem rs__law_drawn {P : Program} {w : World} {mg : Gm} {base : Heap} {Z : Ads} (A : All mg Z) (G__law_pick : DefOk P w mg base 2 "_law_pick" 2 f_pick) (G__law_program_parts : DefOk P w mg base 62 "_law_program_parts" 1 (f_ppartsT 61)) (G__law_roll : DefOk P w mg base 1 "_law_roll" 2 f_roll) : ∀ d : Nat, DefOk P w mg base (d + 63) "_law_drawn" 3 (f_drawnH wL16 d)
  | 0 => nv__law_drawn A
  | d + 1 => ok__law_drawn A (rs__law_drawn A G__law_pick G__law_program_parts G__law_roll d) G__law_pick G__law_program_parts G__law_roll
theorem nv__law_program_text {P : Program} {w : World} {mg : Gm} {base : Heap} {Z : Ads} {k : Nat} (A : All mg Z) : DefOk P w mg base k "_law_program_text" 2 (f_lptext 0) :=
  (DefOk.never (ps := ["_law_program", "_law_bound"]) A.d__law_program_text (fun _ _ _ _ _ _ us hl => match us, hl with | [_, _], _ => rfl)).mono (Nat.le_refl _) (nope_lptext)
theorem ok__law_program_text {P : Program} {w : World} {mg : Gm} {base : Heap} {Z : Ads} {d : Nat} (A : All mg Z) (G__law_program_text : DefOk P w mg base (d + 1) "_law_program_text" 2 (f_lptext d)) : DefOk P w mg base (d + 2) "_law_program_text" 2 (f_lptext (d + 1)) := by
  refine mkDef (N := ["_law_program", "_law_bound", "_law_words", "_law_one", "_law_names", "_law_text", "_law_at"]) (ps := ["_law_program", "_law_bound"]) A.d__law_program_text sc__law_program_text (fun _ _ _ _ _ _ us hl => match us, hl with | [_, _], _ => rfl) fun fa cdv Ar outer s H E hr => ⟨_,
    (dss_cons (ds_setO (i := 2) (do_lst (da_cons (de_ix (de_var 0) de_int) da_nil)) (fun _ => sc__law_program_text.nd))
    (dss_cons (ds_for (di_tup (de_ix (de_var 0) de_int)) (dg_name (i := 3) (fun _ => sc__law_program_text.nd))
    (dss_cons (ds_set (i := 5) (de_call G__law_program_text (fun _ => hr.mono (by omega)) (fun _ => pas (takes_of rfl rfl rfl rfl)) (da_cons (de_var 3) (da_cons (de_op ok_add (de_var 1) (de_ix (de_var 0) de_int)) da_nil))) (fun _ => sc__law_program_text.nd))
    (dss_one (ds_append 2 (de_if (dt_w (dw_and (dt_cmp (ok_eq (fun _ => hr.r.units)) (de_ix (de_var 3) de_int) de_int) (dw_and1 (dt_cmp (ok_eqT0 (fun _ => hr.r.units)) (de_ix (de_var 3) de_int) (de_tup da_nil))))) (de_var 5) (de_op ok_add (de_op ok_add de_str (de_var 5)) de_str)) (pe := fun _ _ h => ps_expr (pe_bm PySem.F.plainAttrs_list PySem.F.slot_list_append PySem.F.type_list_append mt_append (pv 2) (pa_cons h pa_nil)))))) (fun _ => passes_of rfl))
    (dss_cons (ds_setLc (i := 4) (own := [("_law_at", 6)]) (fun _ => sc__law_program_text.nd) (di_range1 A.n_range (da_cons (de_ix (de_var 0) de_int) da_nil)) (fun _ => blkOk_by (by kernel_rfl)) (dg_name (i := 6) (fun _ => sc__law_program_text.nd)) dts_nil (de_op ok_add de_str (de_callTy ok_str A.n_str FP.boot_str (da_cons (de_op ok_add (de_var 1) (de_var 6)) da_nil))) (fun _ => sw_true rfl rfl rfl (by decide +kernel)))
    (dss_one (ds_frz 2 (ds_ret (de_op ok_add (de_if (dt_cmp (ok_ne (fun _ => hr.r.units)) (de_var 4) (de_lst da_nil)) (de_op ok_add (de_op ok_add de_str (de_join de_str (de_var 4))) de_str) de_str) (de_join de_str (de_var 2))))))))),  fun ds Q Ex hl hf => ?_⟩
  match ds, hl, hf with
  | [_, .int _], _, ⟨W, p, bd, hW, rfl, rfl, hs, hd, h60, hq⟩ =>
    have e0 : startD 7 [ptD p, .int bd] = [Sl.d (ptD p), Sl.d (.int bd), Sl.no, Sl.no, Sl.no, Sl.no, Sl.no] := rfl
    have hnN : (["_law_program", "_law_bound", "_law_words", "_law_one", "_law_names", "_law_text", "_law_at"] : List Str).length = 7 := rfl
    rw [hnN, e0]
    clear e0 hnN
    cases p with
    | mk b h as =>
    have hs2 := hs
    rw [scT] at hs2
    obtain ⟨hb, hal, hbb, hh, hsa⟩ := hs2
    have hsz := h60
    rw [sizeT] at hsz hd
    have hlen1 := args_len hW as (bd + b) hsa
    have hlh := scH.len hW hbb hh
    have hargs : (argsT (bd + b) as).length = as.length := by rw [argsT_map, List.length_map]
    rw [ptD_eq]
    refine seq_o1 (.str h) (ev_op (x := .tup [.int (b : Nat), .str h, .tup (as.map ptD)]) (y := .int 1) (fun Q E q => q) (fun Q E q => q) fun Q q => ⟨_, rfl, q⟩) ?_
    refine seq_for (as.map ptD) (fun Q E q => ⟨_, rfl, q⟩) ?_
    refine for_of ptD (fun pre ρ => ∃ o t, ρ = [Sl.d (.tup [.int (b : Nat), .str h, .tup (as.map ptD)]), Sl.d (.int bd), Sl.own ((h :: argsT (bd + b) pre).map .str), o, Sl.no, t, Sl.no]) as [] _ ⟨_, _, rfl⟩ ?_ ?_
    · rintro j pre post eq ρ K ⟨o, t, rfl⟩ hK
      rw [List.nil_append] at eq
      have hmem : j ∈ as := by rw [eq]; simp
      have hj := scTs_mem hsa j hmem
      have hz := size_in hmem
      have htl := txt_len hW j (bd + b) hj
      have hpl : pre.length ≤ 15 := by
        have := congrArg List.length eq
        rw [List.length_append, List.length_cons] at this
        omega
      refine ⟨_, rfl, ?_⟩
      refine seq_v (.str (textT (bd + b) j)) (ev_call (a1 (fun Q E q => q) (a1 (d := .int ((bd + b : Nat) : Int)) (ev_op (x := .int bd) (y := .int (b : Nat)) (fun Q E q => q) (ev_op (x := .tup [.int (b : Nat), .str h, .tup (as.map ptD)]) (y := .int 0) (fun Q E q => q) (fun Q E q => q) fun Q q => ⟨_, rfl, q⟩) fun Q q => q) a0)) rfl fun Q E q => ⟨W, j, bd + b, hW, rfl, rfl, hj, by omega, by omega, q⟩) ?_
      cases j with
      | mk jb jh jas =>
      rw [ptD_eq]
      refine end_app rfl (.str (parT (flatT (.mk jb jh jas)) (textT (bd + b) (.mk jb jh jas)))) ?_ (ev_if (b := decide (jb = 0) && jas.isEmpty) (and_v (b_v (ev_op (x := .int (jb : Nat)) (y := .int 0) (ev_op (x := .tup [.int (jb : Nat), .str jh, .tup (jas.map ptD)]) (y := .int 0) (fun Q E q => q) (fun Q E q => q) fun Q q => ⟨_, rfl, q⟩) (fun Q E q => q) fun Q q => eq_int ?_)) fun _ => b_v (ev_op (x := .tup (jas.map ptD)) (y := .tup []) (ev_op (x := .tup [.int (jb : Nat), .str jh, .tup (jas.map ptD)]) (y := .int 2) (fun Q E q => q) (fun Q E q => q) fun Q q => ⟨_, rfl, q⟩) (ev_tup a0 (line rfl)) fun Q q => ?_)) (fun hc => Ev.eq (fun Q E q => q) ?_) fun hc => Ev.eq (ev_op (x := .str (("(" : Str) ++ textT (bd + b) (.mk jb jh jas))) (y := .str ")") (ev_op (x := .str "(") (y := .str (textT (bd + b) (.mk jb jh jas))) (fun Q E q => q) (fun Q E q => q) fun Q q => ⟨?_, q⟩) (fun Q E q => q) fun Q q => ⟨?_, q⟩) ?_) (hK _ ⟨.d (.tup [.int (jb : Nat), .str jh, .tup (jas.map ptD)]), .d (.str (textT (bd + b) (.mk jb jh jas))), ?_⟩)
      · rw [List.length_map, List.length_cons, argsT_map, List.length_map]
        exact Nat.lt_of_le_of_lt (show pre.length + 1 ≤ 16 by omega) (by decide)
      · rw [show decide (((jb : Nat) : Int) = 0) = decide (jb = 0) from decide_eq_decide.mpr ⟨fun h => by omega, fun h => by omega⟩]
        exact q
      · show Q (.bl (jas.map ptD).isEmpty)
        rw [List.isEmpty_map]
        exact q
      · have hf : flatT (.mk jb jh jas) = true := hc
        rw [hf]
        rfl
      · have e1 : ("(" : Str).length = 1 := by decide +kernel
        rw [e1]
        exact Nat.le_trans (show _ ≤ 10000 by omega) (by decide)
      · have e1 : ("(" : Str).length = 1 := by decide +kernel
        have e2 : (")" : Str).length = 1 := by decide +kernel
        rw [len_app, e1, e2]
        exact Nat.le_trans (show _ ≤ 10000 by omega) (by decide)
      · have hf : flatT (.mk jb jh jas) = false := hc
        rw [hf]
        rfl
      · have e : h :: argsT (bd + b) (pre ++ [.mk jb jh jas]) = (h :: argsT (bd + b) pre) ++ [parT (flatT (.mk jb jh jas)) (textT (bd + b) (.mk jb jh jas))] := by
          rw [argsT_map, List.map_append, argsT_map, List.cons_append]
          rfl
        rw [e, List.map_append]
        rfl
    · rintro ρ ⟨o, t, rfl⟩
      rw [List.nil_append]
      dsimp only
      refine seq_v (.lst ((xsL bd b).map .str)) (Ev.eq (ev_lc (fun k : Nat => D.int ((0 : Int) + k)) (fun k => .str (xS (bd + k))) (xs := List.range b) (fun Q E q => (ev_op (d := .int (b : Nat)) (x := .tup [.int (b : Nat), .str h, .tup (as.map ptD)]) (y := .int 0) (fun Q E q => q) (fun Q E q => q) fun Q q => ⟨_, rfl, q⟩) _ _ ⟨by omega, by omega, by rw [Int.toNat_natCast]; exact q⟩) (size_small (by rw [List.length_range]; omega)) fun k hk => ⟨_, rfl, ev_xs (by have := List.mem_range.mp hk; omega) (ev_op (x := .int bd) (y := .int ((0 : Int) + k)) (fun Q E q => q) (fun Q E q => q) fun Q q => by
        show Q (.int ((bd : Int) + ((0 : Int) + k)))
        rw [show (bd : Int) + ((0 : Int) + k) = ((bd + k : Nat) : Int) by omega]
        exact q)⟩) (by unfold xsL; rw [List.map_map]; rfl)) ?_
      have hj := join1_len (h :: argsT (bd + b) as)
      rw [List.map_cons, List.sum_cons, List.length_cons] at hj
      have hht := headT_len hb hbb
      have hxs : ∀ z ∈ xsL bd b, PyData.strOk z = true := fun z hz => by
        unfold xsL at hz
        obtain ⟨k, hk, rfl⟩ := List.mem_map.mp hz
        have hk := List.mem_range.mp hk
        exact (x_ok (bd + k) (by omega)).1
      have hsp : (" " : Str).length = 1 := by decide +kernel
      have hns := names_sum hbb
      refine frz_ret rfl (ret_v (.str (textT bd (.mk b h as))) (ev_op (x := .str (headT bd b)) (y := .str (Str.join " " (h :: argsT (bd + b) as))) (ev_if (b := !((xsL bd b).map D.str).isEmpty) (b_v (ev_op (x := .lst ((xsL bd b).map .str)) (y := .lst []) (fun Q E q => q) (ev_lst a0 (line rfl)) fun Q q => neNil (sh_strs hxs) q)) (fun hp => ?_) fun hp => Ev.eq (fun Q E q => q) ?_) (ev_joinS (fun Q E q => q) (fun Q E q => q) ?_) fun Q q => ⟨?_, ?_⟩) hq)
      · have hb0 : ¬ b = 0 := fun e => by
          rw [e] at hp
          cases hp
        have h2 := join1_len (xsL bd b)
        rw [xsL_len] at h2
        have e1 : ("\\" : Str).length = 1 := by decide +kernel
        have e2 : (". " : Str).length = 2 := by decide +kernel
        refine (ev_op (x := .str (("\\" : Str) ++ Str.join " " (xsL bd b))) (y := .str ". ") (ev_op (x := .str "\\") (y := .str (Str.join " " (xsL bd b))) (fun Q E q => q) (ev_joinS (fun Q E q => q) (fun Q E q => q) (by rw [xsL_len, hsp]; omega)) fun Q q => ⟨by rw [e1]; exact size_small (by omega), q⟩) (fun Q E q => q) fun Q q => ⟨by rw [len_app, e1, e2]; exact size_small (by omega), q⟩).eq ?_
        unfold headT
        rw [if_neg hb0]
      · have hb0 : b = 0 := by
          cases b with
          | zero => rfl
          | succ b =>
            unfold xsL at hp
            rw [List.range_succ_eq_map] at hp
            exact absurd hp (by simp)
        unfold headT
        rw [if_pos hb0]
      · rw [List.map_cons, List.sum_cons, List.length_cons, hsp]
        omega
      · exact Nat.le_trans (show _ ≤ 10000 by omega) (by decide)
      · rw [textT] at q
        exact q
theorem rs__law_program_text {P : Program} {w : World} {mg : Gm} {base : Heap} {Z : Ads} (A : All mg Z) : ∀ d : Nat, DefOk P w mg base (d + 1) "_law_program_text" 2 (f_lptext d)
  | 0 => nv__law_program_text A
  | d + 1 => ok__law_program_text A (rs__law_program_text A d)
theorem ok__law_bent {P : Program} {w : World} {mg : Gm} {base : Heap} {Z : Ads} (A : All mg Z) (G__law_pick : DefOk P w mg base 2 "_law_pick" 2 f_pick) (G__law_roll : DefOk P w mg base 1 "_law_roll" 2 f_roll) : DefOk P w mg base 150 "_law_bent" 2 f_bent := by
  refine mkDef (N := ["_law_dice_here", "_law_text", "_law_at", "_law_sign"]) (ps := ["_law_dice_here", "_law_text"]) A.d__law_bent sc__law_bent (fun _ _ _ _ _ _ us hl => match us, hl with | [_, _], _ => rfl) fun fa cdv Ar outer s H E hr => ⟨_,
    (dss_cons (ds_par (i := 2) (j := 3) (da_cons (de_call G__law_roll (fun _ => hr.mono (by omega)) (fun _ => pas (takes_of rfl rfl rfl rfl)) (da_cons (de_var 0) (da_cons (de_op ok_add (de_callB ok_len A.n_len FP.boot_len (da_cons (de_var 1) da_nil)) de_int) da_nil))) (da_cons (de_call G__law_pick (fun _ => hr.mono (by omega)) (fun _ => pas (takes_of rfl rfl rfl rfl)) (da_cons (de_var 0) (da_cons (de_lst (da_cons de_str (da_cons de_str (da_cons de_str (da_cons de_str (da_cons de_str (da_cons de_str (da_cons de_str (da_cons de_str (da_cons de_str (da_cons de_str da_nil))))))))))) da_nil))) da_nil)) (fun _ => sc__law_bent.nd))
    (dss_one (ds_ret (de_op ok_add (de_op ok_add (de_slice (de_var 1) do_none (do_some (de_var 2))) (de_call G__law_pick (fun _ => hr.mono (by omega)) (fun _ => pas (takes_of rfl rfl rfl rfl)) (da_cons (de_var 0) (da_cons (de_lst (da_cons (de_var 3) (da_cons (de_var 3) (da_cons de_str da_nil)))) da_nil)))) (de_slice (de_var 1) (do_some (de_op ok_add (de_var 2) (de_call G__law_roll (fun _ => hr.mono (by omega)) (fun _ => pas (takes_of rfl rfl rfl rfl)) (da_cons (de_var 0) (da_cons de_int da_nil))))) do_none))))),  fun ds Q Ex hl hf => ?_⟩
  match ds, hl, hf with
  | [.tok, .str z], _, ⟨hz, hz9, hq⟩ =>
    obtain ⟨zs, rfl⟩ : ∃ zs, z = SX.S zs := ⟨_, (SX.S_tl z).symm⟩
    rw [SX.S_len] at hz9
    replace hq : ∀ a m s, m ≤ 3 → s ∈ insL → Q (.str (SX.S (bentL zs a m s))) := hq
    have e0 : startD 4 [.tok, .str (SX.S zs)] = [Sl.d (.tok), Sl.d (.str (SX.S zs)), Sl.no, Sl.no] := rfl
    have hnN : (["_law_dice_here", "_law_text", "_law_at", "_law_sign"] : List Str).length = 4 := rfl
    rw [hnN, e0]
    clear e0 hnN
    refine seq_parP (fun d => ∃ a : Nat, d = .int (a : Nat)) (fun d => ∃ s : Str, d = .str s ∧ s ∈ insL) (fun Q E q => ?_) (fun Q E q => ?_) ?_
    · refine (a1 (d := .tok) (fun Q E q => q) (a1 (d := .int ((zs.length + 1 : Nat) : Int)) (ev_op (x := .int (zs.length : Nat)) (y := .int 1) (ev_cb (d := .int (zs.length : Nat)) (a1 (d := .str (SX.S zs)) (fun Q E q => q) a0) fun Q q => ⟨len_ok hz, by rw [SX.S_len]; exact q⟩) (fun Q E q => q) fun Q q => q) a0)) _ _ ⟨rfl, ⟨by omega, by omega⟩, fun r h0 h1 => q _ ⟨r.toNat, by rw [Int.toNat_of_nonneg h0]⟩⟩
    · refine ⟨line rfl, rfl, pkN rfl, fun d hd => q d ?_⟩
      simp only [List.mem_cons, List.not_mem_nil, or_false] at hd
      rcases hd with rfl | rfl | rfl | rfl | rfl | rfl | rfl | rfl | rfl | rfl <;> exact ⟨_, rfl, by decide +kernel⟩
    rintro _ _ ⟨a, rfl⟩ ⟨s, rfl, hs⟩
    have hsl := (ins_facts s hs).1
    rw [← str_len] at hsl
    refine ret_p (fun d => ∃ m s', m ≤ 3 ∧ s' ∈ insL ∧ d = .str (SX.S (bentL zs a m s'))) (fun Q E q => ?_) ?_
    · have e1 : Ev (dSl (dVar 1) dONone (dOSome (dVar 2))) [Sl.d .tok, Sl.d (.str (SX.S zs)), Sl.d (.int (a : Nat)), Sl.d (.str s)] (.str (SX.S (zs.take a))) := Ev.eq (ev_slTo (i := ((a : Nat) : Int)) (fun Q E q => q) (fun Q E q => q) (by omega) (by omega)) (by rw [Int.toNat_natCast])
      refine e1 _ E ?_
      refine ⟨line rfl, rfl, pkN rfl, fun d hd => ?_⟩
      obtain ⟨s', rfl, hs'⟩ : ∃ s', d = .str s' ∧ s' ∈ insL := by
        simp only [List.mem_cons, List.not_mem_nil, or_false] at hd
        rcases hd with rfl | rfl | rfl
        · exact ⟨_, rfl, hs⟩
        · exact ⟨_, rfl, hs⟩
        · exact ⟨_, rfl, by decide +kernel⟩
      have hsl2 := (ins_facts s' hs').1
      rw [← str_len] at hsl2
      have htl : (zs.take a).length ≤ zs.length := by
        rw [List.length_take]
        omega
      have hdl : ∀ m, (zs.drop (a + m)).length ≤ zs.length := fun m => by
        rw [List.length_drop]
        omega
      refine ⟨by rw [SX.S_len]; exact size_small (by omega), rfl, ⟨by decide, by decide⟩, fun r h0 h1 => ?_⟩
      have e2 : ((a : Nat) : Int) + r = ((a + r.toNat : Nat) : Int) := by omega
      refine ⟨len_ok hz, ?_⟩
      rw [C8.cutS_slice, SX.slice_from (by omega), e2, Int.toNat_natCast]
      refine ⟨?_, ?_⟩
      · rw [len_app, SX.S_len (zs.take a), SX.S_len (zs.drop (a + r.toNat))]
        have := hdl r.toNat
        exact Nat.le_trans (show _ ≤ 3000 by omega) (by decide)
      · rw [str_bent]
        exact q _ ⟨r.toNat, s', by omega, hs', rfl⟩
    · rintro _ ⟨m, s', hm, hs', rfl⟩
      exact hq a m s' hm hs'
end K16
namespace K16
open PySem L2 FP
variable [FP.Tabl]
open KP
theorem ok__law_right {P : Program} {w : World} {mg : Gm} {base : Heap} {Z : Ads} (A : All mg Z) (G__law_bent : DefOk P w mg base 150 "_law_bent" 2 f_bent) (G__law_drawn : DefOk P w mg base 74 "_law_drawn" 3 (f_drawnH wL16 11)) (G__law_program_nodes : DefOk P w mg base 62 "_law_program_nodes" 1 (f_pnodes 61)) (G__law_program_parts : DefOk P w mg base 62 "_law_program_parts" 1 (f_ppartsT 61)) (G__law_program_text : DefOk P w mg base 62 "_law_program_text" 2 (f_lptext 61)) (G__law_read : DefOk P w mg base 10 "_law_read" 1 f_lawread) (G__law_told : DefOk P w mg base 67 "_law_told" 2 (f_ltold 64)) : DefOk P w mg base 160 "_law_right" 1 f_tokT := by
  refine mkDef (N := ["_law_dice_here", "_law_program", "_law_text", "_law_turn", "_law_near", "_law_told_here"]) (ps := ["_law_dice_here"]) A.d__law_right sc__law_right (fun _ _ _ _ _ _ us hl => match us, hl with | [_], _ => rfl) fun fa cdv Ar outer s H E hr => ⟨_,
    (dss_cons (ds_set (i := 1) (de_call G__law_drawn (fun _ => hr.mono (by omega)) (fun _ => pas (takes_of rfl rfl rfl rfl)) (da_cons (de_var 0) (da_cons de_int (da_cons de_int da_nil)))) (fun _ => sc__law_right.nd))
    (dss_cons (ds_set (i := 2) (de_call G__law_program_text (fun _ => hr.mono (by omega)) (fun _ => pas (takes_of rfl rfl rfl rfl)) (da_cons (de_var 1) (da_cons de_int da_nil))) (fun _ => sc__law_right.nd))
    (dss_cons (ds_if (dt_w (dw_or (dt_cmp (ok_ne (fun _ => hr.r.units)) (de_call G__law_read (fun _ => hr.mono (by omega)) (fun _ => pas (takes_of rfl rfl rfl rfl)) (da_cons (de_var 2) da_nil)) (de_callTy ok_tuple A.n_tuple FP.boot_tuple (da_cons (de_call G__law_program_nodes (fun _ => hr.mono (by omega)) (fun _ => pas (takes_of rfl rfl rfl rfl)) (da_cons (de_var 1) da_nil)) da_nil))) (dw_or1 (dt_cmp (ok_ne (fun _ => hr.r.units)) (de_call G__law_told (fun _ => hr.mono (by omega)) (fun _ => pas (takes_of rfl rfl rfl rfl)) (da_cons (de_var 2) (da_cons de_int da_nil))) (de_var 1)))))
    (dss_one (ds_ret de_bl))
    dss_nil)
    (dss_cons (ds_for (di_range1 A.n_range (da_cons de_int da_nil)) (dg_name (i := 3) (fun _ => sc__law_right.nd))
    (dss_cons (ds_set (i := 4) (de_call G__law_bent (fun _ => hr.mono (by omega)) (fun _ => pas (takes_of rfl rfl rfl rfl)) (da_cons (de_var 0) (da_cons (de_var 2) da_nil))) (fun _ => sc__law_right.nd))
    (dss_cons (ds_set (i := 5) (de_call G__law_told (fun _ => hr.mono (by omega)) (fun _ => pas (takes_of rfl rfl rfl rfl)) (da_cons (de_var 4) (da_cons de_int da_nil))) (fun _ => sc__law_right.nd))
    (dss_cons (ds_if (dt_cmp (ok_ne (fun _ => hr.r.units)) (de_call G__law_read (fun _ => hr.mono (by omega)) (fun _ => pas (takes_of rfl rfl rfl rfl)) (da_cons (de_var 4) da_nil)) (de_if (dt_cmp ok_isNot (de_var 5) de_non) (de_callTy ok_tuple A.n_tuple FP.boot_tuple (da_cons (de_call G__law_program_nodes (fun _ => hr.mono (by omega)) (fun _ => pas (takes_of rfl rfl rfl rfl)) (da_cons (de_var 5) da_nil)) da_nil)) de_non))
    (dss_one (ds_ret de_bl))
    dss_nil)
    (dss_one (ds_set (i := 2) (de_if (dt_w (dw_and (dt_cmp ok_isNot (de_var 5) de_non) (dw_and1 (dt_cmp ok_lt (de_callB ok_len A.n_len FP.boot_len (da_cons (de_call G__law_program_parts (fun _ => hr.mono (by omega)) (fun _ => pas (takes_of rfl rfl rfl rfl)) (da_cons (de_var 5) da_nil)) da_nil)) de_int)))) (de_var 4) (de_var 2)) (fun _ => sc__law_right.nd)))))) (fun _ => passes_of rfl))
    (dss_one (ds_ret de_bl)))))),  fun ds Q Ex hl hf => ?_⟩
  match ds, hl, hf with
  | [.tok], _, hq =>
    have e0 : startD 6 [.tok] = [Sl.d (.tok), Sl.no, Sl.no, Sl.no, Sl.no, Sl.no] := rfl
    have hnN : (["_law_dice_here", "_law_program", "_law_text", "_law_turn", "_law_near", "_law_told_here"] : List Str).length = 6 := rfl
    rw [hnN, e0]
    clear e0 hnN
    refine seq_p (fun d => ∃ p, d = ptD p ∧ TI 0 p ∧ sizeT p ≤ 10) (fun Q E q => ⟨rfl, 0, 10, rfl, rfl, by decide, by decide, by decide, by decide, fun p hp hz => q _ ⟨p, rfl, TI.start (show dhT wL16 3 0 p from hp) hz, hz⟩⟩) ?_
    rintro _ ⟨p0, rfl, t0, hz⟩
    have ht0 : textT 0 p0 = SX.S (catL (toksT 0 p0)) := text_cat p0 0
    have hl0 := t0.len (by decide)
    refine seq_v (.str (SX.S (catL (toksT 0 p0)))) (Ev.eq (ev_call (a1 (d := ptD p0) (fun Q E q => q) (a1 (d := .int ((0 : Nat) : Int)) (fun Q E q => q) a0)) rfl fun Q E q => ⟨isWP, p0, 0, isWP_w, rfl, rfl, t0.sc, by omega, by omega, q⟩) (by rw [ht0])) ?_
    refine seq_ifF (or_f (b_v (ev_op (x := nodesD p0) (y := nodesD p0) (ev_call (a1 (fun Q E q => q) a0) rfl fun Q E q => ⟨okS (by omega) t0.small, by rw [← ht0, t0.read]; exact q⟩) (ev_cb (a1 (d := .lst ((nodesT p0).map nodD)) (ev_call (a1 (d := ptD p0) (fun Q E q => q) a0) rfl fun Q E q => ⟨p0, rfl, by omega, by omega, q⟩) a0) fun Q q => q) fun Q q => ne_nodes t0.sc q)) (b_v (ev_op (x := ptD p0) (y := ptD p0) (ev_call (a1 (fun Q E q => q) (a1 (d := .int ((0 : Nat) : Int)) (fun Q E q => q) a0)) rfl fun Q E q => ⟨0, rfl, okS (by omega) t0.small, by rw [SX.S_len]; omega, t0.deep, by
      have e := t0.told
      show Q (ptOD (toldR 64 (catL (toksT 0 p0)) 0))
      rw [e]
      exact q⟩) (fun Q E q => q) fun Q q => ne_pt t0 q))) ?_
    refine seq_for ((List.range 12).map fun k : Nat => D.int ((0 : Int) + k)) (ev_rng (n := 12) (by decide) (fun Q E q => q)) ?_
    refine for_st (fun rest ρ => ∃ (k : Nat) (p : Pt) (s3 s4 s5 : Sl), rest.length + k = 12 ∧ TI k p ∧ ρ = [Sl.d .tok, Sl.d (ptD p0), Sl.d (.str (SX.S (catL (toksT 0 p)))), s3, s4, s5]) ?_ ?_ _ _ ⟨0, p0, _, _, _, by rw [List.length_map, List.length_range], t0, rfl⟩
    · rintro ρ ⟨k, p, s3, s4, s5, _, _, rfl⟩
      dsimp only
      exact ret_v (.bl true) (fun Q E q => q) hq
    rintro x rest ρ ⟨k, p, s3, s4, s5, hk, t, rfl⟩
    rw [List.length_cons] at hk
    have hk11 : k ≤ 11 := by omega
    have hlp := t.len (by omega)
    refine ⟨_, rfl, fun K hK => ?_⟩
    refine seq_p (fun d => ∃ a m s, m ≤ 3 ∧ s ∈ insL ∧ d = .str (SX.S (bentL (catL (toksT 0 p)) a m s))) (fun Q E q => ⟨rfl, okS (by omega) t.small, by rw [SX.S_len]; omega, fun a m s hm hs => q _ ⟨a, m, s, hm, hs, rfl⟩⟩) ?_
    rintro _ ⟨a, m, s, hm, hs, rfl⟩
    have nl := bent_len (a := a) (m := m) t hk11 hm hs
    have ns := bent_small (a := a) (m := m) t hk11 hm hs
    have nd := bent_deep (a := a) (m := m) t hk11 hm hs
    have hnr := near_read (a := a) (m := m) t hk11 hm hs
    have hbt := fun q => bent_told (a := a) (m := m) (p' := q) t hk11 hm hs
    generalize bentL (catL (toksT 0 p)) a m s = nb at nl ns nd hnr hbt
    have hok : okStr (SX.S nb) := okS (by omega) fun c hc => by
      have := ns c hc
      omega
    refine seq_v (ptOD (toldR 64 nb 0)) (ev_call (a1 (fun Q E q => q) (a1 (d := .int ((0 : Nat) : Int)) (fun Q E q => q) a0)) rfl fun Q E q => ⟨0, rfl, hok, by rw [SX.S_len]; omega, show deepL nb < 64 by omega, q⟩) ?_
    cases ht : toldR 64 nb 0 with
    | none =>
      rw [ht] at hnr
      replace hnr : rdD (SX.S nb) = .non := hnr
      refine seq_ifF (b_v (ev_op (x := .non) (y := .non) (ev_call (a1 (fun Q E q => q) a0) rfl fun Q E q => ⟨hok, by rw [hnr]; exact q⟩) (ev_if (b := false) (b_v (ev_op (x := .non) (y := .non) (fun Q E q => q) (fun Q E q => q) fun Q q => q)) (fun h => by cases h) fun _ => (fun Q E q => q)) fun Q q => ne_non2 q)) ?_
      exact end_v (.str (SX.S (catL (toksT 0 p)))) (ev_if (b := false) (and_f (b_v (ev_op (x := .non) (y := .non) (fun Q E q => q) (fun Q E q => q) fun Q q => q))) (fun h => by cases h) fun _ => (fun Q E q => q)) (hK _ ⟨k + 1, p, _, Sl.d (.str (SX.S nb)), Sl.d .non, by omega, t.up, rfl⟩)
    | some q =>
      rw [ht] at hnr
      replace hnr : rdD (SX.S nb) = nodesD q := hnr
      obtain ⟨h1, h2, h3, h4⟩ := hbt q ht
      refine seq_ifF (b_v (ev_op (x := nodesD q) (y := nodesD q) (ev_call (a1 (fun Q E q => q) a0) rfl fun Q E q' => ⟨hok, by rw [hnr]; exact q'⟩) (ev_if (b := true) (ev_notN (p := q) (fun Q E q => q)) (fun _ => ev_cb (a1 (d := .lst ((nodesT q).map nodD)) (ev_call (a1 (d := ptD q) (fun Q E q => q) a0) rfl fun Q E q' => ⟨q, rfl, by omega, by omega, q'⟩) a0) fun Q q' => q') fun h => by cases h) fun Q q' => ne_nodes h2 q')) ?_
      have elt : EvT (dB (dOp rdLt (dCB rdLen (dCons (dCall (f_ppartsT 61) 1 (dCons (dVar 5) dNil)) dNil)) (dC (.int 20)))) [Sl.d .tok, Sl.d (ptD p0), Sl.d (.str (SX.S (catL (toksT 0 p)))), Sl.d x, Sl.d (.str (SX.S nb)), Sl.d (ptD q)] (decide (sizeT q < 20)) := b_v (ev_op (x := .int (((partsT q).map ptD).length : Nat)) (y := .int 20) (ev_lenL (ev_call (a1 (fun Q E q => q) a0) rfl fun Q E q' => ⟨q, rfl, by omega, by omega, q'⟩)) (fun Q E q => q) fun Q q' => by
        show Q (.bl (decide ((((partsT q).map ptD).length : Int) < 20)))
        rw [List.length_map, parts_lenT, show decide (((sizeT q : Nat) : Int) < 20) = decide (sizeT q < 20) from decide_eq_decide.mpr ⟨fun h => by omega, fun h => by omega⟩]
        exact q')
      by_cases h20 : sizeT q < 20
      · have ez : SX.S nb = SX.S (catL (toksT 0 q)) := by rw [h1]
        refine end_v (.str (SX.S (catL (toksT 0 q)))) (ev_if (b := true) (and_t (ev_notN (p := q) (fun Q E q => q)) (elt.eq (decide_eq_true h20))) (fun _ => Ev.eq (fun Q E q => q) (by rw [ez])) fun h => by cases h) (hK _ ⟨k + 1, q, _, Sl.d (.str (SX.S nb)), Sl.d (ptD q), by omega, h4 h20, rfl⟩)
      · refine end_v (.str (SX.S (catL (toksT 0 p)))) (ev_if (b := false) (EvT.eq (and_t (ev_notN (p := q) (fun Q E q => q)) elt) (decide_eq_false h20)) (fun h => by cases h) fun _ => (fun Q E q => q)) (hK _ ⟨k + 1, p, _, Sl.d (.str (SX.S nb)), Sl.d (ptD q), by omega, t.up, rfl⟩)
end K16
namespace K16
open PySem L2 FP
variable [FP.Tabl]
open KP
theorem ok_law {P : Program} {w : World} {mg : Gm} {base : Heap} {Z : Ads} (A : All mg Z) (G__law_dice : DefOk P w mg base 1 "_law_dice" 2 f_dice) (G__law_read : DefOk P w mg base 10 "_law_read" 1 f_lawread) (G__law_right : DefOk P w mg base 160 "_law_right" 1 f_tokT) : DefOk P w mg base 162 "law" 1 f_law := by
  refine mkDef (N := ["_law_script", "_law_spot", "_law_texts", "_law_due", "_law_text"]) (ps := ["_law_script"]) A.d_law sc_law (fun _ _ _ _ _ _ us hl => match us, hl with | [_], _ => rfl) fun fa cdv Ar outer s H E hr => ⟨_,
    (dss_cons (ds_for (di_range1 A.n_range (da_cons (de_callB ok_max A.n_max FP.boot_max (da_cons de_int (da_cons (de_callB ok_min A.n_min FP.boot_min (da_cons de_int (da_cons (de_callB ok_len A.n_len FP.boot_len (da_cons (de_var 0) da_nil)) da_nil))) da_nil))) da_nil)) (dg_name (i := 1) (fun _ => sc_law.nd))
    (dss_one (ds_if (dt_not (dt_val (de_call G__law_right (fun _ => hr.mono (by omega)) (fun _ => pas (takes_of rfl rfl rfl rfl)) (da_cons (de_call G__law_dice (fun _ => hr.mono (by omega)) (fun _ => pas (takes_of rfl rfl rfl rfl)) (da_cons (de_var 0) (da_cons (de_var 1) da_nil))) da_nil))))
    (dss_one (ds_ret de_bl))
    dss_nil)) (fun _ => passes_of rfl))
    (dss_cons (ds_set (i := 2) (de_lst (da_cons de_str (da_cons de_str (da_cons de_str (da_cons de_str (da_cons de_str (da_cons de_str (da_cons de_str (da_cons de_str (da_cons de_str (da_cons de_str (da_cons de_str (da_cons de_str da_nil))))))))))))) (fun _ => sc_law.nd))
    (dss_cons (ds_set (i := 3) (de_lst (da_cons de_bl (da_cons de_bl (da_cons de_bl (da_cons de_bl (da_cons de_bl (da_cons de_bl (da_cons de_bl (da_cons de_bl (da_cons de_bl (da_cons de_bl (da_cons de_bl (da_cons de_bl da_nil))))))))))))) (fun _ => sc_law.nd))
    (dss_one (ds_ret (de_cmp (ok_eq (fun _ => hr.r.units)) (de_lc (own := [("_law_text", 4)]) (fun _ => sc_law.nd) (di_list (de_var 2)) (fun _ => blkOk_by (by kernel_rfl)) (dg_name (i := 4) (fun _ => sc_law.nd)) dts_nil (de_cmp ok_isNot (de_call G__law_read (fun _ => hr.mono (by omega)) (fun _ => pas takes0) (da_cons (de_var 4) da_nil)) de_non)) (de_var 3))))))),  fun ds Q Ex hl hf => ?_⟩
  match ds, hl, hf with
  | [.fz xs], _, ⟨⟨ns, hx, hn⟩, hq⟩ =>
    subst hx
    have e0 : startD 5 [.fz (ns.map D.int)] = [Sl.d (.fz (ns.map D.int)), Sl.no, Sl.no, Sl.no, Sl.no] := rfl
    have hnN : (["_law_script", "_law_spot", "_law_texts", "_law_due", "_law_text"] : List Str).length = 5 := rfl
    rw [hnN, e0]
    clear e0 hnN
    have hm := spots (ns.map D.int).length
    refine seq_by (fun ρ => ∃ a, ρ = [Sl.d (.fz (ns.map D.int)), a, Sl.no, Sl.no, Sl.no]) (fun nx hnx => ?_) ?_
    · refine ⟨by omega, by omega, ?_⟩
      refine forD_inv (fun ρ => ∃ a, ρ = [Sl.d (.fz (ns.map D.int)), a, Sl.no, Sl.no, Sl.no]) _ _ ⟨_, rfl⟩ ?_ hnx
      rintro x hx ρ K ⟨a, rfl⟩ hK
      obtain ⟨j, rfl, hj⟩ := mem_range hx
      refine ⟨_, rfl, ?_⟩
      refine end_if false (not_v (b := true) (b_v (ev_call (a1 (d := .tok) (fun Q E q => ⟨rfl, ⟨ns, rfl⟩, ⟨by omega, by omega⟩, q⟩) a0) rfl fun Q E q => q))) ?_
      exact hK _ ⟨_, rfl⟩
    rintro ρ ⟨a, rfl⟩
    refine seq_v (.lst (texts16.map .str)) (ev_lst (ds := texts16.map .str) (a1 (fun Q E q => q) (a1 (fun Q E q => q) (a1 (fun Q E q => q) (a1 (fun Q E q => q) (a1 (fun Q E q => q) (a1 (fun Q E q => q) (a1 (fun Q E q => q) (a1 (fun Q E q => q) (a1 (fun Q E q => q) (a1 (fun Q E q => q) (a1 (fun Q E q => q) (a1 (fun Q E q => q) a0)))))))))))) (line rfl)) ?_
    refine seq_v (.lst (due16.map .bl)) (ev_lst (ds := due16.map .bl) (a1 (fun Q E q => q) (a1 (fun Q E q => q) (a1 (fun Q E q => q) (a1 (fun Q E q => q) (a1 (fun Q E q => q) (a1 (fun Q E q => q) (a1 (fun Q E q => q) (a1 (fun Q E q => q) (a1 (fun Q E q => q) (a1 (fun Q E q => q) (a1 (fun Q E q => q) (a1 (fun Q E q => q) a0)))))))))))) (line rfl)) ?_
    refine ret_v (.bl true) (ev_op (x := .lst (due16.map .bl)) (y := .lst (due16.map .bl)) (Ev.eq (ev_lc (fun z => D.str z) (fun z => D.bl (rdS z).isSome) (xs := texts16) (fun Q E q => q) (line rfl) fun z hz => ⟨_, rfl, ev_op (x := rdD z) (y := .non) (ev_call (a1 (fun Q E q => q) a0) rfl fun Q E q => ⟨texts16_ok z hz, q⟩) (fun Q E q => q) fun Q q => isn_rd q⟩) (by rw [← texts16_due, List.map_map]; rfl)) (fun Q E q => q) fun Q q => eq_refl (by decide +kernel) rfl q) hq
end K16
namespace K16
open PySem L2 FP
variable [FP.Tabl]
theorem all_mk {K : PySem.W.Frag} {h : Heap} {mg : Str → Option Value} (X : K.In h) (G : h.Ns mainGlobals mg)
    {t_DIGITS : Tok}
    {t_DOT : Tok}
    {t_GAP : Tok}
    {t_LAMBDA : Tok}
    {t_LETTERS : Tok}
    {t_LONGEST : Tok}
    {t_MAX_COUNT : Tok}
    {t_MAX_LETTERS : Tok}
    {t_MAX_LEVEL : Tok}
    {t_MAX_NODES : Tok}
    {t_VARIABLE : Tok}
    {C_Reader : Addr}
    {C_Nodes : Addr}
    {C_Program : Addr}
    {f_is_integer : Addr} {od_is_integer an_is_integer : Option Addr} {sl_is_integer : Array (Option Value)} {oc_is_integer kV_is_integer dc_is_integer pm_is_integer cd_is_integer ct_is_integer : Value}
    {f_is_within : Addr} {od_is_within an_is_within : Option Addr} {sl_is_within : Array (Option Value)} {oc_is_within kV_is_within dc_is_within pm_is_within cd_is_within ct_is_within : Value}
    {f_is_word : Addr} {od_is_word an_is_word : Option Addr} {sl_is_word : Array (Option Value)} {oc_is_word kV_is_word dc_is_word pm_is_word cd_is_word ct_is_word : Value}
    {f_level_of : Addr} {od_level_of an_level_of : Option Addr} {sl_level_of : Array (Option Value)} {oc_level_of kV_level_of dc_level_of pm_level_of cd_level_of ct_level_of : Value}
    {f_is_node : Addr} {od_is_node an_is_node : Option Addr} {sl_is_node : Array (Option Value)} {oc_is_node kV_is_node dc_is_node pm_is_node cd_is_node ct_is_node : Value}
    {f_kids_of : Addr} {od_kids_of an_kids_of : Option Addr} {sl_kids_of : Array (Option Value)} {oc_kids_of kV_kids_of dc_kids_of pm_kids_of cd_kids_of ct_kids_of : Value}
    {f_ends_of : Addr} {od_ends_of an_ends_of : Option Addr} {sl_ends_of : Array (Option Value)} {oc_ends_of kV_ends_of dc_ends_of pm_ends_of cd_ends_of ct_ends_of : Value}
    {f_bound_of : Addr} {od_bound_of an_bound_of : Option Addr} {sl_bound_of : Array (Option Value)} {oc_bound_of kV_bound_of dc_bound_of pm_bound_of cd_bound_of ct_bound_of : Value}
    {f_are_nodes : Addr} {od_are_nodes an_are_nodes : Option Addr} {sl_are_nodes : Array (Option Value)} {oc_are_nodes kV_are_nodes dc_are_nodes pm_are_nodes cd_are_nodes ct_are_nodes : Value}
    {f_variable_text : Addr} {od_variable_text an_variable_text : Option Addr} {sl_variable_text : Array (Option Value)} {oc_variable_text kV_variable_text dc_variable_text pm_variable_text cd_variable_text ct_variable_text : Value}
    {f_tokens_of : Addr} {od_tokens_of an_tokens_of : Option Addr} {sl_tokens_of : Array (Option Value)} {oc_tokens_of kV_tokens_of dc_tokens_of pm_tokens_of cd_tokens_of ct_tokens_of : Value}
    {f_Reader___init__ : Addr} {od_Reader___init__ an_Reader___init__ : Option Addr} {sl_Reader___init__ : Array (Option Value)} {oc_Reader___init__ kV_Reader___init__ dc_Reader___init__ pm_Reader___init__ cd_Reader___init__ ct_Reader___init__ : Value}
    {f_Reader_token : Addr} {od_Reader_token an_Reader_token : Option Addr} {sl_Reader_token : Array (Option Value)} {oc_Reader_token kV_Reader_token dc_Reader_token pm_Reader_token cd_Reader_token ct_Reader_token : Value}
    {f_Reader_binders : Addr} {od_Reader_binders an_Reader_binders : Option Addr} {sl_Reader_binders : Array (Option Value)} {oc_Reader_binders kV_Reader_binders dc_Reader_binders pm_Reader_binders cd_Reader_binders ct_Reader_binders : Value}
    {f_Reader_begin : Addr} {od_Reader_begin an_Reader_begin : Option Addr} {sl_Reader_begin : Array (Option Value)} {oc_Reader_begin kV_Reader_begin dc_Reader_begin pm_Reader_begin cd_Reader_begin ct_Reader_begin : Value}
    {f_Reader_add : Addr} {od_Reader_add an_Reader_add : Option Addr} {sl_Reader_add : Array (Option Value)} {oc_Reader_add kV_Reader_add dc_Reader_add pm_Reader_add cd_Reader_add ct_Reader_add : Value}
    {f_Reader_go_on : Addr} {od_Reader_go_on an_Reader_go_on : Option Addr} {sl_Reader_go_on : Array (Option Value)} {oc_Reader_go_on kV_Reader_go_on dc_Reader_go_on pm_Reader_go_on cd_Reader_go_on ct_Reader_go_on : Value}
    {f_nodes_of : Addr} {od_nodes_of an_nodes_of : Option Addr} {sl_nodes_of : Array (Option Value)} {oc_nodes_of kV_nodes_of dc_nodes_of pm_nodes_of cd_nodes_of ct_nodes_of : Value}
    {f_Nodes___init__ : Addr} {od_Nodes___init__ an_Nodes___init__ : Option Addr} {sl_Nodes___init__ : Array (Option Value)} {oc_Nodes___init__ kV_Nodes___init__ dc_Nodes___init__ pm_Nodes___init__ cd_Nodes___init__ ct_Nodes___init__ : Value}
    {f_Program___init__ : Addr} {od_Program___init__ an_Program___init__ : Option Addr} {sl_Program___init__ : Array (Option Value)} {oc_Program___init__ kV_Program___init__ dc_Program___init__ pm_Program___init__ cd_Program___init__ ct_Program___init__ : Value}
    {f_Program_read : Addr} {od_Program_read an_Program_read : Option Addr} {sl_Program_read : Array (Option Value)} {oc_Program_read kV_Program_read dc_Program_read pm_Program_read cd_Program_read ct_Program_read : Value}
    {p_Program_read : Addr} {rs_Program_read : List Value}
    {f_Program_nodes : Addr} {od_Program_nodes an_Program_nodes : Option Addr} {sl_Program_nodes : Array (Option Value)} {oc_Program_nodes kV_Program_nodes dc_Program_nodes pm_Program_nodes cd_Program_nodes ct_Program_nodes : Value}
    {p_Program_nodes : Addr} {rs_Program_nodes : List Value}
    {f__law_dice : Addr} {od__law_dice an__law_dice : Option Addr} {sl__law_dice : Array (Option Value)} {oc__law_dice kV__law_dice dc__law_dice pm__law_dice cd__law_dice ct__law_dice : Value}
    {f__law_roll : Addr} {od__law_roll an__law_roll : Option Addr} {sl__law_roll : Array (Option Value)} {oc__law_roll kV__law_roll dc__law_roll pm__law_roll cd__law_roll ct__law_roll : Value}
    {f__law_pick : Addr} {od__law_pick an__law_pick : Option Addr} {sl__law_pick : Array (Option Value)} {oc__law_pick kV__law_pick dc__law_pick pm__law_pick cd__law_pick ct__law_pick : Value}
    {f__law_program_nodes : Addr} {od__law_program_nodes an__law_program_nodes : Option Addr} {sl__law_program_nodes : Array (Option Value)} {oc__law_program_nodes kV__law_program_nodes dc__law_program_nodes pm__law_program_nodes cd__law_program_nodes ct__law_program_nodes : Value}
    {f__law_program_text : Addr} {od__law_program_text an__law_program_text : Option Addr} {sl__law_program_text : Array (Option Value)} {oc__law_program_text kV__law_program_text dc__law_program_text pm__law_program_text cd__law_program_text ct__law_program_text : Value}
    {f__law_program_parts : Addr} {od__law_program_parts an__law_program_parts : Option Addr} {sl__law_program_parts : Array (Option Value)} {oc__law_program_parts kV__law_program_parts dc__law_program_parts pm__law_program_parts cd__law_program_parts ct__law_program_parts : Value}
    {f__law_drawn : Addr} {od__law_drawn an__law_drawn : Option Addr} {sl__law_drawn : Array (Option Value)} {oc__law_drawn kV__law_drawn dc__law_drawn pm__law_drawn cd__law_drawn ct__law_drawn : Value}
    {f__law_is_head : Addr} {od__law_is_head an__law_is_head : Option Addr} {sl__law_is_head : Array (Option Value)} {oc__law_is_head kV__law_is_head dc__law_is_head pm__law_is_head cd__law_is_head ct__law_is_head : Value}
    {f__law_closing : Addr} {od__law_closing an__law_closing : Option Addr} {sl__law_closing : Array (Option Value)} {oc__law_closing kV__law_closing dc__law_closing pm__law_closing cd__law_closing ct__law_closing : Value}
    {f__law_told : Addr} {od__law_told an__law_told : Option Addr} {sl__law_told : Array (Option Value)} {oc__law_told kV__law_told dc__law_told pm__law_told cd__law_told ct__law_told : Value}
    {f__law_read : Addr} {od__law_read an__law_read : Option Addr} {sl__law_read : Array (Option Value)} {oc__law_read kV__law_read dc__law_read pm__law_read cd__law_read ct__law_read : Value}
    {f__law_bent : Addr} {od__law_bent an__law_bent : Option Addr} {sl__law_bent : Array (Option Value)} {oc__law_bent kV__law_bent dc__law_bent pm__law_bent cd__law_bent ct__law_bent : Value}
    {f__law_right : Addr} {od__law_right an__law_right : Option Addr} {sl__law_right : Array (Option Value)} {oc__law_right kV__law_right dc__law_right pm__law_right cd__law_right ct__law_right : Value}
    {f_law : Addr} {od_law an_law : Option Addr} {sl_law : Array (Option Value)} {oc_law kV_law dc_law pm_law cd_law ct_law : Value}
    {Cx_BuildError : Addr}
    {Cx_InvalidProgram : Addr}
    {Cx_ParseError : Addr}
    {f_ParseError___init__ : Addr} {od_ParseError___init__ an_ParseError___init__ : Option Addr} {sl_ParseError___init__ : Array (Option Value)} {oc_ParseError___init__ kV_ParseError___init__ dc_ParseError___init__ pm_ParseError___init__ cd_ParseError___init__ ct_ParseError___init__ : Value}
    (z_abs : PySem.W.nsIn K mainGlobals "abs" = some none)
    (z_all : PySem.W.nsIn K mainGlobals "all" = some none)
    (z_bool : PySem.W.nsIn K mainGlobals "bool" = some none)
    (z_enumerate : PySem.W.nsIn K mainGlobals "enumerate" = some none)
    (z_int : PySem.W.nsIn K mainGlobals "int" = some none)
    (z_isinstance : PySem.W.nsIn K mainGlobals "isinstance" = some none)
    (z_len : PySem.W.nsIn K mainGlobals "len" = some none)
    (z_max : PySem.W.nsIn K mainGlobals "max" = some none)
    (z_min : PySem.W.nsIn K mainGlobals "min" = some none)
    (z_range : PySem.W.nsIn K mainGlobals "range" = some none)
    (z_str : PySem.W.nsIn K mainGlobals "str" = some none)
    (z_tuple : PySem.W.nsIn K mainGlobals "tuple" = some none)
    (z_zip : PySem.W.nsIn K mainGlobals "zip" = some none)
    (y_DIGITS : PySem.W.nsIn K mainGlobals "DIGITS" = some (some (.str "0123456789" t_DIGITS)))
    (y_DOT : PySem.W.nsIn K mainGlobals "DOT" = some (some (.str ". " t_DOT)))
    (y_GAP : PySem.W.nsIn K mainGlobals "GAP" = some (some (.str "?" t_GAP)))
    (y_LAMBDA : PySem.W.nsIn K mainGlobals "LAMBDA" = some (some (.str "\\" t_LAMBDA)))
    (y_LETTERS : PySem.W.nsIn K mainGlobals "LETTERS" = some (some (.str "abcdefghijklmnopqrstuvwxyz" t_LETTERS)))
    (y_LONGEST : PySem.W.nsIn K mainGlobals "LONGEST" = some (some (.int 1000000000000000000000000000000000000000000000000000000000000 t_LONGEST)))
    (y_MAX_COUNT : PySem.W.nsIn K mainGlobals "MAX_COUNT" = some (some (.int 15 t_MAX_COUNT)))
    (y_MAX_LETTERS : PySem.W.nsIn K mainGlobals "MAX_LETTERS" = some (some (.int 8 t_MAX_LETTERS)))
    (y_MAX_LEVEL : PySem.W.nsIn K mainGlobals "MAX_LEVEL" = some (some (.int 99 t_MAX_LEVEL)))
    (y_MAX_NODES : PySem.W.nsIn K mainGlobals "MAX_NODES" = some (some (.int 40 t_MAX_NODES)))
    (y_VARIABLE : PySem.W.nsIn K mainGlobals "VARIABLE" = some (some (.str "x" t_VARIABLE)))
    (aC_Reader : PySem.W.nsIn K mainGlobals "Reader" = some (some (.ref C_Reader)))
    (pg_Reader : PySem.W.plainGet K C_Reader Str.empty = true)
    (hd_Reader : PySem.W.hasDictIn K C_Reader = true)
    (po_Reader : PySem.W.plainOver K C_Reader = true)
    (sa_Reader : PySem.W.findIn K (.ref C_Reader) "__setattr__" = some (some (.builtin "object.__setattr__")))
    (ha_Reader : PySem.W.findIn K (.ref C_Reader) "__class__" = some (some (.builtin "object.__class__")))
    (hn_Reader : PySem.W.specialIn K (.builtin "object.__class__") "__get__" = some (some (.builtin "getset_descriptor.__get__")))
    (ht_Reader : PySem.W.takesIn K (.builtin "object.__class__") = some true)
    (hm_Reader : PySem.W.mroIn K C_Reader (.type "object") = some true)
    (fa_Reader_of_tokens : PySem.W.findIn K (.ref C_Reader) "of_tokens" = some none)
    (fa_Reader_of_at : PySem.W.findIn K (.ref C_Reader) "of_at" = some none)
    (fa_Reader_of_nodes : PySem.W.findIn K (.ref C_Reader) "of_nodes" = some none)
    (fa_Reader_of_open : PySem.W.findIn K (.ref C_Reader) "of_open" = some none)
    (aC_Nodes : PySem.W.nsIn K mainGlobals "Nodes" = some (some (.ref C_Nodes)))
    (pg_Nodes : PySem.W.plainGet K C_Nodes Str.empty = true)
    (hd_Nodes : PySem.W.hasDictIn K C_Nodes = true)
    (po_Nodes : PySem.W.plainOver K C_Nodes = true)
    (sa_Nodes : PySem.W.findIn K (.ref C_Nodes) "__setattr__" = some (some (.builtin "object.__setattr__")))
    (ha_Nodes : PySem.W.findIn K (.ref C_Nodes) "__class__" = some (some (.builtin "object.__class__")))
    (hn_Nodes : PySem.W.specialIn K (.builtin "object.__class__") "__get__" = some (some (.builtin "getset_descriptor.__get__")))
    (ht_Nodes : PySem.W.takesIn K (.builtin "object.__class__") = some true)
    (hm_Nodes : PySem.W.mroIn K C_Nodes (.type "object") = some true)
    (fa_Nodes_told_nodes : PySem.W.findIn K (.ref C_Nodes) "told_nodes" = some none)
    (ic_Nodes : PySem.W.isClsIn K C_Nodes = true)
    (ty_Nodes : PySem.W.typeIn K (.ref C_Nodes) = some (.type "type"))
    (ki0_Nodes : PySem.W.subIn K (.type "NoneType") (.ref C_Nodes) = some false)
    (ki1_Nodes : PySem.W.subIn K (.type "bool") (.ref C_Nodes) = some false)
    (ki2_Nodes : PySem.W.subIn K (.type "int") (.ref C_Nodes) = some false)
    (ki3_Nodes : PySem.W.subIn K (.type "str") (.ref C_Nodes) = some false)
    (ki4_Nodes : PySem.W.subIn K (.type "tuple") (.ref C_Nodes) = some false)
    (ki5_Nodes : PySem.W.subIn K (.type "list") (.ref C_Nodes) = some false)
    (ki6_Nodes : PySem.W.subIn K (.type "dict") (.ref C_Nodes) = some false)
    (aC_Program : PySem.W.nsIn K mainGlobals "Program" = some (some (.ref C_Program)))
    (pg_Program : PySem.W.plainGet K C_Program Str.empty = true)
    (hd_Program : PySem.W.hasDictIn K C_Program = true)
    (po_Program : PySem.W.plainOver K C_Program = true)
    (sa_Program : PySem.W.findIn K (.ref C_Program) "__setattr__" = some (some (.builtin "object.__setattr__")))
    (ha_Program : PySem.W.findIn K (.ref C_Program) "__class__" = some (some (.builtin "object.__class__")))
    (hn_Program : PySem.W.specialIn K (.builtin "object.__class__") "__get__" = some (some (.builtin "getset_descriptor.__get__")))
    (ht_Program : PySem.W.takesIn K (.builtin "object.__class__") = some true)
    (hm_Program : PySem.W.mroIn K C_Program (.type "object") = some true)
    (fa_Program_own_kids : PySem.W.findIn K (.ref C_Program) "own_kids" = some none)
    (fa_Program_own_ends : PySem.W.findIn K (.ref C_Program) "own_ends" = some none)
    (fa_Program_own_bound : PySem.W.findIn K (.ref C_Program) "own_bound" = some none)
    (fa_Program_own_nodes : PySem.W.findIn K (.ref C_Program) "own_nodes" = some none)
    (ic_Program : PySem.W.isClsIn K C_Program = true)
    (ty_Program : PySem.W.typeIn K (.ref C_Program) = some (.type "type"))
    (ki0_Program : PySem.W.subIn K (.type "NoneType") (.ref C_Program) = some false)
    (ki1_Program : PySem.W.subIn K (.type "bool") (.ref C_Program) = some false)
    (ki2_Program : PySem.W.subIn K (.type "int") (.ref C_Program) = some false)
    (ki3_Program : PySem.W.subIn K (.type "str") (.ref C_Program) = some false)
    (ki4_Program : PySem.W.subIn K (.type "tuple") (.ref C_Program) = some false)
    (ki5_Program : PySem.W.subIn K (.type "list") (.ref C_Program) = some false)
    (ki6_Program : PySem.W.subIn K (.type "dict") (.ref C_Program) = some false)
    (a_is_integer : PySem.W.nsIn K mainGlobals "is_integer" = some (some (.ref f_is_integer)))
    (l_is_integer : K.lookup f_is_integer = some ⟨oc_is_integer, od_is_integer, .func (PySem.W.fnOf "is_integer" "is_integer" (defArgs s_is_integer) (defBody s_is_integer) (defScope s_is_integer) .none kV_is_integer dc_is_integer pm_is_integer an_is_integer cd_is_integer ct_is_integer), sl_is_integer⟩)
    (c_is_integer : PySem.W.codeIn K cd_is_integer "is_integer" = true)
    (k_is_integer : PySem.W.keepIn K (.ref f_is_integer) = true)
    (a_is_within : PySem.W.nsIn K mainGlobals "is_within" = some (some (.ref f_is_within)))
    (l_is_within : K.lookup f_is_within = some ⟨oc_is_within, od_is_within, .func (PySem.W.fnOf "is_within" "is_within" (defArgs s_is_within) (defBody s_is_within) (defScope s_is_within) .none kV_is_within dc_is_within pm_is_within an_is_within cd_is_within ct_is_within), sl_is_within⟩)
    (c_is_within : PySem.W.codeIn K cd_is_within "is_within" = true)
    (k_is_within : PySem.W.keepIn K (.ref f_is_within) = true)
    (a_is_word : PySem.W.nsIn K mainGlobals "is_word" = some (some (.ref f_is_word)))
    (l_is_word : K.lookup f_is_word = some ⟨oc_is_word, od_is_word, .func (PySem.W.fnOf "is_word" "is_word" (defArgs s_is_word) (defBody s_is_word) (defScope s_is_word) .none kV_is_word dc_is_word pm_is_word an_is_word cd_is_word ct_is_word), sl_is_word⟩)
    (c_is_word : PySem.W.codeIn K cd_is_word "is_word" = true)
    (k_is_word : PySem.W.keepIn K (.ref f_is_word) = true)
    (a_level_of : PySem.W.nsIn K mainGlobals "level_of" = some (some (.ref f_level_of)))
    (l_level_of : K.lookup f_level_of = some ⟨oc_level_of, od_level_of, .func (PySem.W.fnOf "level_of" "level_of" (defArgs s_level_of) (defBody s_level_of) (defScope s_level_of) .none kV_level_of dc_level_of pm_level_of an_level_of cd_level_of ct_level_of), sl_level_of⟩)
    (c_level_of : PySem.W.codeIn K cd_level_of "level_of" = true)
    (k_level_of : PySem.W.keepIn K (.ref f_level_of) = true)
    (a_is_node : PySem.W.nsIn K mainGlobals "is_node" = some (some (.ref f_is_node)))
    (l_is_node : K.lookup f_is_node = some ⟨oc_is_node, od_is_node, .func (PySem.W.fnOf "is_node" "is_node" (defArgs s_is_node) (defBody s_is_node) (defScope s_is_node) .none kV_is_node dc_is_node pm_is_node an_is_node cd_is_node ct_is_node), sl_is_node⟩)
    (c_is_node : PySem.W.codeIn K cd_is_node "is_node" = true)
    (k_is_node : PySem.W.keepIn K (.ref f_is_node) = true)
    (a_kids_of : PySem.W.nsIn K mainGlobals "kids_of" = some (some (.ref f_kids_of)))
    (l_kids_of : K.lookup f_kids_of = some ⟨oc_kids_of, od_kids_of, .func (PySem.W.fnOf "kids_of" "kids_of" (defArgs s_kids_of) (defBody s_kids_of) (defScope s_kids_of) .none kV_kids_of dc_kids_of pm_kids_of an_kids_of cd_kids_of ct_kids_of), sl_kids_of⟩)
    (c_kids_of : PySem.W.codeIn K cd_kids_of "kids_of" = true)
    (k_kids_of : PySem.W.keepIn K (.ref f_kids_of) = true)
    (a_ends_of : PySem.W.nsIn K mainGlobals "ends_of" = some (some (.ref f_ends_of)))
    (l_ends_of : K.lookup f_ends_of = some ⟨oc_ends_of, od_ends_of, .func (PySem.W.fnOf "ends_of" "ends_of" (defArgs s_ends_of) (defBody s_ends_of) (defScope s_ends_of) .none kV_ends_of dc_ends_of pm_ends_of an_ends_of cd_ends_of ct_ends_of), sl_ends_of⟩)
    (c_ends_of : PySem.W.codeIn K cd_ends_of "ends_of" = true)
    (k_ends_of : PySem.W.keepIn K (.ref f_ends_of) = true)
    (a_bound_of : PySem.W.nsIn K mainGlobals "bound_of" = some (some (.ref f_bound_of)))
    (l_bound_of : K.lookup f_bound_of = some ⟨oc_bound_of, od_bound_of, .func (PySem.W.fnOf "bound_of" "bound_of" (defArgs s_bound_of) (defBody s_bound_of) (defScope s_bound_of) .none kV_bound_of dc_bound_of pm_bound_of an_bound_of cd_bound_of ct_bound_of), sl_bound_of⟩)
    (c_bound_of : PySem.W.codeIn K cd_bound_of "bound_of" = true)
    (k_bound_of : PySem.W.keepIn K (.ref f_bound_of) = true)
    (a_are_nodes : PySem.W.nsIn K mainGlobals "are_nodes" = some (some (.ref f_are_nodes)))
    (l_are_nodes : K.lookup f_are_nodes = some ⟨oc_are_nodes, od_are_nodes, .func (PySem.W.fnOf "are_nodes" "are_nodes" (defArgs s_are_nodes) (defBody s_are_nodes) (defScope s_are_nodes) .none kV_are_nodes dc_are_nodes pm_are_nodes an_are_nodes cd_are_nodes ct_are_nodes), sl_are_nodes⟩)
    (c_are_nodes : PySem.W.codeIn K cd_are_nodes "are_nodes" = true)
    (k_are_nodes : PySem.W.keepIn K (.ref f_are_nodes) = true)
    (a_variable_text : PySem.W.nsIn K mainGlobals "variable_text" = some (some (.ref f_variable_text)))
    (l_variable_text : K.lookup f_variable_text = some ⟨oc_variable_text, od_variable_text, .func (PySem.W.fnOf "variable_text" "variable_text" (defArgs s_variable_text) (defBody s_variable_text) (defScope s_variable_text) .none kV_variable_text dc_variable_text pm_variable_text an_variable_text cd_variable_text ct_variable_text), sl_variable_text⟩)
    (c_variable_text : PySem.W.codeIn K cd_variable_text "variable_text" = true)
    (k_variable_text : PySem.W.keepIn K (.ref f_variable_text) = true)
    (a_tokens_of : PySem.W.nsIn K mainGlobals "tokens_of" = some (some (.ref f_tokens_of)))
    (l_tokens_of : K.lookup f_tokens_of = some ⟨oc_tokens_of, od_tokens_of, .func (PySem.W.fnOf "tokens_of" "tokens_of" (defArgs s_tokens_of) (defBody s_tokens_of) (defScope s_tokens_of) .none kV_tokens_of dc_tokens_of pm_tokens_of an_tokens_of cd_tokens_of ct_tokens_of), sl_tokens_of⟩)
    (c_tokens_of : PySem.W.codeIn K cd_tokens_of "tokens_of" = true)
    (k_tokens_of : PySem.W.keepIn K (.ref f_tokens_of) = true)
    (a_Reader___init__ : PySem.W.findIn K (.ref C_Reader) "__init__" = some (some (.ref f_Reader___init__)))
    (i_Reader___init__ : PySem.W.isFn K (.ref f_Reader___init__) = true)
    (l_Reader___init__ : K.lookup f_Reader___init__ = some ⟨oc_Reader___init__, od_Reader___init__, .func (PySem.W.fnOf "__init__" "Reader.__init__" (defArgs s_Reader___init__) (defBody s_Reader___init__) (defScope s_Reader___init__) .none kV_Reader___init__ dc_Reader___init__ pm_Reader___init__ an_Reader___init__ cd_Reader___init__ ct_Reader___init__), sl_Reader___init__⟩)
    (c_Reader___init__ : PySem.W.codeIn K cd_Reader___init__ "Reader.__init__" = true)
    (k_Reader___init__ : PySem.W.keepIn K (.ref f_Reader___init__) = true)
    (mk_Reader : PySem.W.makesIn K C_Reader = true)
    (kk_Reader : PySem.W.keepIn K (.ref C_Reader) = true)
    (a_Reader_token : PySem.W.findIn K (.ref C_Reader) "token" = some (some (.ref f_Reader_token)))
    (i_Reader_token : PySem.W.isFn K (.ref f_Reader_token) = true)
    (l_Reader_token : K.lookup f_Reader_token = some ⟨oc_Reader_token, od_Reader_token, .func (PySem.W.fnOf "token" "Reader.token" (defArgs s_Reader_token) (defBody s_Reader_token) (defScope s_Reader_token) .none kV_Reader_token dc_Reader_token pm_Reader_token an_Reader_token cd_Reader_token ct_Reader_token), sl_Reader_token⟩)
    (c_Reader_token : PySem.W.codeIn K cd_Reader_token "Reader.token" = true)
    (k_Reader_token : PySem.W.keepIn K (.ref f_Reader_token) = true)
    (a_Reader_binders : PySem.W.findIn K (.ref C_Reader) "binders" = some (some (.ref f_Reader_binders)))
    (i_Reader_binders : PySem.W.isFn K (.ref f_Reader_binders) = true)
    (l_Reader_binders : K.lookup f_Reader_binders = some ⟨oc_Reader_binders, od_Reader_binders, .func (PySem.W.fnOf "binders" "Reader.binders" (defArgs s_Reader_binders) (defBody s_Reader_binders) (defScope s_Reader_binders) .none kV_Reader_binders dc_Reader_binders pm_Reader_binders an_Reader_binders cd_Reader_binders ct_Reader_binders), sl_Reader_binders⟩)
    (c_Reader_binders : PySem.W.codeIn K cd_Reader_binders "Reader.binders" = true)
    (k_Reader_binders : PySem.W.keepIn K (.ref f_Reader_binders) = true)
    (a_Reader_begin : PySem.W.findIn K (.ref C_Reader) "begin" = some (some (.ref f_Reader_begin)))
    (i_Reader_begin : PySem.W.isFn K (.ref f_Reader_begin) = true)
    (l_Reader_begin : K.lookup f_Reader_begin = some ⟨oc_Reader_begin, od_Reader_begin, .func (PySem.W.fnOf "begin" "Reader.begin" (defArgs s_Reader_begin) (defBody s_Reader_begin) (defScope s_Reader_begin) .none kV_Reader_begin dc_Reader_begin pm_Reader_begin an_Reader_begin cd_Reader_begin ct_Reader_begin), sl_Reader_begin⟩)
    (c_Reader_begin : PySem.W.codeIn K cd_Reader_begin "Reader.begin" = true)
    (k_Reader_begin : PySem.W.keepIn K (.ref f_Reader_begin) = true)
    (a_Reader_add : PySem.W.findIn K (.ref C_Reader) "add" = some (some (.ref f_Reader_add)))
    (i_Reader_add : PySem.W.isFn K (.ref f_Reader_add) = true)
    (l_Reader_add : K.lookup f_Reader_add = some ⟨oc_Reader_add, od_Reader_add, .func (PySem.W.fnOf "add" "Reader.add" (defArgs s_Reader_add) (defBody s_Reader_add) (defScope s_Reader_add) .none kV_Reader_add dc_Reader_add pm_Reader_add an_Reader_add cd_Reader_add ct_Reader_add), sl_Reader_add⟩)
    (c_Reader_add : PySem.W.codeIn K cd_Reader_add "Reader.add" = true)
    (k_Reader_add : PySem.W.keepIn K (.ref f_Reader_add) = true)
    (a_Reader_go_on : PySem.W.findIn K (.ref C_Reader) "go_on" = some (some (.ref f_Reader_go_on)))
    (i_Reader_go_on : PySem.W.isFn K (.ref f_Reader_go_on) = true)
    (l_Reader_go_on : K.lookup f_Reader_go_on = some ⟨oc_Reader_go_on, od_Reader_go_on, .func (PySem.W.fnOf "go_on" "Reader.go_on" (defArgs s_Reader_go_on) (defBody s_Reader_go_on) (defScope s_Reader_go_on) .none kV_Reader_go_on dc_Reader_go_on pm_Reader_go_on an_Reader_go_on cd_Reader_go_on ct_Reader_go_on), sl_Reader_go_on⟩)
    (c_Reader_go_on : PySem.W.codeIn K cd_Reader_go_on "Reader.go_on" = true)
    (k_Reader_go_on : PySem.W.keepIn K (.ref f_Reader_go_on) = true)
    (a_nodes_of : PySem.W.nsIn K mainGlobals "nodes_of" = some (some (.ref f_nodes_of)))
    (l_nodes_of : K.lookup f_nodes_of = some ⟨oc_nodes_of, od_nodes_of, .func (PySem.W.fnOf "nodes_of" "nodes_of" (defArgs s_nodes_of) (defBody s_nodes_of) (defScope s_nodes_of) .none kV_nodes_of dc_nodes_of pm_nodes_of an_nodes_of cd_nodes_of ct_nodes_of), sl_nodes_of⟩)
    (c_nodes_of : PySem.W.codeIn K cd_nodes_of "nodes_of" = true)
    (k_nodes_of : PySem.W.keepIn K (.ref f_nodes_of) = true)
    (a_Nodes___init__ : PySem.W.findIn K (.ref C_Nodes) "__init__" = some (some (.ref f_Nodes___init__)))
    (i_Nodes___init__ : PySem.W.isFn K (.ref f_Nodes___init__) = true)
    (l_Nodes___init__ : K.lookup f_Nodes___init__ = some ⟨oc_Nodes___init__, od_Nodes___init__, .func (PySem.W.fnOf "__init__" "Nodes.__init__" (defArgs s_Nodes___init__) (defBody s_Nodes___init__) (defScope s_Nodes___init__) .none kV_Nodes___init__ dc_Nodes___init__ pm_Nodes___init__ an_Nodes___init__ cd_Nodes___init__ ct_Nodes___init__), sl_Nodes___init__⟩)
    (c_Nodes___init__ : PySem.W.codeIn K cd_Nodes___init__ "Nodes.__init__" = true)
    (k_Nodes___init__ : PySem.W.keepIn K (.ref f_Nodes___init__) = true)
    (mk_Nodes : PySem.W.makesIn K C_Nodes = true)
    (kk_Nodes : PySem.W.keepIn K (.ref C_Nodes) = true)
    (a_Program___init__ : PySem.W.findIn K (.ref C_Program) "__init__" = some (some (.ref f_Program___init__)))
    (i_Program___init__ : PySem.W.isFn K (.ref f_Program___init__) = true)
    (l_Program___init__ : K.lookup f_Program___init__ = some ⟨oc_Program___init__, od_Program___init__, .func (PySem.W.fnOf "__init__" "Program.__init__" (defArgs s_Program___init__) (defBody s_Program___init__) (defScope s_Program___init__) .none kV_Program___init__ dc_Program___init__ pm_Program___init__ an_Program___init__ cd_Program___init__ ct_Program___init__), sl_Program___init__⟩)
    (c_Program___init__ : PySem.W.codeIn K cd_Program___init__ "Program.__init__" = true)
    (k_Program___init__ : PySem.W.keepIn K (.ref f_Program___init__) = true)
    (mk_Program : PySem.W.makesIn K C_Program = true)
    (kk_Program : PySem.W.keepIn K (.ref C_Program) = true)
    (rd_Program_read : PySem.W.readsIn K C_Program (.type "type") = true)
    (ga_Program_read : PySem.W.specialIn K (.ref C_Program) "__getattribute__" = some (some (.builtin "type.__getattribute__")))
    (a_Program_read : PySem.W.findCls K (.ref C_Program) (.type "type") "read" = some (.get (.builtin "classmethod.__get__") (.ref p_Program_read) .none (.ref C_Program)))
    (r_Program_read : PySem.W.recIn K p_Program_read "classmethod" = some (.ref f_Program_read :: rs_Program_read))
    (fi_Program_read : PySem.W.fnIn K f_Program_read = true)
    (l_Program_read : K.lookup f_Program_read = some ⟨oc_Program_read, od_Program_read, .func (PySem.W.fnOf "read" "Program.read" (defArgs s_Program_read) (defBody s_Program_read) (defScope s_Program_read) .none kV_Program_read dc_Program_read pm_Program_read an_Program_read cd_Program_read ct_Program_read), sl_Program_read⟩)
    (c_Program_read : PySem.W.codeIn K cd_Program_read "Program.read" = true)
    (k_Program_read : PySem.W.keepIn K (.ref f_Program_read) = true)
    (a_Program_nodes : PySem.W.findIn K (.ref C_Program) "nodes" = some (some (.ref p_Program_nodes)))
    (g_Program_nodes : PySem.W.specialIn K (.ref p_Program_nodes) "__get__" = some (some (.builtin "property.__get__")))
    (t_Program_nodes : PySem.W.takesIn K (.ref p_Program_nodes) = some true)
    (r_Program_nodes : PySem.W.recIn K p_Program_nodes "property" = some (.ref f_Program_nodes :: rs_Program_nodes))
    (l_Program_nodes : K.lookup f_Program_nodes = some ⟨oc_Program_nodes, od_Program_nodes, .func (PySem.W.fnOf "nodes" "Program.nodes" (defArgs s_Program_nodes) (defBody s_Program_nodes) (defScope s_Program_nodes) .none kV_Program_nodes dc_Program_nodes pm_Program_nodes an_Program_nodes cd_Program_nodes ct_Program_nodes), sl_Program_nodes⟩)
    (c_Program_nodes : PySem.W.codeIn K cd_Program_nodes "Program.nodes" = true)
    (k_Program_nodes : PySem.W.keepIn K (.ref f_Program_nodes) = true)
    (a__law_dice : PySem.W.nsIn K mainGlobals "_law_dice" = some (some (.ref f__law_dice)))
    (l__law_dice : K.lookup f__law_dice = some ⟨oc__law_dice, od__law_dice, .func (PySem.W.fnOf "_law_dice" "_law_dice" (defArgs s__law_dice) (defBody s__law_dice) (defScope s__law_dice) .none kV__law_dice dc__law_dice pm__law_dice an__law_dice cd__law_dice ct__law_dice), sl__law_dice⟩)
    (c__law_dice : PySem.W.codeIn K cd__law_dice "_law_dice" = true)
    (k__law_dice : PySem.W.keepIn K (.ref f__law_dice) = true)
    (a__law_roll : PySem.W.nsIn K mainGlobals "_law_roll" = some (some (.ref f__law_roll)))
    (l__law_roll : K.lookup f__law_roll = some ⟨oc__law_roll, od__law_roll, .func (PySem.W.fnOf "_law_roll" "_law_roll" (defArgs s__law_roll) (defBody s__law_roll) (defScope s__law_roll) .none kV__law_roll dc__law_roll pm__law_roll an__law_roll cd__law_roll ct__law_roll), sl__law_roll⟩)
    (c__law_roll : PySem.W.codeIn K cd__law_roll "_law_roll" = true)
    (k__law_roll : PySem.W.keepIn K (.ref f__law_roll) = true)
    (a__law_pick : PySem.W.nsIn K mainGlobals "_law_pick" = some (some (.ref f__law_pick)))
    (l__law_pick : K.lookup f__law_pick = some ⟨oc__law_pick, od__law_pick, .func (PySem.W.fnOf "_law_pick" "_law_pick" (defArgs s__law_pick) (defBody s__law_pick) (defScope s__law_pick) .none kV__law_pick dc__law_pick pm__law_pick an__law_pick cd__law_pick ct__law_pick), sl__law_pick⟩)
    (c__law_pick : PySem.W.codeIn K cd__law_pick "_law_pick" = true)
    (k__law_pick : PySem.W.keepIn K (.ref f__law_pick) = true)
    (a__law_program_nodes : PySem.W.nsIn K mainGlobals "_law_program_nodes" = some (some (.ref f__law_program_nodes)))
    (l__law_program_nodes : K.lookup f__law_program_nodes = some ⟨oc__law_program_nodes, od__law_program_nodes, .func (PySem.W.fnOf "_law_program_nodes" "_law_program_nodes" (defArgs s__law_program_nodes) (defBody s__law_program_nodes) (defScope s__law_program_nodes) .none kV__law_program_nodes dc__law_program_nodes pm__law_program_nodes an__law_program_nodes cd__law_program_nodes ct__law_program_nodes), sl__law_program_nodes⟩)
    (c__law_program_nodes : PySem.W.codeIn K cd__law_program_nodes "_law_program_nodes" = true)
    (k__law_program_nodes : PySem.W.keepIn K (.ref f__law_program_nodes) = true)
    (a__law_program_text : PySem.W.nsIn K mainGlobals "_law_program_text" = some (some (.ref f__law_program_text)))
    (l__law_program_text : K.lookup f__law_program_text = some ⟨oc__law_program_text, od__law_program_text, .func (PySem.W.fnOf "_law_program_text" "_law_program_text" (defArgs s__law_program_text) (defBody s__law_program_text) (defScope s__law_program_text) .none kV__law_program_text dc__law_program_text pm__law_program_text an__law_program_text cd__law_program_text ct__law_program_text), sl__law_program_text⟩)
    (c__law_program_text : PySem.W.codeIn K cd__law_program_text "_law_program_text" = true)
    (k__law_program_text : PySem.W.keepIn K (.ref f__law_program_text) = true)
    (a__law_program_parts : PySem.W.nsIn K mainGlobals "_law_program_parts" = some (some (.ref f__law_program_parts)))
    (l__law_program_parts : K.lookup f__law_program_parts = some ⟨oc__law_program_parts, od__law_program_parts, .func (PySem.W.fnOf "_law_program_parts" "_law_program_parts" (defArgs s__law_program_parts) (defBody s__law_program_parts) (defScope s__law_program_parts) .none kV__law_program_parts dc__law_program_parts pm__law_program_parts an__law_program_parts cd__law_program_parts ct__law_program_parts), sl__law_program_parts⟩)
    (c__law_program_parts : PySem.W.codeIn K cd__law_program_parts "_law_program_parts" = true)
    (k__law_program_parts : PySem.W.keepIn K (.ref f__law_program_parts) = true)
    (a__law_drawn : PySem.W.nsIn K mainGlobals "_law_drawn" = some (some (.ref f__law_drawn)))
    (l__law_drawn : K.lookup f__law_drawn = some ⟨oc__law_drawn, od__law_drawn, .func (PySem.W.fnOf "_law_drawn" "_law_drawn" (defArgs s__law_drawn) (defBody s__law_drawn) (defScope s__law_drawn) .none kV__law_drawn dc__law_drawn pm__law_drawn an__law_drawn cd__law_drawn ct__law_drawn), sl__law_drawn⟩)
    (c__law_drawn : PySem.W.codeIn K cd__law_drawn "_law_drawn" = true)
    (k__law_drawn : PySem.W.keepIn K (.ref f__law_drawn) = true)
    (a__law_is_head : PySem.W.nsIn K mainGlobals "_law_is_head" = some (some (.ref f__law_is_head)))
    (l__law_is_head : K.lookup f__law_is_head = some ⟨oc__law_is_head, od__law_is_head, .func (PySem.W.fnOf "_law_is_head" "_law_is_head" (defArgs s__law_is_head) (defBody s__law_is_head) (defScope s__law_is_head) .none kV__law_is_head dc__law_is_head pm__law_is_head an__law_is_head cd__law_is_head ct__law_is_head), sl__law_is_head⟩)
    (c__law_is_head : PySem.W.codeIn K cd__law_is_head "_law_is_head" = true)
    (k__law_is_head : PySem.W.keepIn K (.ref f__law_is_head) = true)
    (a__law_closing : PySem.W.nsIn K mainGlobals "_law_closing" = some (some (.ref f__law_closing)))
    (l__law_closing : K.lookup f__law_closing = some ⟨oc__law_closing, od__law_closing, .func (PySem.W.fnOf "_law_closing" "_law_closing" (defArgs s__law_closing) (defBody s__law_closing) (defScope s__law_closing) .none kV__law_closing dc__law_closing pm__law_closing an__law_closing cd__law_closing ct__law_closing), sl__law_closing⟩)
    (c__law_closing : PySem.W.codeIn K cd__law_closing "_law_closing" = true)
    (k__law_closing : PySem.W.keepIn K (.ref f__law_closing) = true)
    (a__law_told : PySem.W.nsIn K mainGlobals "_law_told" = some (some (.ref f__law_told)))
    (l__law_told : K.lookup f__law_told = some ⟨oc__law_told, od__law_told, .func (PySem.W.fnOf "_law_told" "_law_told" (defArgs s__law_told) (defBody s__law_told) (defScope s__law_told) .none kV__law_told dc__law_told pm__law_told an__law_told cd__law_told ct__law_told), sl__law_told⟩)
    (c__law_told : PySem.W.codeIn K cd__law_told "_law_told" = true)
    (k__law_told : PySem.W.keepIn K (.ref f__law_told) = true)
    (a__law_read : PySem.W.nsIn K mainGlobals "_law_read" = some (some (.ref f__law_read)))
    (l__law_read : K.lookup f__law_read = some ⟨oc__law_read, od__law_read, .func (PySem.W.fnOf "_law_read" "_law_read" (defArgs s__law_read) (defBody s__law_read) (defScope s__law_read) .none kV__law_read dc__law_read pm__law_read an__law_read cd__law_read ct__law_read), sl__law_read⟩)
    (c__law_read : PySem.W.codeIn K cd__law_read "_law_read" = true)
    (k__law_read : PySem.W.keepIn K (.ref f__law_read) = true)
    (a__law_bent : PySem.W.nsIn K mainGlobals "_law_bent" = some (some (.ref f__law_bent)))
    (l__law_bent : K.lookup f__law_bent = some ⟨oc__law_bent, od__law_bent, .func (PySem.W.fnOf "_law_bent" "_law_bent" (defArgs s__law_bent) (defBody s__law_bent) (defScope s__law_bent) .none kV__law_bent dc__law_bent pm__law_bent an__law_bent cd__law_bent ct__law_bent), sl__law_bent⟩)
    (c__law_bent : PySem.W.codeIn K cd__law_bent "_law_bent" = true)
    (k__law_bent : PySem.W.keepIn K (.ref f__law_bent) = true)
    (a__law_right : PySem.W.nsIn K mainGlobals "_law_right" = some (some (.ref f__law_right)))
    (l__law_right : K.lookup f__law_right = some ⟨oc__law_right, od__law_right, .func (PySem.W.fnOf "_law_right" "_law_right" (defArgs s__law_right) (defBody s__law_right) (defScope s__law_right) .none kV__law_right dc__law_right pm__law_right an__law_right cd__law_right ct__law_right), sl__law_right⟩)
    (c__law_right : PySem.W.codeIn K cd__law_right "_law_right" = true)
    (k__law_right : PySem.W.keepIn K (.ref f__law_right) = true)
    (a_law : PySem.W.nsIn K mainGlobals "law" = some (some (.ref f_law)))
    (l_law : K.lookup f_law = some ⟨oc_law, od_law, .func (PySem.W.fnOf "law" "law" (defArgs s_law) (defBody s_law) (defScope s_law) .none kV_law dc_law pm_law an_law cd_law ct_law), sl_law⟩)
    (c_law : PySem.W.codeIn K cd_law "law" = true)
    (k_law : PySem.W.keepIn K (.ref f_law) = true)
    (xa_BuildError : PySem.W.nsIn K mainGlobals "BuildError" = some (some (.ref Cx_BuildError)))
    (xe_BuildError : PySem.W.excIn K Cx_BuildError veBm "ValueError.__new__" = true)
    (xk_BuildError : PySem.W.keepIn K (.ref Cx_BuildError) = true)
    (xs_BuildError : PySem.W.subIn K (.ref Cx_BuildError) (.type "BaseException") = some true)
    (xt_BuildError : PySem.W.typeIn K (.ref Cx_BuildError) = some (.type "type"))
    (xa_InvalidProgram : PySem.W.nsIn K mainGlobals "InvalidProgram" = some (some (.ref Cx_InvalidProgram)))
    (xe_InvalidProgram : PySem.W.excIn K Cx_InvalidProgram veBm "ValueError.__new__" = true)
    (xk_InvalidProgram : PySem.W.keepIn K (.ref Cx_InvalidProgram) = true)
    (xs_InvalidProgram : PySem.W.subIn K (.ref Cx_InvalidProgram) (.type "BaseException") = some true)
    (xt_InvalidProgram : PySem.W.typeIn K (.ref Cx_InvalidProgram) = some (.type "type"))
    (xa_ParseError : PySem.W.nsIn K mainGlobals "ParseError" = some (some (.ref Cx_ParseError)))
    (xq_ParseError : PySem.W.excInitIn K Cx_ParseError veBm "ValueError.__new__" = true)
    (xv_ParseError : PySem.W.excOver K Cx_ParseError veBm = true)
    (xS_ParseError : PySem.W.findIn K (.ref Cx_ParseError) "__setattr__" = some (some (.builtin "object.__setattr__")))
    (xn_ParseError : PySem.W.findIn K (.ref Cx_ParseError) "line" = some none)
    (xh_ParseError : PySem.W.hasDictIn K Cx_ParseError = true)
    (xc_ParseError : PySem.W.findIn K (.ref Cx_ParseError) "__init__" = some (some (.ref f_ParseError___init__)))
    (xf_ParseError : PySem.W.isFn K (.ref f_ParseError___init__) = true)
    (l_ParseError___init__ : K.lookup f_ParseError___init__ = some ⟨oc_ParseError___init__, od_ParseError___init__, .func (PySem.W.fnOf "__init__" "ParseError.__init__" (defArgs s_ParseError___init__) (defBody s_ParseError___init__) (defScope s_ParseError___init__) .none kV_ParseError___init__ dc_ParseError___init__ pm_ParseError___init__ an_ParseError___init__ cd_ParseError___init__ ct_ParseError___init__), sl_ParseError___init__⟩)
    (c_ParseError___init__ : PySem.W.codeIn K cd_ParseError___init__ "ParseError.__init__" = true)
    (xk_ParseError : PySem.W.keepIn K (.ref Cx_ParseError) = true)
    (xs_ParseError : PySem.W.subIn K (.ref Cx_ParseError) (.type "BaseException") = some true)
    (xt_ParseError : PySem.W.typeIn K (.ref Cx_ParseError) = some (.type "type"))
    (xg_ParseError : PySem.W.findIn K (.ref Cx_ParseError) "__getattribute__" = some (some (.builtin "BaseException.__getattribute__")))
    (xG_ParseError : PySem.W.findIn K (.ref Cx_ParseError) "__getattr__" = some none)
    (xi_BuildError : PySem.W.isClsIn K Cx_BuildError = true)
    (xo_ParseError_BuildError : PySem.W.subIn K (.ref Cx_ParseError) (.ref Cx_BuildError) = some true)
    (xo_InvalidProgram_BuildError : PySem.W.subIn K (.ref Cx_InvalidProgram) (.ref Cx_BuildError) = some true)
    (xo_BuildError_BuildError : PySem.W.subIn K (.ref Cx_BuildError) (.ref Cx_BuildError) = some true)
    (xi_InvalidProgram : PySem.W.isClsIn K Cx_InvalidProgram = true)
    (xo_ParseError_InvalidProgram : PySem.W.subIn K (.ref Cx_ParseError) (.ref Cx_InvalidProgram) = some false)
    (xo_InvalidProgram_InvalidProgram : PySem.W.subIn K (.ref Cx_InvalidProgram) (.ref Cx_InvalidProgram) = some true)
    (xo_BuildError_InvalidProgram : PySem.W.subIn K (.ref Cx_BuildError) (.ref Cx_InvalidProgram) = some false)
    (xi_ParseError : PySem.W.isClsIn K Cx_ParseError = true)
    (xo_ParseError_ParseError : PySem.W.subIn K (.ref Cx_ParseError) (.ref Cx_ParseError) = some true)
    (xo_InvalidProgram_ParseError : PySem.W.subIn K (.ref Cx_InvalidProgram) (.ref Cx_ParseError) = some false)
    (xo_BuildError_ParseError : PySem.W.subIn K (.ref Cx_BuildError) (.ref Cx_ParseError) = some false) : ∃ Z, All ⟨mg, K⟩ Z := by
  have kcF_Reader : ClsF ⟨mg, K⟩ "Reader" C_Reader := ⟨PySem.W.mg_of X G aC_Reader, ⟨pg_Reader, hd_Reader, po_Reader, sa_Reader⟩, ha_Reader, hn_Reader, ht_Reader, hm_Reader⟩
  have kcF_Nodes : ClsF ⟨mg, K⟩ "Nodes" C_Nodes := ⟨PySem.W.mg_of X G aC_Nodes, ⟨pg_Nodes, hd_Nodes, po_Nodes, sa_Nodes⟩, ha_Nodes, hn_Nodes, ht_Nodes, hm_Nodes⟩
  have kcF_Program : ClsF ⟨mg, K⟩ "Program" C_Program := ⟨PySem.W.mg_of X G aC_Program, ⟨pg_Program, hd_Program, po_Program, sa_Program⟩, ha_Program, hn_Program, ht_Program, hm_Program⟩
  exact ⟨⟨C_Reader, C_Nodes, C_Program, Cx_BuildError, Cx_InvalidProgram, Cx_ParseError⟩, ⟨PySem.W.mg_none_of X G z_abs,
    PySem.W.mg_none_of X G z_all,
    PySem.W.mg_none_of X G z_bool,
    PySem.W.mg_none_of X G z_enumerate,
    PySem.W.mg_none_of X G z_int,
    PySem.W.mg_none_of X G z_isinstance,
    PySem.W.mg_none_of X G z_len,
    PySem.W.mg_none_of X G z_max,
    PySem.W.mg_none_of X G z_min,
    PySem.W.mg_none_of X G z_range,
    PySem.W.mg_none_of X G z_str,
    PySem.W.mg_none_of X G z_tuple,
    PySem.W.mg_none_of X G z_zip,
    ⟨_, PySem.W.mg_of X G y_DIGITS⟩,
    ⟨_, PySem.W.mg_of X G y_DOT⟩,
    ⟨_, PySem.W.mg_of X G y_GAP⟩,
    ⟨_, PySem.W.mg_of X G y_LAMBDA⟩,
    ⟨_, PySem.W.mg_of X G y_LETTERS⟩,
    ⟨_, PySem.W.mg_of X G y_LONGEST⟩,
    ⟨_, PySem.W.mg_of X G y_MAX_COUNT⟩,
    ⟨_, PySem.W.mg_of X G y_MAX_LETTERS⟩,
    ⟨_, PySem.W.mg_of X G y_MAX_LEVEL⟩,
    ⟨_, PySem.W.mg_of X G y_MAX_NODES⟩,
    ⟨_, PySem.W.mg_of X G y_VARIABLE⟩,
    kcF_Reader,
    fa_Reader_of_tokens,
    fa_Reader_of_at,
    fa_Reader_of_nodes,
    fa_Reader_of_open,
    kcF_Nodes,
    fa_Nodes_told_nodes,
    isi_mk kcF_Nodes ic_Nodes ty_Nodes ki0_Nodes ki1_Nodes ki2_Nodes ki3_Nodes ki4_Nodes ki5_Nodes ki6_Nodes,
    kcF_Program,
    fa_Program_own_kids,
    fa_Program_own_ends,
    fa_Program_own_bound,
    fa_Program_own_nodes,
    isi_mk kcF_Program ic_Program ty_Program ki0_Program ki1_Program ki2_Program ki3_Program ki4_Program ki5_Program ki6_Program,
    ⟨_, _, PySem.W.mg_of X G a_is_integer, fun_mk (st := s_is_integer) l_is_integer c_is_integer k_is_integer⟩,
    ⟨_, _, PySem.W.mg_of X G a_is_within, fun_mk (st := s_is_within) l_is_within c_is_within k_is_within⟩,
    ⟨_, _, PySem.W.mg_of X G a_is_word, fun_mk (st := s_is_word) l_is_word c_is_word k_is_word⟩,
    ⟨_, _, PySem.W.mg_of X G a_level_of, fun_mk (st := s_level_of) l_level_of c_level_of k_level_of⟩,
    ⟨_, _, PySem.W.mg_of X G a_is_node, fun_mk (st := s_is_node) l_is_node c_is_node k_is_node⟩,
    ⟨_, _, PySem.W.mg_of X G a_kids_of, fun_mk (st := s_kids_of) l_kids_of c_kids_of k_kids_of⟩,
    ⟨_, _, PySem.W.mg_of X G a_ends_of, fun_mk (st := s_ends_of) l_ends_of c_ends_of k_ends_of⟩,
    ⟨_, _, PySem.W.mg_of X G a_bound_of, fun_mk (st := s_bound_of) l_bound_of c_bound_of k_bound_of⟩,
    ⟨_, _, PySem.W.mg_of X G a_are_nodes, fun_mk (st := s_are_nodes) l_are_nodes c_are_nodes k_are_nodes⟩,
    ⟨_, _, PySem.W.mg_of X G a_variable_text, fun_mk (st := s_variable_text) l_variable_text c_variable_text k_variable_text⟩,
    ⟨_, _, PySem.W.mg_of X G a_tokens_of, fun_mk (st := s_tokens_of) l_tokens_of c_tokens_of k_tokens_of⟩,
    ⟨_, _, ⟨mk_Reader, a_Reader___init__, i_Reader___init__, kk_Reader⟩, fun_mk (st := s_Reader___init__) l_Reader___init__ c_Reader___init__ k_Reader___init__⟩,
    ⟨_, _, ⟨a_Reader_token, i_Reader_token, k_Reader_token⟩, fun_mk (st := s_Reader_token) l_Reader_token c_Reader_token k_Reader_token⟩,
    ⟨_, _, ⟨a_Reader_binders, i_Reader_binders, k_Reader_binders⟩, fun_mk (st := s_Reader_binders) l_Reader_binders c_Reader_binders k_Reader_binders⟩,
    ⟨_, _, ⟨a_Reader_begin, i_Reader_begin, k_Reader_begin⟩, fun_mk (st := s_Reader_begin) l_Reader_begin c_Reader_begin k_Reader_begin⟩,
    ⟨_, _, ⟨a_Reader_add, i_Reader_add, k_Reader_add⟩, fun_mk (st := s_Reader_add) l_Reader_add c_Reader_add k_Reader_add⟩,
    ⟨_, _, ⟨a_Reader_go_on, i_Reader_go_on, k_Reader_go_on⟩, fun_mk (st := s_Reader_go_on) l_Reader_go_on c_Reader_go_on k_Reader_go_on⟩,
    ⟨_, _, PySem.W.mg_of X G a_nodes_of, fun_mk (st := s_nodes_of) l_nodes_of c_nodes_of k_nodes_of⟩,
    ⟨_, _, ⟨mk_Nodes, a_Nodes___init__, i_Nodes___init__, kk_Nodes⟩, fun_mk (st := s_Nodes___init__) l_Nodes___init__ c_Nodes___init__ k_Nodes___init__⟩,
    ⟨_, _, ⟨mk_Program, a_Program___init__, i_Program___init__, kk_Program⟩, fun_mk (st := s_Program___init__) l_Program___init__ c_Program___init__ k_Program___init__⟩,
    ⟨_, _, _, _, ⟨rd_Program_read, ga_Program_read⟩, ⟨a_Program_read, ⟨_, r_Program_read⟩, fi_Program_read⟩, fun_mk (st := s_Program_read) l_Program_read c_Program_read k_Program_read⟩,
    ⟨_, _, _, ⟨a_Program_nodes, g_Program_nodes, t_Program_nodes, _, r_Program_nodes⟩, fun_mk (st := s_Program_nodes) l_Program_nodes c_Program_nodes k_Program_nodes⟩,
    ⟨_, _, PySem.W.mg_of X G a__law_dice, fun_mk (st := s__law_dice) l__law_dice c__law_dice k__law_dice⟩,
    ⟨_, _, PySem.W.mg_of X G a__law_roll, fun_mk (st := s__law_roll) l__law_roll c__law_roll k__law_roll⟩,
    ⟨_, _, PySem.W.mg_of X G a__law_pick, fun_mk (st := s__law_pick) l__law_pick c__law_pick k__law_pick⟩,
    ⟨_, _, PySem.W.mg_of X G a__law_program_nodes, fun_mk (st := s__law_program_nodes) l__law_program_nodes c__law_program_nodes k__law_program_nodes⟩,
    ⟨_, _, PySem.W.mg_of X G a__law_program_text, fun_mk (st := s__law_program_text) l__law_program_text c__law_program_text k__law_program_text⟩,
    ⟨_, _, PySem.W.mg_of X G a__law_program_parts, fun_mk (st := s__law_program_parts) l__law_program_parts c__law_program_parts k__law_program_parts⟩,
    ⟨_, _, PySem.W.mg_of X G a__law_drawn, fun_mk (st := s__law_drawn) l__law_drawn c__law_drawn k__law_drawn⟩,
    ⟨_, _, PySem.W.mg_of X G a__law_is_head, fun_mk (st := s__law_is_head) l__law_is_head c__law_is_head k__law_is_head⟩,
    ⟨_, _, PySem.W.mg_of X G a__law_closing, fun_mk (st := s__law_closing) l__law_closing c__law_closing k__law_closing⟩,
    ⟨_, _, PySem.W.mg_of X G a__law_told, fun_mk (st := s__law_told) l__law_told c__law_told k__law_told⟩,
    ⟨_, _, PySem.W.mg_of X G a__law_read, fun_mk (st := s__law_read) l__law_read c__law_read k__law_read⟩,
    ⟨_, _, PySem.W.mg_of X G a__law_bent, fun_mk (st := s__law_bent) l__law_bent c__law_bent k__law_bent⟩,
    ⟨_, _, PySem.W.mg_of X G a__law_right, fun_mk (st := s__law_right) l__law_right c__law_right k__law_right⟩,
    ⟨_, _, PySem.W.mg_of X G a_law, fun_mk (st := s_law) l_law c_law k_law⟩,
    ⟨PySem.W.mg_of X G xa_BuildError, xe_BuildError, xk_BuildError, xs_BuildError, xt_BuildError⟩,
    ⟨PySem.W.mg_of X G xa_InvalidProgram, xe_InvalidProgram, xk_InvalidProgram, xs_InvalidProgram, xt_InvalidProgram⟩,
    xcF_mk (st := s_ParseError___init__) (PySem.W.mg_of X G xa_ParseError) xq_ParseError xv_ParseError xS_ParseError xn_ParseError xh_ParseError xc_ParseError xf_ParseError l_ParseError___init__ c_ParseError___init__ ⟨by decide, by decide, ⟨_, _, rfl⟩, ⟨_, _, _, _, rfl⟩, rfl⟩ (fun _ _ => rfl) xk_ParseError xs_ParseError xt_ParseError xg_ParseError xG_ParseError,
    (CatF.cons (b := true) (PySem.W.mg_of X G xa_BuildError) (exm_sub xi_BuildError xt_BuildError xs_BuildError xo_BuildError_BuildError) (by decide +kernel) (CatF.cons (b := true) (PySem.W.mg_of X G xa_InvalidProgram) (exm_sub xi_BuildError xt_BuildError xs_BuildError xo_InvalidProgram_BuildError) (by decide +kernel) (CatF.cons (b := true) (PySem.W.mg_of X G xa_ParseError) (exm_sub xi_BuildError xt_BuildError xs_BuildError xo_ParseError_BuildError) (by decide +kernel) CatF.none))),
    (CatF.cons (b := false) (PySem.W.mg_of X G xa_BuildError) (exm_sub xi_InvalidProgram xt_InvalidProgram xs_InvalidProgram xo_BuildError_InvalidProgram) (by decide +kernel) (CatF.cons (b := true) (PySem.W.mg_of X G xa_InvalidProgram) (exm_sub xi_InvalidProgram xt_InvalidProgram xs_InvalidProgram xo_InvalidProgram_InvalidProgram) (by decide +kernel) (CatF.cons (b := false) (PySem.W.mg_of X G xa_ParseError) (exm_sub xi_InvalidProgram xt_InvalidProgram xs_InvalidProgram xo_ParseError_InvalidProgram) (by decide +kernel) CatF.none))),
    (CatF.cons (b := false) (PySem.W.mg_of X G xa_BuildError) (exm_sub xi_ParseError xt_ParseError xs_ParseError xo_BuildError_ParseError) (by decide +kernel) (CatF.cons (b := false) (PySem.W.mg_of X G xa_InvalidProgram) (exm_sub xi_ParseError xt_ParseError xs_ParseError xo_InvalidProgram_ParseError) (by decide +kernel) (CatF.cons (b := true) (PySem.W.mg_of X G xa_ParseError) (exm_sub xi_ParseError xt_ParseError xs_ParseError xo_ParseError_ParseError) (by decide +kernel) CatF.none)))⟩⟩
open KP
theorem ok_all {P : Program} {w : World} {mg : Gm} {base : Heap} (A : ∃ Z, All mg Z) : DefOk P w mg base 162 "law" 1 f_law := by
  obtain ⟨Z, A⟩ := A
  have g__law_dice := ok__law_dice (P := P) (w := w) (base := base) A 
  have g_Program_nodes := ok_Program_nodes (P := P) (w := w) (base := base) A 
  have g_bound_of := ok_bound_of (P := P) (w := w) (base := base) A 
  have g_is_integer := ok_is_integer (P := P) (w := w) (base := base) A 
  have g_is_within := ok_is_within (P := P) (w := w) (base := base) A g_is_integer
  have g_is_word := ok_is_word (P := P) (w := w) (base := base) A 
  have g_level_of := ok_level_of (P := P) (w := w) (base := base) A 
  have g_is_node := ok_is_node (P := P) (w := w) (base := base) A g_is_within g_is_word g_level_of
  have g_kids_of := ok_kids_of (P := P) (w := w) (base := base) A 
  have g_are_nodes := ok_are_nodes (P := P) (w := w) (base := base) A g_bound_of g_is_node g_kids_of g_level_of
  have g_ends_of := ok_ends_of (P := P) (w := w) (base := base) A 
  have g_Program___init__ := ok_Program___init__ (P := P) (w := w) (base := base) A g_are_nodes g_bound_of g_ends_of g_kids_of
  have g_Reader___init__ := ok_Reader___init__ (P := P) (w := w) (base := base) A 
  have g_Reader_token := ok_Reader_token (P := P) (w := w) (base := base) A 
  have g_Reader_add := ok_Reader_add (P := P) (w := w) (base := base) A g_Reader_token g_is_node
  have g_variable_text := ok_variable_text (P := P) (w := w) (base := base) A 
  have g_Reader_binders := ok_Reader_binders (P := P) (w := w) (base := base) A g_Reader_token g_variable_text
  have g_Reader_begin := ok_Reader_begin (P := P) (w := w) (base := base) A g_Reader_add g_Reader_binders
  have g_Reader_go_on := ok_Reader_go_on (P := P) (w := w) (base := base) A g_Reader_add g_Reader_begin g_Reader_token
  have g_tokens_of := ok_tokens_of (P := P) (w := w) (base := base) A 
  have g_nodes_of := ok_nodes_of (P := P) (w := w) (base := base) A g_Reader___init__ g_Reader_begin g_Reader_go_on g_are_nodes g_tokens_of
  have g_Program_read := ok_Program_read (P := P) (w := w) (base := base) A g_Program___init__ g_are_nodes g_nodes_of
  have g__law_read := ok__law_read (P := P) (w := w) (base := base) A g_Program_nodes g_Program_read
  have g__law_roll := ok__law_roll (P := P) (w := w) (base := base) A 
  have g__law_pick := ok__law_pick (P := P) (w := w) (base := base) A g__law_roll
  have g__law_bent := ok__law_bent (P := P) (w := w) (base := base) A g__law_pick g__law_roll
  have g__law_program_parts := rs__law_program_parts (P := P) (w := w) (base := base) A  61
  have g__law_drawn := rs__law_drawn (P := P) (w := w) (base := base) A g__law_pick g__law_program_parts g__law_roll 11
  have g__law_program_nodes := rs__law_program_nodes (P := P) (w := w) (base := base) A  61
  have g__law_program_text := rs__law_program_text (P := P) (w := w) (base := base) A  61
  have g__law_closing := ok__law_closing (P := P) (w := w) (base := base) A 
  have g__law_is_head := ok__law_is_head (P := P) (w := w) (base := base) A 
  have g__law_told := rs__law_told (P := P) (w := w) (base := base) A g__law_closing g__law_is_head 64
  have g__law_right := ok__law_right (P := P) (w := w) (base := base) A g__law_bent g__law_drawn g__law_program_nodes g__law_program_parts g__law_program_text g__law_read g__law_told
  have g_law := ok_law (P := P) (w := w) (base := base) A g__law_dice g__law_read g__law_right
  exact g_law
end K16
open PySem PySem.W PyProof.Rows in
set_option maxRecDepth 100000 in
set_option maxHeartbeats 0 in
theorem PySem.Challenge.cw_fromparts_k16_whole_programs_and_their_t_holds : PySem.Challenge.rw_fromparts_k16_whole_programs_and_their_t.Holds := by
  w_on; o_law; k_head; (case hw => w_witness2)
  k_fill
  letI : FP.Tabl := ⟨[]⟩
  refine FP.walkG (l := PySem.Challenge.rw_fromparts_k16_whole_programs_and_their_t) (f := KP.f_law) (k := 162) rfl rfl rfl ⟨⟨rfl, by decide, by decide⟩, rfl⟩ (fun w h Y => PySem.W.kIn_of Y) ?F (fun ns h => ⟨⟨ns, rfl, h⟩, rfl⟩)
  case F =>
    intro w mg h KX G base
    refine K16.ok_all ?A
    refine' K16.all_mk KX G ?z_abs ?z_all ?z_bool ?z_enumerate ?z_int ?z_isinstance ?z_len ?z_max ?z_min ?z_range ?z_str ?z_tuple ?z_zip ?y_DIGITS ?y_DOT ?y_GAP ?y_LAMBDA ?y_LETTERS ?y_LONGEST ?y_MAX_COUNT ?y_MAX_LETTERS ?y_MAX_LEVEL ?y_MAX_NODES ?y_VARIABLE ?aC_Reader ?pg_Reader ?hd_Reader ?po_Reader ?sa_Reader ?ha_Reader ?hn_Reader ?ht_Reader ?hm_Reader ?fa_Reader_of_tokens ?fa_Reader_of_at ?fa_Reader_of_nodes ?fa_Reader_of_open ?aC_Nodes ?pg_Nodes ?hd_Nodes ?po_Nodes ?sa_Nodes ?ha_Nodes ?hn_Nodes ?ht_Nodes ?hm_Nodes ?fa_Nodes_told_nodes ?ic_Nodes ?ty_Nodes ?ki0_Nodes ?ki1_Nodes ?ki2_Nodes ?ki3_Nodes ?ki4_Nodes ?ki5_Nodes ?ki6_Nodes ?aC_Program ?pg_Program ?hd_Program ?po_Program ?sa_Program ?ha_Program ?hn_Program ?ht_Program ?hm_Program ?fa_Program_own_kids ?fa_Program_own_ends ?fa_Program_own_bound ?fa_Program_own_nodes ?ic_Program ?ty_Program ?ki0_Program ?ki1_Program ?ki2_Program ?ki3_Program ?ki4_Program ?ki5_Program ?ki6_Program ?a_is_integer ?l_is_integer ?c_is_integer ?k_is_integer ?a_is_within ?l_is_within ?c_is_within ?k_is_within ?a_is_word ?l_is_word ?c_is_word ?k_is_word ?a_level_of ?l_level_of ?c_level_of ?k_level_of ?a_is_node ?l_is_node ?c_is_node ?k_is_node ?a_kids_of ?l_kids_of ?c_kids_of ?k_kids_of ?a_ends_of ?l_ends_of ?c_ends_of ?k_ends_of ?a_bound_of ?l_bound_of ?c_bound_of ?k_bound_of ?a_are_nodes ?l_are_nodes ?c_are_nodes ?k_are_nodes ?a_variable_text ?l_variable_text ?c_variable_text ?k_variable_text ?a_tokens_of ?l_tokens_of ?c_tokens_of ?k_tokens_of ?a_Reader___init__ ?i_Reader___init__ ?l_Reader___init__ ?c_Reader___init__ ?k_Reader___init__ ?mk_Reader ?kk_Reader ?a_Reader_token ?i_Reader_token ?l_Reader_token ?c_Reader_token ?k_Reader_token ?a_Reader_binders ?i_Reader_binders ?l_Reader_binders ?c_Reader_binders ?k_Reader_binders ?a_Reader_begin ?i_Reader_begin ?l_Reader_begin ?c_Reader_begin ?k_Reader_begin ?a_Reader_add ?i_Reader_add ?l_Reader_add ?c_Reader_add ?k_Reader_add ?a_Reader_go_on ?i_Reader_go_on ?l_Reader_go_on ?c_Reader_go_on ?k_Reader_go_on ?a_nodes_of ?l_nodes_of ?c_nodes_of ?k_nodes_of ?a_Nodes___init__ ?i_Nodes___init__ ?l_Nodes___init__ ?c_Nodes___init__ ?k_Nodes___init__ ?mk_Nodes ?kk_Nodes ?a_Program___init__ ?i_Program___init__ ?l_Program___init__ ?c_Program___init__ ?k_Program___init__ ?mk_Program ?kk_Program ?rd_Program_read ?ga_Program_read ?a_Program_read ?r_Program_read ?fi_Program_read ?l_Program_read ?c_Program_read ?k_Program_read ?a_Program_nodes ?g_Program_nodes ?t_Program_nodes ?r_Program_nodes ?l_Program_nodes ?c_Program_nodes ?k_Program_nodes ?a__law_dice ?l__law_dice ?c__law_dice ?k__law_dice ?a__law_roll ?l__law_roll ?c__law_roll ?k__law_roll ?a__law_pick ?l__law_pick ?c__law_pick ?k__law_pick ?a__law_program_nodes ?l__law_program_nodes ?c__law_program_nodes ?k__law_program_nodes ?a__law_program_text ?l__law_program_text ?c__law_program_text ?k__law_program_text ?a__law_program_parts ?l__law_program_parts ?c__law_program_parts ?k__law_program_parts ?a__law_drawn ?l__law_drawn ?c__law_drawn ?k__law_drawn ?a__law_is_head ?l__law_is_head ?c__law_is_head ?k__law_is_head ?a__law_closing ?l__law_closing ?c__law_closing ?k__law_closing ?a__law_told ?l__law_told ?c__law_told ?k__law_told ?a__law_read ?l__law_read ?c__law_read ?k__law_read ?a__law_bent ?l__law_bent ?c__law_bent ?k__law_bent ?a__law_right ?l__law_right ?c__law_right ?k__law_right ?a_law ?l_law ?c_law ?k_law ?xa_BuildError ?xe_BuildError ?xk_BuildError ?xs_BuildError ?xt_BuildError ?xa_InvalidProgram ?xe_InvalidProgram ?xk_InvalidProgram ?xs_InvalidProgram ?xt_InvalidProgram ?xa_ParseError ?xq_ParseError ?xv_ParseError ?xS_ParseError ?xn_ParseError ?xh_ParseError ?xc_ParseError ?xf_ParseError ?l_ParseError___init__ ?c_ParseError___init__ ?xk_ParseError ?xs_ParseError ?xt_ParseError ?xg_ParseError ?xG_ParseError ?xi_BuildError ?xo_ParseError_BuildError ?xo_InvalidProgram_BuildError ?xo_BuildError_BuildError ?xi_InvalidProgram ?xo_ParseError_InvalidProgram ?xo_InvalidProgram_InvalidProgram ?xo_BuildError_InvalidProgram ?xi_ParseError ?xo_ParseError_ParseError ?xo_InvalidProgram_ParseError ?xo_BuildError_ParseError
    (case z_abs => k_is)
    (case z_all => k_is)
    (case z_bool => k_is)
    (case z_enumerate => k_is)
    (case z_int => k_is)
    (case z_isinstance => k_is)
    (case z_len => k_is)
    (case z_max => k_is)
    (case z_min => k_is)
    (case z_range => k_is)
    (case z_str => k_is)
    (case z_tuple => k_is)
    (case z_zip => k_is)
    (case y_DIGITS => k_is)
    (case y_DOT => k_is)
    (case y_GAP => k_is)
    (case y_LAMBDA => k_is)
    (case y_LETTERS => k_is)
    (case y_LONGEST => k_is)
    (case y_MAX_COUNT => k_is)
    (case y_MAX_LETTERS => k_is)
    (case y_MAX_LEVEL => k_is)
    (case y_MAX_NODES => k_is)
    (case y_VARIABLE => k_is)
    (case aC_Reader => k_is)
    (case pg_Reader => k_is)
    (case hd_Reader => k_is)
    (case po_Reader => k_is)
    (case sa_Reader => k_is)
    (case ha_Reader => k_is)
    (case hn_Reader => k_is)
    (case ht_Reader => k_is)
    (case hm_Reader => k_is)
    (case fa_Reader_of_tokens => k_is)
    (case fa_Reader_of_at => k_is)
    (case fa_Reader_of_nodes => k_is)
    (case fa_Reader_of_open => k_is)
    (case aC_Nodes => k_is)
    (case pg_Nodes => k_is)
    (case hd_Nodes => k_is)
    (case po_Nodes => k_is)
    (case sa_Nodes => k_is)
    (case ha_Nodes => k_is)
    (case hn_Nodes => k_is)
    (case ht_Nodes => k_is)
    (case hm_Nodes => k_is)
    (case fa_Nodes_told_nodes => k_is)
    (case ic_Nodes => k_is)
    (case ty_Nodes => k_is)
    (case ki0_Nodes => k_is)
    (case ki1_Nodes => k_is)
    (case ki2_Nodes => k_is)
    (case ki3_Nodes => k_is)
    (case ki4_Nodes => k_is)
    (case ki5_Nodes => k_is)
    (case ki6_Nodes => k_is)
    (case aC_Program => k_is)
    (case pg_Program => k_is)
    (case hd_Program => k_is)
    (case po_Program => k_is)
    (case sa_Program => k_is)
    (case ha_Program => k_is)
    (case hn_Program => k_is)
    (case ht_Program => k_is)
    (case hm_Program => k_is)
    (case fa_Program_own_kids => k_is)
    (case fa_Program_own_ends => k_is)
    (case fa_Program_own_bound => k_is)
    (case fa_Program_own_nodes => k_is)
    (case ic_Program => k_is)
    (case ty_Program => k_is)
    (case ki0_Program => k_is)
    (case ki1_Program => k_is)
    (case ki2_Program => k_is)
    (case ki3_Program => k_is)
    (case ki4_Program => k_is)
    (case ki5_Program => k_is)
    (case ki6_Program => k_is)
    (case a_is_integer => k_is)
    (case l_is_integer => k_is)
    (case c_is_integer => k_is)
    (case k_is_integer => k_is)
    (case a_is_within => k_is)
    (case l_is_within => k_is)
    (case c_is_within => k_is)
    (case k_is_within => k_is)
    (case a_is_word => k_is)
    (case l_is_word => k_is)
    (case c_is_word => k_is)
    (case k_is_word => k_is)
    (case a_level_of => k_is)
    (case l_level_of => k_is)
    (case c_level_of => k_is)
    (case k_level_of => k_is)
    (case a_is_node => k_is)
    (case l_is_node => k_is)
    (case c_is_node => k_is)
    (case k_is_node => k_is)
    (case a_kids_of => k_is)
    (case l_kids_of => k_is)
    (case c_kids_of => k_is)
    (case k_kids_of => k_is)
    (case a_ends_of => k_is)
    (case l_ends_of => k_is)
    (case c_ends_of => k_is)
    (case k_ends_of => k_is)
    (case a_bound_of => k_is)
    (case l_bound_of => k_is)
    (case c_bound_of => k_is)
    (case k_bound_of => k_is)
    (case a_are_nodes => k_is)
    (case l_are_nodes => k_is)
    (case c_are_nodes => k_is)
    (case k_are_nodes => k_is)
    (case a_variable_text => k_is)
    (case l_variable_text => k_is)
    (case c_variable_text => k_is)
    (case k_variable_text => k_is)
    (case a_tokens_of => k_is)
    (case l_tokens_of => k_is)
    (case c_tokens_of => k_is)
    (case k_tokens_of => k_is)
    (case a_Reader___init__ => k_is)
    (case i_Reader___init__ => k_is)
    (case l_Reader___init__ => k_is)
    (case c_Reader___init__ => k_is)
    (case k_Reader___init__ => k_is)
    (case mk_Reader => k_is)
    (case kk_Reader => k_is)
    (case a_Reader_token => k_is)
    (case i_Reader_token => k_is)
    (case l_Reader_token => k_is)
    (case c_Reader_token => k_is)
    (case k_Reader_token => k_is)
    (case a_Reader_binders => k_is)
    (case i_Reader_binders => k_is)
    (case l_Reader_binders => k_is)
    (case c_Reader_binders => k_is)
    (case k_Reader_binders => k_is)
    (case a_Reader_begin => k_is)
    (case i_Reader_begin => k_is)
    (case l_Reader_begin => k_is)
    (case c_Reader_begin => k_is)
    (case k_Reader_begin => k_is)
    (case a_Reader_add => k_is)
    (case i_Reader_add => k_is)
    (case l_Reader_add => k_is)
    (case c_Reader_add => k_is)
    (case k_Reader_add => k_is)
    (case a_Reader_go_on => k_is)
    (case i_Reader_go_on => k_is)
    (case l_Reader_go_on => k_is)
    (case c_Reader_go_on => k_is)
    (case k_Reader_go_on => k_is)
    (case a_nodes_of => k_is)
    (case l_nodes_of => k_is)
    (case c_nodes_of => k_is)
    (case k_nodes_of => k_is)
    (case a_Nodes___init__ => k_is)
    (case i_Nodes___init__ => k_is)
    (case l_Nodes___init__ => k_is)
    (case c_Nodes___init__ => k_is)
    (case k_Nodes___init__ => k_is)
    (case mk_Nodes => k_is)
    (case kk_Nodes => k_is)
    (case a_Program___init__ => k_is)
    (case i_Program___init__ => k_is)
    (case l_Program___init__ => k_is)
    (case c_Program___init__ => k_is)
    (case k_Program___init__ => k_is)
    (case mk_Program => k_is)
    (case kk_Program => k_is)
    (case rd_Program_read => k_is)
    (case ga_Program_read => k_is)
    (case a_Program_read => k_is)
    (case r_Program_read => k_is)
    (case fi_Program_read => k_is)
    (case l_Program_read => k_is)
    (case c_Program_read => k_is)
    (case k_Program_read => k_is)
    (case a_Program_nodes => k_is)
    (case g_Program_nodes => k_is)
    (case t_Program_nodes => k_is)
    (case r_Program_nodes => k_is)
    (case l_Program_nodes => k_is)
    (case c_Program_nodes => k_is)
    (case k_Program_nodes => k_is)
    (case a__law_dice => k_is)
    (case l__law_dice => k_is)
    (case c__law_dice => k_is)
    (case k__law_dice => k_is)
    (case a__law_roll => k_is)
    (case l__law_roll => k_is)
    (case c__law_roll => k_is)
    (case k__law_roll => k_is)
    (case a__law_pick => k_is)
    (case l__law_pick => k_is)
    (case c__law_pick => k_is)
    (case k__law_pick => k_is)
    (case a__law_program_nodes => k_is)
    (case l__law_program_nodes => k_is)
    (case c__law_program_nodes => k_is)
    (case k__law_program_nodes => k_is)
    (case a__law_program_text => k_is)
    (case l__law_program_text => k_is)
    (case c__law_program_text => k_is)
    (case k__law_program_text => k_is)
    (case a__law_program_parts => k_is)
    (case l__law_program_parts => k_is)
    (case c__law_program_parts => k_is)
    (case k__law_program_parts => k_is)
    (case a__law_drawn => k_is)
    (case l__law_drawn => k_is)
    (case c__law_drawn => k_is)
    (case k__law_drawn => k_is)
    (case a__law_is_head => k_is)
    (case l__law_is_head => k_is)
    (case c__law_is_head => k_is)
    (case k__law_is_head => k_is)
    (case a__law_closing => k_is)
    (case l__law_closing => k_is)
    (case c__law_closing => k_is)
    (case k__law_closing => k_is)
    (case a__law_told => k_is)
    (case l__law_told => k_is)
    (case c__law_told => k_is)
    (case k__law_told => k_is)
    (case a__law_read => k_is)
    (case l__law_read => k_is)
    (case c__law_read => k_is)
    (case k__law_read => k_is)
    (case a__law_bent => k_is)
    (case l__law_bent => k_is)
    (case c__law_bent => k_is)
    (case k__law_bent => k_is)
    (case a__law_right => k_is)
    (case l__law_right => k_is)
    (case c__law_right => k_is)
    (case k__law_right => k_is)
    (case a_law => k_is)
    (case l_law => k_is)
    (case c_law => k_is)
    (case k_law => k_is)
    (case xa_BuildError => k_is)
    (case xe_BuildError => k_exc)
    (case xk_BuildError => k_is)
    (case xs_BuildError => k_is)
    (case xt_BuildError => k_is)
    (case xa_InvalidProgram => k_is)
    (case xe_InvalidProgram => k_exc)
    (case xk_InvalidProgram => k_is)
    (case xs_InvalidProgram => k_is)
    (case xt_InvalidProgram => k_is)
    (case xa_ParseError => k_is)
    (case xq_ParseError => kx_is)
    (case xv_ParseError => kx_is)
    (case xS_ParseError => k_is)
    (case xn_ParseError => k_is)
    (case xh_ParseError => k_is)
    (case xc_ParseError => k_is)
    (case xf_ParseError => k_is)
    (case l_ParseError___init__ => k_is)
    (case c_ParseError___init__ => k_is)
    (case xk_ParseError => k_is)
    (case xs_ParseError => k_is)
    (case xt_ParseError => k_is)
    (case xg_ParseError => k_is)
    (case xG_ParseError => k_is)
    (case xi_BuildError => k_is)
    (case xo_ParseError_BuildError => k_is)
    (case xo_InvalidProgram_BuildError => k_is)
    (case xo_BuildError_BuildError => k_is)
    (case xi_InvalidProgram => k_is)
    (case xo_ParseError_InvalidProgram => k_is)
    (case xo_InvalidProgram_InvalidProgram => k_is)
    (case xo_BuildError_InvalidProgram => k_is)
    (case xi_ParseError => k_is)
    (case xo_ParseError_ParseError => k_is)
    (case xo_InvalidProgram_ParseError => k_is)
    (case xo_BuildError_ParseError => k_is)
#print axioms PySem.Challenge.cw_fromparts_k16_whole_programs_and_their_t_holds
