import PyProof.Rows.All
import Wide.All
import OpenK.AllK
import Wide.FinOn
import HandS.ForMost
import HandS.ForExc
import HandS.Walk
import HandS.IsInst
import HandS.RaiseMore
import HandS.TupAny
import HandS.Lambda
import HandS.NoneIn
import HandS.Wide
import PyProof.ListStr
import PyProof.ReprRoads
import HandS.More
import HandS.Property
import KE.KCallOwn
import HandS.Set
import PyProof.Rows.SortShellAny
import HandS.Star
import HandS.FStr
import HandS.DictComp
import HandS.IterVal
import KE.KOwnIter
import HandS.ClsMeth
import KE.KEqNest
import KE.KMinBuiltin
import OpenK.KMeth
import HandS.EndTab
import KE.KExcInit
import HandS.ExcField
import HandS.TryMany
import KE.GoesMore
import HandS.Zip
import KE.KDictZip
import KE.KItemsList
import HandS.StrMore
import PyProof.Rows.StrCountLaw
import PyProof.StrBlock2
import PyProof.MeetsIn
import PyProof.NeKinds
import PyProof.FactsAll.dict_2
import KE.KFmtOwn
import HandS.Defaults
import KE.KEqDict
import KE.KDictList
import KE.GoesEnum
import HandS.Replace
import HandS.ReplaceLit
import HandS.Iter
import HandS.Style
import HandS.Conv
import HandS.TupMul
import PyProof.Rows.CountFlat
import KE.DataCmp
import HandS.TupLe
import PyProof.Rows.SumAny
import KE.KDictSum
import HandS.Codes
import HandS.ReplaceList
import PyProof.StrLawsRepr
import PyProof.Fits
import PySem.Challenge.RW_fromparts_k15_programs_told
set_option Elab.async false
set_option linter.all false
set_option maxRecDepth 100000
set_option maxHeartbeats 4000000
/-! FP1: a heap-free layer over HandS: data D, worlds, judgements whose readings speak of data alone. -/
namespace FP
open PySem L2
/-- a world: what never changes; what may change under all (the dice, the tables of code); the dice -/
structure Wd where
  H : Hp
  T : Addr → Prop
  Dc : Addr → Prop
/-- data without addresses (a lambda at hand is told by its place and the world at its making) -/
inductive D where
  | non | bl (b : Bool) | int (i : Int) | str (x : Str)
  | tup (xs : List D) | lst (xs : List D) | fz (xs : List D)
  | dct (kvs : List (Key × D)) | ins (c : Str) (fs : List (Str × D)) | tok | cl (c : Str)
  | fn (f : Addr) (W : Wd)
/-- the module: its names, the written part -/
structure Gm where
  mg : Str → Option Value
  K : PySem.W.Frag
/-- the tables of code, with the names of what is made there -/
class Tabl where
  B : List (Addr × Str)
variable [Tabl]
structure Le (W W' : Wd) : Prop where
  h : Same W.H W'.H
  t : ∀ a, W.T a → W'.T a
  dc : ∀ a, W.Dc a → W'.Dc a
theorem Le.refl (W : Wd) : Le W W := ⟨Same.refl _, fun _ h => h, fun _ h => h⟩
theorem Le.trans {W W1 W2 : Wd} (a : Le W W1) (b : Le W1 W2) : Le W W2 := ⟨a.h.trans b.h, fun x h => b.t x (a.t x h), fun x h => b.dc x (a.dc x h)⟩
mutual
inductive Rep (mg : Gm) (W : Wd) : V → D → Prop
  | non : Rep mg W .non .non
  | bl (b : Bool) : Rep mg W (.bl b) (.bl b)
  | int (i : Int) : Rep mg W (.int i) (.int i)
  | str (x : Str) : Rep mg W (.str x) (.str x)
  | tup {a : Addr} {vs : List V} {ds : List D} : W.H a = some (.tup vs) → Reps mg W vs ds → Rep mg W (.ref a) (.tup ds)
  | lst {a : Addr} {vs : List V} {ds : List D} : W.H a = some (.lst vs) → Reps mg W vs ds → Rep mg W (.ref a) (.lst ds)
  | fz {a : Addr} {vs : List V} {ds : List D} : SqL mg.K W.H a vs → Reps mg W vs ds → Rep mg W (.ref a) (.fz ds)
  | dct {a : Addr} {o : Obj} {kvs : List (Key × V)} {ds : List (Key × D)} : W.H a = some (.frz o (.dK kvs)) → kvs.map (·.1) = ds.map (·.1) → Reps mg W (kvs.map (·.2)) (ds.map (·.2)) → Rep mg W (.ref a) (.dct ds)
  | ins {a C dx : Addr} {fs : List (Str × V)} {c : Str} {ds : List (Str × D)} : mg.mg c = some (.ref C) → W.H a = some (.ins C dx fs) → fs.map (·.1) = ds.map (·.1) → Reps mg W (fs.map (·.2)) (ds.map (·.2)) → Rep mg W (.ref a) (.ins c ds)
  | tok {a : Addr} : W.Dc a → Rep mg W (.ref a) .tok
  | cl {C : Addr} {c : Str} : mg.mg c = some (.ref C) → Rep mg W (.ref C) (.cl c)
  | fn {f : Addr} {W0 : Wd} : Le W0 W → Rep mg W (.ref f) (.fn f W0)
inductive Reps (mg : Gm) (W : Wd) : List V → List D → Prop
  | nil : Reps mg W [] []
  | cons {v : V} {vs : List V} {d : D} {ds : List D} : Rep mg W v d → Reps mg W vs ds → Reps mg W (v :: vs) (d :: ds)
end
section
variable {mg : Gm} {W W' : Wd}
mutual
theorem Rep.mono (l : Le W W') : ∀ {v : V} {d : D}, Rep mg W v d → Rep mg W' v d
  | _, _, .non => .non
  | _, _, .bl b => .bl b
  | _, _, .int i => .int i
  | _, _, .str x => .str x
  | _, _, .tup h r => .tup (l.h _ _ h) (Reps.mono l r)
  | _, _, .lst h r => .lst (l.h _ _ h) (Reps.mono l r)
  | _, _, .fz h r => .fz (l.h.seq h) (Reps.mono l r)
  | _, _, .dct h e r => .dct (l.h _ _ h) e (Reps.mono l r)
  | _, _, .ins c h e r => .ins c (l.h _ _ h) e (Reps.mono l r)
  | _, _, .tok t => .tok (l.dc _ t)
  | _, _, .cl h => .cl h
  | _, _, .fn h => .fn (h.trans l)
theorem Reps.mono (l : Le W W') : ∀ {vs : List V} {ds : List D}, Reps mg W vs ds → Reps mg W' vs ds
  | _, _, .nil => .nil
  | _, _, .cons r t => .cons (Rep.mono l r) (Reps.mono l t)
end
theorem Reps.length : ∀ {vs : List V} {ds : List D}, Reps mg W vs ds → vs.length = ds.length
  | _, _, .nil => rfl
  | _, _, .cons _ t => congrArg (· + 1) (Reps.length t)
theorem Reps.append : ∀ {vs : List V} {ds : List D} {us : List V} {es : List D}, Reps mg W vs ds → Reps mg W us es → Reps mg W (vs ++ us) (ds ++ es)
  | _, _, _, _, .nil, s => s
  | _, _, _, _, .cons r t, s => .cons r (Reps.append t s)
theorem Reps.snoc {vs : List V} {ds : List D} {v : V} {d : D} (r : Reps mg W vs ds) (h : Rep mg W v d) : Reps mg W (vs ++ [v]) (ds ++ [d]) := r.append (.cons h .nil)
theorem Reps.get : ∀ {vs : List V} {ds : List D} {i : Nat} {d : D}, Reps mg W vs ds → ds[i]? = some d → ∃ v, vs[i]? = some v ∧ Rep mg W v d
  | _, _, _, _, .nil, e => by simp at e
  | _, _, 0, _, .cons r _, e => by
    simp at e
    subst e
    exact ⟨_, rfl, r⟩
  | _, _, i + 1, d, .cons _ t, e => by
    obtain ⟨v, h1, h2⟩ := Reps.get (i := i) (d := d) t (by simpa using e)
    exact ⟨v, by simpa using h1, h2⟩
theorem Reps.getV : ∀ {vs : List V} {ds : List D} {i : Nat} {v : V}, Reps mg W vs ds → vs[i]? = some v → ∃ d, ds[i]? = some d ∧ Rep mg W v d
  | _, _, _, _, .nil, e => by simp at e
  | _, _, 0, _, .cons r _, e => by
    simp at e
    subst e
    exact ⟨_, rfl, r⟩
  | _, _, i + 1, d, .cons _ t, e => by
    obtain ⟨v, h1, h2⟩ := Reps.getV (i := i) (v := d) t (by simpa using e)
    exact ⟨v, by simpa using h1, h2⟩
theorem Reps.drop : ∀ {vs : List V} {ds : List D} (n : Nat), Reps mg W vs ds → Reps mg W (vs.drop n) (ds.drop n)
  | _, _, 0, r => r
  | _, _, _ + 1, .nil => .nil
  | _, _, n + 1, .cons _ t => Reps.drop n t
theorem Reps.take : ∀ {vs : List V} {ds : List D} (n : Nat), Reps mg W vs ds → Reps mg W (vs.take n) (ds.take n)
  | _, _, 0, _ => .nil
  | _, _, _ + 1, .nil => .nil
  | _, _, n + 1, .cons r t => .cons r (Reps.take n t)
theorem Reps.eraseIdx : ∀ {vs : List V} {ds : List D} (n : Nat), Reps mg W vs ds → Reps mg W (vs.eraseIdx n) (ds.eraseIdx n)
  | _, _, _, .nil => .nil
  | _, _, 0, .cons _ t => t
  | _, _, n + 1, .cons r t => .cons r (Reps.eraseIdx n t)
theorem Reps.set : ∀ {vs : List V} {ds : List D} {v : V} {d : D} (n : Nat), Reps mg W vs ds → Rep mg W v d → Reps mg W (vs.set n v) (ds.set n d)
  | _, _, _, _, _, .nil, _ => .nil
  | _, _, _, _, 0, .cons _ t, h => .cons h t
  | _, _, _, _, n + 1, .cons r t, h => .cons r (Reps.set n t h)
theorem Reps.replicate {v : V} {d : D} (h : Rep mg W v d) : ∀ n, Reps mg W (List.replicate n v) (List.replicate n d)
  | 0 => .nil
  | n + 1 => .cons h (Reps.replicate h n)
theorem Reps.reverse : ∀ {vs : List V} {ds : List D}, Reps mg W vs ds → Reps mg W vs.reverse ds.reverse
  | _, _, .nil => .nil
  | _, _, .cons r t => by
    rw [List.reverse_cons, List.reverse_cons]
    exact (Reps.reverse t).snoc r
theorem Reps.ints : ∀ (ns : List Int), Reps mg W (ns.map V.int) (ns.map D.int)
  | [] => .nil
  | n :: r => .cons (.int n) (Reps.ints r)
theorem Reps.strs : ∀ (ns : List Str), Reps mg W (ns.map V.str) (ns.map D.str)
  | [] => .nil
  | n :: r => .cons (.str n) (Reps.strs r)
end
/-- the heap bears the world -/
structure Holds (W : Wd) (H : Hp) : Prop where
  same : Same W.H H
  exm : ∀ a, W.T a → W.H a = none ∧ ∃ o, H a = some o
  tok : ∀ a, W.Dc a → W.T a ∧ ∃ x y z, H a = some (.lst [.int x, .int y, .int z])
  tab : ∀ p ∈ Tabl.B, W.T p.1 ∧ LamX.TabS H p.1 p.2
  all : ∀ b ps, H b = some (.tbl ps) → ∃ q, (b, q) ∈ Tabl.B
/-- a new object of the unchanging part -/
def Wd.put (W : Wd) (p : Addr) (o : HO) : Wd := { W with H := upd W.H p o }
theorem Holds.nT {W : Wd} {H : Hp} (h : Holds W H) {p : Addr} (n : H p = none) : ¬ W.T p := fun t => by
  obtain ⟨_, o, e⟩ := h.exm p t
  rw [e] at n
  cases n
theorem Holds.lay {W : Wd} {H : Hp} (h : Holds W H) {p : Addr} {o : HO} (n : H p = none) (no : ∀ ps, o ≠ .tbl ps) : Holds W (upd H p o) := by
  have up : ∀ b u, H b = some u → upd H p o b = some u := fun b u e => by
    rw [upd_ne (ne_of_none e n)]
    exact e
  refine ⟨fun b u e => up b u (h.same b u e), fun a t => ?_, fun a t => ?_, fun q hq => ?_, fun b ps e => ?_⟩
  · obtain ⟨h1, u, h2⟩ := h.exm a t
    exact ⟨h1, u, up a u h2⟩
  · obtain ⟨h1, x, y, z, h2⟩ := h.tok a t
    exact ⟨h1, x, y, z, up a _ h2⟩
  · obtain ⟨h1, h2⟩ := h.tab q hq
    exact ⟨h1, h2.ext up⟩
  · by_cases hb : b = p
    · rw [hb, upd_same] at e
      exact absurd (Option.some.inj e) (no ps)
    · rw [upd_ne hb] at e
      exact h.all b ps e
theorem Holds.put {W : Wd} {H : Hp} (h : Holds W H) {p : Addr} {o : HO} (e : H p = some o) (nt : ¬ W.T p) : Holds (W.put p o) H := by
  refine ⟨fun b u q => ?_, fun a t => ?_, h.tok, h.tab, h.all⟩
  · by_cases hb : b = p
    · subst hb
      have q' : upd W.H b o b = some u := q
      rw [upd_same] at q'
      rw [e]
      exact q'
    · have q' : upd W.H p o b = some u := q
      rw [upd_ne hb] at q'
      exact h.same b u q'
  · have na : a ≠ p := fun q => nt (q ▸ t)
    obtain ⟨h1, r⟩ := h.exm a t
    refine ⟨?_, r⟩
    show upd W.H p o a = none
    rw [upd_ne na]
    exact h1
theorem Holds.own {W : Wd} {H : Hp} (h : Holds W H) {p : Addr} {o o' : HO} (e : H p = some o) (nw : W.H p = none) (nt : ¬ W.T p) (nx : ∀ φ, o ≠ .ext φ) (no : ∀ ps, o' ≠ .tbl ps) : Holds W (upd H p o') := by
  refine ⟨fun b u q => ?_, fun a t => ?_, fun a t => ?_, fun q hq => ?_, fun b ps q => ?_⟩
  · rw [upd_ne (ne_of_none q nw)]
    exact h.same b u q
  · have na : a ≠ p := fun q => nt (q ▸ t)
    obtain ⟨h1, u, h2⟩ := h.exm a t
    exact ⟨h1, u, by rw [upd_ne na]; exact h2⟩
  · obtain ⟨h1, x, y, z, h2⟩ := h.tok a t
    have na : a ≠ p := fun q => nt (q ▸ h1)
    exact ⟨h1, x, y, z, by rw [upd_ne na]; exact h2⟩
  · obtain ⟨h1, ps, h2, h3, h4⟩ := h.tab q hq
    have na : q.1 ≠ p := fun z => nt (z ▸ h1)
    refine ⟨h1, ps, by rw [upd_ne na]; exact h2, h3, fun pos cv hc => ?_⟩
    obtain ⟨c, e1, e2⟩ := h4 pos cv hc
    refine ⟨c, e1, ?_⟩
    have nc : c ≠ p := fun z => by
      rw [z, e] at e2
      exact nx _ (Option.some.inj e2)
    rw [upd_ne nc]
    exact e2
  · by_cases hb : b = p
    · rw [hb, upd_same] at q
      exact absurd (Option.some.inj q) (no ps)
    · rw [upd_ne hb] at q
      exact h.all b ps q
structure Step (W : Wd) (H : Hp) (W' : Wd) (H' : Hp) : Prop where
  le : Le W W'
  holds : Holds W' H'
  keep : ∀ b o, H b = some o → ¬ W.T b → H' b = some o
  fresh : ∀ b o, H b = some o → W'.H b = W.H b
  freshT : ∀ b, W'.T b → W.T b ∨ H b = none
  live : ∀ b o, H b = some o → ∃ o', H' b = some o'
theorem Step.refl {W : Wd} {H : Hp} (h : Holds W H) : Step W H W H :=
  ⟨Le.refl W, h, fun _ _ e _ => e, fun _ _ _ => rfl, fun _ t => .inl t, fun _ o e => ⟨o, e⟩⟩
theorem Step.trans {W W1 W2 : Wd} {H H1 H2 : Hp} (a : Step W H W1 H1) (b : Step W1 H1 W2 H2) : Step W H W2 H2 where
  le := a.le.trans b.le
  holds := b.holds
  keep := fun c o e n => by
    refine b.keep c o (a.keep c o e n) fun t => ?_
    rcases a.freshT c t with t | t
    · exact n t
    · rw [e] at t
      cases t
  fresh := fun c o e => by
    obtain ⟨o', e'⟩ := a.live c o e
    rw [b.fresh c o' e', a.fresh c o e]
  freshT := fun c t => by
    rcases b.freshT c t with t | t
    · exact a.freshT c t
    · refine .inr ?_
      cases q : H c with
      | none => rfl
      | some o =>
        obtain ⟨o', e'⟩ := a.live c o q
        rw [e'] at t
        cases t
  live := fun c o e => by
    obtain ⟨o', e'⟩ := a.live c o e
    exact b.live c o' e'
/-- from the same heap on, with a later world -/
theorem Step.rebase {W W1 : Wd} {H H1 : Hp} (a : Step W H W1 H1) : Step W1 H W1 H1 :=
  ⟨Le.refl W1, a.holds, fun b o e n => a.keep b o e fun t => n (a.le.t b t), fun _ _ _ => rfl, fun _ t => .inl t, a.live⟩
theorem Step.join {W W1 W2 : Wd} {H H1 H2 : Hp} (a : Step W H W1 H1) (b : Step W1 H W2 H2) : Step W H W2 H2 where
  le := a.le.trans b.le
  holds := b.holds
  keep := fun c o e n => b.keep c o e fun t => by
    rcases a.freshT c t with t | t
    · exact n t
    · rw [e] at t
      cases t
  fresh := fun c o e => (b.fresh c o e).trans (a.fresh c o e)
  freshT := fun c t => by
    rcases b.freshT c t with t | t
    · exact a.freshT c t
    · exact .inr t
  live := b.live
theorem Wd.put_le {W : Wd} {p : Addr} {o : HO} (nw : W.H p = none) : Le W (W.put p o) := ⟨fun b u e => by
  show upd W.H p o b = some u
  rw [upd_ne (ne_of_none e nw)]
  exact e, fun _ t => t, fun _ t => t⟩
theorem Step.alloc {W : Wd} {H : Hp} (h : Holds W H) {p : Addr} {o : HO} (n : H p = none) (no : ∀ ps, o ≠ .tbl ps := by intro _ h; cases h) : Step W H (W.put p o) (upd H p o) := by
  have nw : W.H p = none := h.same.free n
  refine ⟨Wd.put_le nw, (h.lay n no).put upd_same (h.nT n), fun b u e _ => ?_, fun b u e => ?_, fun b t => .inl t, fun b u e => ?_⟩
  · rw [upd_ne (ne_of_none e n)]
    exact e
  · show upd W.H p o b = W.H b
    rw [upd_ne (ne_of_none e n)]
  · exact ⟨u, by rw [upd_ne (ne_of_none e n)]; exact e⟩
/-- a new object beside the world (owned) -/
theorem Step.lay {W : Wd} {H : Hp} (h : Holds W H) {p : Addr} {o : HO} (n : H p = none) (no : ∀ ps, o ≠ .tbl ps := by intro _ h; cases h) : Step W H W (upd H p o) := by
  refine ⟨Le.refl W, h.lay n no, fun b u e _ => ?_, fun _ _ _ => rfl, fun b t => .inl t, fun b u e => ?_⟩
  · rw [upd_ne (ne_of_none e n)]
    exact e
  · exact ⟨u, by rw [upd_ne (ne_of_none e n)]; exact e⟩
/-- an owned thing is taken into the world -/
theorem Step.take {W : Wd} {H : Hp} (h : Holds W H) {p : Addr} {o : HO} (e : H p = some o) (nw : W.H p = none) (nt : ¬ W.T p) : Le W (W.put p o) ∧ Holds (W.put p o) H := ⟨Wd.put_le nw, h.put e nt⟩
/-- a step that ends with the taking in of an object that was not there at its start -/
theorem Step.taken {W W1 : Wd} {H H1 : Hp} (s : Step W H W1 H1) {p : Addr} {o : HO} (n : H p = none) (e : H1 p = some o) (nw : W1.H p = none) (nt : ¬ W1.T p) : Step W H (W1.put p o) H1 := by
  obtain ⟨l, h⟩ := Step.take s.holds e nw nt
  refine ⟨s.le.trans l, h, s.keep, fun b u q => ?_, s.freshT, s.live⟩
  show upd W1.H p o b = W.H b
  rw [upd_ne (ne_of_none q n)]
  exact s.fresh b u q
/-- an owned thing is changed -/
theorem Step.own {W W1 : Wd} {H H1 : Hp} (s : Step W H W1 H1) {p : Addr} {o o' : HO} (n : H p = none) (e : H1 p = some o) (nw : W1.H p = none) (nt : ¬ W1.T p) (nx : ∀ φ, o ≠ .ext φ := by intro _ h; cases h) (no : ∀ ps, o' ≠ .tbl ps := by intro _ h; cases h) : Step W H W1 (upd H1 p o') := by
  refine ⟨s.le, s.holds.own e nw nt nx no, fun b u q nq => ?_, s.fresh, s.freshT, fun b u q => ?_⟩
  · rw [upd_ne (ne_of_none q n)]
    exact s.keep b u q nq
  · by_cases hb : b = p
    · rw [hb]
      exact ⟨_, upd_same⟩
    · rw [upd_ne hb]
      exact s.live b u q
/-- a field of an owned object: a datum, an owned list, an owned list of owned lists -/
inductive OF where
  | d (x : D) | l (xs : List D) | ll (xss : List (List D))
/-- a local name's place: nothing, a datum, a list that is this def's own, an object that is this def's own, an owned object whose fields may be owned lists (its addresses told) -/
inductive Sl where
  | no | d (x : D) | own (xs : List D) | ob (c : Str) (a : Addr) (fs : List (Str × D)) | ow (c : Str) (as : List Addr) (fs : List (Str × OF))
  | exc (a : Addr) (cls : Value) (d : Option Addr) (c : Str) (fs : List (Str × D))
  | od (kvs : List (Key × D))
abbrev Env := List Sl
/-- the addresses that a place owns -/
def Sl.fp (o : Option V) : Sl → List Addr
  | .own _ => match o with
    | some (.ref a) => [a]
    | _ => []
  | .od _ => match o with
    | some (.ref a) => [a]
    | _ => []
  | .ob _ a _ => [a]
  | .ow _ as _ => as
  | _ => []
/-- an owned field, with its addresses -/
def OFR (mg : Gm) (W : Wd) (H : Hp) (v : V) : OF → List Addr → Prop
  | .d x, as => as = [] ∧ Rep mg W v x
  | .l xs, as => ∃ L vs, as = [L] ∧ v = .ref L ∧ H L = some (.lst vs) ∧ Reps mg W vs xs
  | .ll xss, as => ∃ L Ls, as = L :: Ls ∧ v = .ref L ∧ H L = some (.lst (Ls.map V.ref)) ∧ Ls.length = xss.length ∧ ∀ (i : Nat) (l : Addr) (xs : List D), Ls[i]? = some l → xss[i]? = some xs → ∃ vs, H l = some (.lst vs) ∧ Reps mg W vs xs
def OFs (mg : Gm) (W : Wd) (H : Hp) : List (Str × V) → List (Str × OF) → List Addr → Prop
  | [], [], as => as = []
  | (f, v) :: vs, (g, x) :: fs, as => f = g ∧ ∃ as1 as2, as = as1 ++ as2 ∧ OFR mg W H v x as1 ∧ OFs mg W H vs fs as2
  | _, _, _ => False
/-- an exception's class and its dict -/
def ExcR (mg : Gm) (W : Wd) (cls : Value) (dd : Option Addr) (c : Str) (fs : List (Str × D)) : Prop :=
  ∃ C, mg.mg c = some (.ref C) ∧ cls = .ref C ∧ ((fs = [] ∧ dd = none) ∨ ∃ a vs, dd = some a ∧ W.H a = some (.xd vs) ∧ vs.map (·.1) = fs.map (·.1) ∧ Reps mg W (vs.map (·.2)) (fs.map (·.2)))
theorem ExcR.mono {mg : Gm} {W W' : Wd} {cls : Value} {dd : Option Addr} {c : Str} {fs : List (Str × D)} (h : ExcR mg W cls dd c fs) (l : Le W W') : ExcR mg W' cls dd c fs := by
  obtain ⟨C, h1, h2, h | ⟨a, vs, h3, h4, h5, h6⟩⟩ := h
  · exact ⟨C, h1, h2, .inl h⟩
  · exact ⟨C, h1, h2, .inr ⟨a, vs, h3, l.h _ _ h4, h5, h6.mono l⟩⟩
def SlR (mg : Gm) (B : Hp) (W : Wd) (H : Hp) (o : Option V) : Sl → Prop
  | .no => True
  | .exc a cls d c fs => o = some (.ref a) ∧ ExcR mg W cls d c fs
  | .d x => ∃ v, o = some v ∧ Rep mg W v x
  | .own xs => ∃ a vs, o = some (.ref a) ∧ H a = some (.lst vs) ∧ W.H a = none ∧ ¬ W.T a ∧ B a = none ∧ Reps mg W vs xs
  | .od kvs => ∃ a vs, o = some (.ref a) ∧ H a = some (.dK vs) ∧ W.H a = none ∧ ¬ W.T a ∧ B a = none ∧ vs.map (·.1) = kvs.map (·.1) ∧ Reps mg W (vs.map (·.2)) (kvs.map (·.2))
  | .ob c a fs => ∃ vs, o = some (.ref a) ∧ (∃ C dx, mg.mg c = some (.ref C) ∧ H a = some (.ins C dx vs)) ∧ W.H a = none ∧ ¬ W.T a ∧ B a = none ∧ vs.map (·.1) = fs.map (·.1) ∧ Reps mg W (vs.map (·.2)) (fs.map (·.2))
  | .ow c as fs => ∃ a as' vs, as = a :: as' ∧ o = some (.ref a) ∧ (∃ C dx, mg.mg c = some (.ref C) ∧ H a = some (.ins C dx vs)) ∧ OFs mg W H vs fs as' ∧ as.Nodup ∧ ∀ b ∈ as, (∃ u, H b = some u) ∧ W.H b = none ∧ ¬ W.T b ∧ B b = none
structure EnvR (mg : Gm) (B : Hp) (W : Wd) (H : Hp) (σ : St) (ρ : Env) : Prop where
  len : σ.length = ρ.length
  sl : ∀ (i : Nat) (s : Sl), ρ[i]? = some s → ∃ o, σ[i]? = some o ∧ SlR mg B W H o s
  dis : ∀ (i j : Nat) (s t : Sl) (o o' : Option V) (a : Addr), i ≠ j → ρ[i]? = some s → ρ[j]? = some t → σ[i]? = some o → σ[j]? = some o' → a ∈ s.fp o → a ∈ t.fp o' → False
section
variable {mg : Gm} {B : Hp} {W W' : Wd} {H H' : Hp} {σ : St} {ρ : Env}
/-- what is mine has addresses of its own -/
theorem SlR.at {o : Option V} {s : Sl} (h : SlR mg B W H o s) {a : Addr} (m : a ∈ s.fp o) : ∃ u, H a = some u ∧ W.H a = none ∧ ¬ W.T a ∧ B a = none := by
  cases s with
  | no => cases m
  | exc => cases m
  | d x => cases m
  | own xs =>
    obtain ⟨b, vs, h1, h2, h3, h4, h5, _⟩ := h
    subst h1
    obtain rfl := List.mem_singleton.mp m
    exact ⟨_, h2, h3, h4, h5⟩
  | od xs =>
    obtain ⟨b, vs, h1, h2, h3, h4, h5, _⟩ := h
    subst h1
    obtain rfl := List.mem_singleton.mp m
    exact ⟨_, h2, h3, h4, h5⟩
  | ob c b fs =>
    obtain ⟨vs, h1, ⟨C, dx, _, h2⟩, h3, h4, h5, _⟩ := h
    obtain rfl := List.mem_singleton.mp m
    exact ⟨_, h2, h3, h4, h5⟩
  | ow c as fs =>
    obtain ⟨b, as', vs, _, _, _, _, _, k⟩ := h
    obtain ⟨⟨u, hu⟩, k⟩ := k a m
    exact ⟨u, hu, k⟩
theorem OFR.keep {v : V} {x : OF} {as : List Addr} (h : OFR mg W H v x as) (l : Le W W') (k : ∀ b ∈ as, ∀ u, H b = some u → H' b = some u) : OFR mg W' H' v x as := by
  cases x with
  | d x => exact ⟨h.1, h.2.mono l⟩
  | l xs =>
    obtain ⟨L, vs, rfl, h2, h3, h4⟩ := h
    exact ⟨L, vs, rfl, h2, k L (by simp) _ h3, h4.mono l⟩
  | ll xss =>
    obtain ⟨L, Ls, rfl, h2, h3, h4, h5⟩ := h
    refine ⟨L, Ls, rfl, h2, k L (by simp) _ h3, h4, fun i b xs q1 q2 => ?_⟩
    obtain ⟨vs, g1, g2⟩ := h5 i b xs q1 q2
    exact ⟨vs, k b (List.mem_cons_of_mem _ (List.mem_of_getElem? q1)) _ g1, g2.mono l⟩
theorem OFs.keep : ∀ {vs : List (Str × V)} {fs : List (Str × OF)} {as : List Addr}, OFs mg W H vs fs as → Le W W' → (∀ b ∈ as, ∀ u, H b = some u → H' b = some u) → OFs mg W' H' vs fs as
  | [], [], _, h, _, _ => h
  | _ :: _, _ :: _, _, ⟨e, as1, as2, rfl, h1, h2⟩, l, k => ⟨e, as1, as2, rfl, h1.keep l fun b hb => k b (List.mem_append_left _ hb), OFs.keep h2 l fun b hb => k b (List.mem_append_right _ hb)⟩
  | [], _ :: _, _, h, _, _ => h.elim
  | _ :: _, [], _, h, _, _ => h.elim
/-- a place is kept: the world grows, what is mine stands as it stood -/
theorem SlR.keep {o : Option V} {s : Sl} (h : SlR mg B W H o s) (l : Le W W') (k : ∀ a ∈ s.fp o, ∀ u, H a = some u → W.H a = none → ¬ W.T a → H' a = some u ∧ W'.H a = none ∧ ¬ W'.T a) : SlR mg B W' H' o s := by
  cases s with
  | no => exact True.intro
  | exc => exact ⟨h.1, h.2.mono l⟩
  | d x =>
    obtain ⟨v, q, r⟩ := h
    exact ⟨v, q, r.mono l⟩
  | own xs =>
    obtain ⟨a, vs, h1, h2, h3, h4, h5, r⟩ := h
    subst h1
    obtain ⟨k1, k2, k3⟩ := k a (List.mem_singleton.mpr rfl) _ h2 h3 h4
    exact ⟨a, vs, rfl, k1, k2, k3, h5, r.mono l⟩
  | od xs =>
    obtain ⟨a, vs, h1, h2, h3, h4, h5, hk, r⟩ := h
    subst h1
    obtain ⟨k1, k2, k3⟩ := k a (List.mem_singleton.mpr rfl) _ h2 h3 h4
    exact ⟨a, vs, rfl, k1, k2, k3, h5, hk, r.mono l⟩
  | ob c a fs =>
    obtain ⟨vs, h1, ⟨C, dx, hc, h2⟩, h3, h4, h5, hk, r⟩ := h
    obtain ⟨k1, k2, k3⟩ := k a (List.mem_singleton.mpr rfl) _ h2 h3 h4
    exact ⟨vs, h1, ⟨C, dx, hc, k1⟩, k2, k3, h5, hk, r.mono l⟩
  | ow c as fs =>
    obtain ⟨a, as', vs, rfl, h1, ⟨C, dx, hc, h2⟩, h3, h4, h5⟩ := h
    have kk : ∀ b ∈ a :: as', ∀ u, H b = some u → H' b = some u ∧ W'.H b = none ∧ ¬ W'.T b := fun b hb u hu => k b hb u hu (h5 b hb).2.1 (h5 b hb).2.2.1
    refine ⟨a, as', vs, rfl, h1, ⟨C, dx, hc, (kk a List.mem_cons_self _ h2).1⟩, h3.keep l fun b hb u hu => (kk b (List.mem_cons_of_mem _ hb) u hu).1, h4, fun b hb => ?_⟩
    obtain ⟨⟨u, hu⟩, _, _, g4⟩ := h5 b hb
    obtain ⟨k1, k2, k3⟩ := kk b hb u hu
    exact ⟨⟨u, k1⟩, k2, k3, g4⟩
theorem Step.mine {a : Addr} {u : HO} (s : Step W H W' H') (h2 : H a = some u) (h3 : W.H a = none) (h4 : ¬ W.T a) : H' a = some u ∧ W'.H a = none ∧ ¬ W'.T a := by
  refine ⟨s.keep a _ h2 h4, ?_, fun t => ?_⟩
  · rw [s.fresh a _ h2]
    exact h3
  · rcases s.freshT a t with t | t
    · exact h4 t
    · rw [h2] at t
      cases t
theorem EnvR.step (e : EnvR mg B W H σ ρ) (s : Step W H W' H') : EnvR mg B W' H' σ ρ := by
  refine ⟨e.len, fun i sl h => ?_, e.dis⟩
  obtain ⟨o, h1, h2⟩ := e.sl i sl h
  exact ⟨o, h1, h2.keep s.le fun a _ u h2 h3 h4 => s.mine h2 h3 h4⟩
theorem EnvR.get (e : EnvR mg B W H σ ρ) {i : Nat} {x : D} (h : ρ[i]? = some (.d x)) : ∃ v, σ[i]? = some (some v) ∧ Rep mg W v x := by
  obtain ⟨o, h1, v, q, r⟩ := e.sl i _ h
  exact ⟨v, by rw [h1, q], r⟩
theorem get_set {α : Type} {l : List α} {i j : Nat} {x y : α} (h : (l.set i x)[j]? = some y) : (i = j ∧ x = y) ∨ (i ≠ j ∧ l[j]? = some y) := by
  by_cases e : i = j
  · subst e
    refine .inl ⟨rfl, ?_⟩
    rw [List.getElem?_set_self'] at h
    cases q : l[i]? with
    | none =>
      rw [q] at h
      cases h
    | some z =>
      rw [q] at h
      exact Option.some.inj h
  · rw [List.getElem?_set_ne e] at h
    exact .inr ⟨e, h⟩
/-- a place is stored -/
theorem EnvR.put (e : EnvR mg B W H σ ρ) {i : Nat} {o : Option V} {s : Sl} (n : s.fp o = []) (r : SlR mg B W H o s) : EnvR mg B W H (σ.set i o) (ρ.set i s) := by
  refine ⟨by simpa using e.len, fun j t h => ?_, fun j k s1 s2 o1 o2 a hjk h1 h2 h3 h4 m1 m2 => ?_⟩
  · rcases get_set h with ⟨rfl, rfl⟩ | ⟨nj, h⟩
    · have hl : i < ρ.length := by simpa using (List.getElem?_eq_some_iff.mp h).1
      exact ⟨o, by rw [List.getElem?_set_self (by rw [e.len]; exact hl)], r⟩
    · obtain ⟨o', h1, h2⟩ := e.sl j t h
      exact ⟨o', by rw [List.getElem?_set_ne nj]; exact h1, h2⟩
  · rcases get_set h1 with ⟨e1, z⟩ | ⟨n1, h1⟩
    · rcases get_set h3 with ⟨_, z'⟩ | ⟨q, _⟩
      · rw [← z, ← z', n] at m1
        cases m1
      · exact q e1
    · rcases get_set h2 with ⟨e2, z⟩ | ⟨n2, h2⟩
      · rcases get_set h4 with ⟨_, z'⟩ | ⟨q, _⟩
        · rw [← z, ← z', n] at m2
          cases m2
        · exact q e2
      · rw [List.getElem?_set_ne n1] at h3
        rw [List.getElem?_set_ne n2] at h4
        exact e.dis j k s1 s2 o1 o2 a hjk h1 h2 h3 h4 m1 m2
/-- nothing is said of any place -/
def noEnv (ρ : Env) : Env := ρ.map fun _ => Sl.no
theorem EnvR.set (e : EnvR mg B W H σ ρ) {i : Nat} {v : V} {x : D} (r : Rep mg W v x) : EnvR mg B W H (σ.set i (some v)) (ρ.set i (.d x)) := e.put rfl ⟨v, rfl, r⟩
theorem EnvR.no (e : EnvR mg B W H σ ρ) {i : Nat} {o : Option V} : EnvR mg B W H (σ.set i o) (ρ.set i .no) := e.put rfl True.intro
/-- new things of one's own at a place -/
theorem EnvR.news (e : EnvR mg B W H σ ρ) {i : Nat} {o : Option V} {s : Sl} (st : Step W H W H') (n : ∀ a ∈ s.fp o, H a = none) (r : SlR mg B W H' o s) : EnvR mg B W H' (σ.set i o) (ρ.set i s) := by
  have e1 := e.step st
  have old : ∀ (j : Nat) (t : Sl) (o' : Option V) (b : Addr), ρ[j]? = some t → σ[j]? = some o' → b ∈ t.fp o' → b ∈ s.fp o → False := fun j t o' b h1 h2 m m' => by
    obtain ⟨o2, h3, h4⟩ := e.sl j _ h1
    rw [h2] at h3
    cases h3
    obtain ⟨u', h6, _⟩ := h4.at m
    rw [n b m'] at h6
    cases h6
  refine ⟨by simpa using e.len, fun j sl hj => ?_, fun j k s1 s2 o1 o2 a hjk h1 h2 h3 h4 m1 m2 => ?_⟩
  · rcases get_set hj with ⟨rfl, rfl⟩ | ⟨nj, hj⟩
    · have hl : i < ρ.length := by simpa using (List.getElem?_eq_some_iff.mp hj).1
      exact ⟨o, by rw [List.getElem?_set_self (by rw [e.len]; exact hl)], r⟩
    · obtain ⟨o', h1, h2⟩ := e1.sl j sl hj
      exact ⟨o', by rw [List.getElem?_set_ne nj]; exact h1, h2⟩
  · rcases get_set h1 with ⟨e1, z1⟩ | ⟨n1, h1⟩
    · rcases get_set h2 with ⟨q, _⟩ | ⟨n2, h2⟩
      · exact hjk (e1.symm.trans q)
      · rw [List.getElem?_set_ne n2] at h4
        rcases get_set h3 with ⟨_, q⟩ | ⟨q, _⟩
        · rw [← z1, ← q] at m1
          exact old k s2 o2 a h2 h4 m2 m1
        · exact q e1
    · rcases get_set h2 with ⟨e2, z2⟩ | ⟨n2, h2⟩
      · rw [List.getElem?_set_ne n1] at h3
        rcases get_set h4 with ⟨_, q⟩ | ⟨q, _⟩
        · rw [← z2, ← q] at m2
          exact old j s1 o1 a h1 h3 m1 m2
        · exact q e2
      · rw [List.getElem?_set_ne n1] at h3
        rw [List.getElem?_set_ne n2] at h4
        exact e.dis j k s1 s2 o1 o2 a hjk h1 h2 h3 h4 m1 m2
/-- a new list of one's own -/
theorem EnvR.setOwn (e : EnvR mg B W H σ ρ) (h : Holds W H) {i : Nat} {p : Addr} {vs : List V} {xs : List D} (n : H p = none) (nb : B p = none) (r : Reps mg W vs xs) : EnvR mg B W (upd H p (.lst vs)) (σ.set i (some (.ref p))) (ρ.set i (.own xs)) :=
  e.news (Step.lay h n) (fun a ha => by obtain rfl := List.mem_singleton.mp ha; exact n) ⟨p, vs, rfl, upd_same, h.same.free n, h.nT n, nb, r⟩
/-- what is mine at a place is changed, or another thing is said of the place: the heap differs at its addresses alone; new ones are new -/
theorem EnvR.turns (e : EnvR mg B W H σ ρ) {i : Nat} {o : Option V} {s s' : Sl} (hi : ρ[i]? = some s) (hs : σ[i]? = some o) (hH : ∀ b u, H b = some u → b ∉ s.fp o → H' b = some u) (hn : ∀ a ∈ s'.fp o, a ∈ s.fp o ∨ H a = none) (r : SlR mg B W H' o s') : EnvR mg B W H' σ (ρ.set i s') := by
  have off : ∀ (j : Nat) (t : Sl) (o' : Option V) (b : Addr), j ≠ i → ρ[j]? = some t → σ[j]? = some o' → b ∈ t.fp o' → b ∈ s'.fp o → False := fun j t o' b nj h1 h2 m m' => by
    rcases hn b m' with z | z
    · exact e.dis j i t s o' o b nj h1 hi h2 hs m z
    · obtain ⟨o2, h3, h4⟩ := e.sl j _ h1
      rw [h2] at h3
      cases h3
      obtain ⟨u', h6, _⟩ := h4.at m
      rw [z] at h6
      cases h6
  refine ⟨by simpa using e.len, fun j sl hj => ?_, fun j k s1 s2 o1 o2 a hjk h1 h2 h3 h4 m1 m2 => ?_⟩
  · rcases get_set hj with ⟨rfl, rfl⟩ | ⟨nj, hj⟩
    · exact ⟨_, hs, r⟩
    · obtain ⟨o', h1, h2⟩ := e.sl j sl hj
      exact ⟨o', h1, h2.keep (Le.refl W) fun a ha u h5 h6 h7 => ⟨hH a u h5 fun z => e.dis i j s sl o o' a nj hi hj hs h1 z ha, h6, h7⟩⟩
  · rcases get_set h1 with ⟨e1, z1⟩ | ⟨n1, h1⟩
    · rcases get_set h2 with ⟨q, _⟩ | ⟨n2, h2⟩
      · exact hjk (e1.symm.trans q)
      · subst e1
        rw [hs] at h3
        cases h3
        rw [← z1] at m1
        exact off k s2 o2 a (Ne.symm n2) h2 h4 m2 m1
    · rcases get_set h2 with ⟨e2, z2⟩ | ⟨n2, h2⟩
      · subst e2
        rw [hs] at h4
        cases h4
        rw [← z2] at m2
        exact off j s1 o1 a (Ne.symm n1) h1 h3 m1 m2
      · exact e.dis j k s1 s2 o1 o2 a hjk h1 h2 h3 h4 m1 m2
/-- one address of one's own is changed -/
theorem EnvR.turn (e : EnvR mg B W H σ ρ) {i : Nat} {p : Addr} {u : HO} {o : Option V} {s s' : Sl} (hi : ρ[i]? = some s) (hs : σ[i]? = some o) (m : p ∈ s.fp o) (hf : ∀ a ∈ s'.fp o, a ∈ s.fp o) (r : SlR mg B W (upd H p u) o s') : EnvR mg B W (upd H p u) σ (ρ.set i s') :=
  e.turns hi hs (fun b u' h n => by
    have ne : b ≠ p := fun q => n (by rw [q]; exact m)
    rw [upd_ne ne]
    exact h) (fun a ha => .inl (hf a ha)) r
/-- one's own list is changed -/
theorem EnvR.own (e : EnvR mg B W H σ ρ) {i : Nat} {p : Addr} {us vs : List V} {xs ys : List D} (hi : ρ[i]? = some (.own xs)) (hs : σ[i]? = some (some (.ref p))) (r : Reps mg W vs ys) : EnvR mg B W (upd H p (.lst vs)) σ (ρ.set i (.own ys)) := by
  obtain ⟨o, h1, h2⟩ := e.sl i _ hi
  rw [hs] at h1
  cases h1
  obtain ⟨u, h4, h5, h6, h7⟩ := h2.at (a := p) (List.mem_singleton.mpr rfl)
  exact e.turn hi hs (List.mem_singleton.mpr rfl) (fun _ h => h) ⟨p, vs, rfl, upd_same, h5, h6, h7, r⟩
/-- what is mine is handed to the world -/
theorem EnvR.give (e : EnvR mg B W H σ ρ) (h : Holds W H) {i : Nat} {p : Addr} {u : HO} {s : Sl} {x : D} (hi : ρ[i]? = some s) (hs : σ[i]? = some (some (.ref p))) (m : p ∈ s.fp (some (.ref p))) (hu : H p = some u) (hw : W.H p = none) (ht : ¬ W.T p) (r : Rep mg (W.put p u) (.ref p) x) : EnvR mg B (W.put p u) H σ (ρ.set i (.d x)) := by
  obtain ⟨l, hh⟩ := Step.take h hu hw ht
  refine ⟨by simpa using e.len, fun j sl hj => ?_, fun j k s1 s2 o1 o2 a hjk q1 q2 q3 q4 m1 m2 => ?_⟩
  · rcases get_set hj with ⟨rfl, rfl⟩ | ⟨nj, hj⟩
    · exact ⟨_, hs, _, rfl, r⟩
    · obtain ⟨o, g1, g2⟩ := e.sl j sl hj
      refine ⟨o, g1, g2.keep l fun a ha u' h5 h6 h7 => ⟨h5, ?_, h7⟩⟩
      show upd W.H p _ a = none
      have ne : a ≠ p := fun q => e.dis i j s sl _ o p nj hi hj hs g1 m (by rw [← q]; exact ha)
      rw [upd_ne ne]
      exact h6
  · rcases get_set q1 with ⟨_, z⟩ | ⟨n1, q1⟩
    · rw [← z] at m1
      cases m1
    · rcases get_set q2 with ⟨_, z⟩ | ⟨n2, q2⟩
      · rw [← z] at m2
        cases m2
      · exact e.dis j k s1 s2 o1 o2 a hjk q1 q2 q3 q4 m1 m2
/-- one's own list is handed to the world -/
theorem EnvR.freeze (e : EnvR mg B W H σ ρ) (h : Holds W H) {i : Nat} {xs : List D} (hi : ρ[i]? = some (.own xs)) :
    ∃ p vs, σ[i]? = some (some (.ref p)) ∧ H p = some (.lst vs) ∧ W.H p = none ∧ ¬ W.T p ∧ B p = none ∧ Reps mg W vs xs ∧ EnvR mg B (W.put p (.lst vs)) H σ (ρ.set i (.d (.lst xs))) := by
  obtain ⟨o, h1, p, vs, h2, h3, h4, h5, h6, r⟩ := e.sl i _ hi
  subst h2
  obtain ⟨l, hh⟩ := Step.take h h3 h4 h5
  exact ⟨p, vs, h1, h3, h4, h5, h6, r, e.give h hi h1 (List.mem_singleton.mpr rfl) h3 h4 h5 (.lst (show upd W.H p (.lst vs) p = _ from upd_same) (r.mono l))⟩
end
end FP
/-! FP2: judgements over data: expressions, tests, arguments, statements; a def's promise. -/
namespace FP
open PySem L2
variable [Tabl]
/-- an exception as a datum -/
structure XD where
  cls : Str
  fs : List (Str × D)
abbrev M (α : Type) := (α → Prop) → (XD → Prop) → Prop
abbrev DTE := Env → M D
abbrev DTT := Env → M Bool
abbrev DTA := Env → M (List D)
abbrev DTI := Env → M (List D)
structure Nd where
  nx : Env → Prop
  rt : D → Env → Prop
  bk : Env → Prop
  ct : Env → Prop
  rs : XD → Env → Prop
abbrev DTS := Nd → Env → Prop
abbrev F0 : XD → Prop := fun _ => False
abbrev Wx0 : WX := fun _ _ _ _ => False
def RepX (mg : Gm) (W : Wd) (_H : Hp) (cls : Value) (dd : Option Addr) (x : XD) : Prop := ExcR mg W cls dd x.cls x.fs
def ExR (mg : Gm) (Wx : WX) (W : Wd) (H : Hp) (σ : St) (E : XD → Prop) : Prop :=
  ∀ W' H' cls dd x, Step W H W' H' → RepX mg W' H' cls dd x → E x → Wx cls dd σ H'
theorem ExR.step {mg : Gm} {Wx : WX} {W W1 : Wd} {H H1 : Hp} {σ : St} {E : XD → Prop} (e : ExR mg Wx W H σ E) (s : Step W H W1 H1) : ExR mg Wx W1 H1 σ E :=
  fun W' H' cls dd x s' r h => e W' H' cls dd x (s.trans s') r h
theorem ExR.f0 {mg : Gm} {Wx : WX} {W : Wd} {H : Hp} {σ : St} : ExR mg Wx W H σ F0 := fun _ _ _ _ _ _ _ h => h.elim
/-- what is wanted behind a value, by its datum -/
abbrev ToV (mg : Gm) (W : Wd) (H : Hp) (Q : D → Prop) (Q' : VK) : Prop := ∀ W' H' v d, Step W H W' H' → Rep mg W' v d → Q d → Q' v H'
def Cp (mg : Gm) (Wx : WX) (t : TE) (f : DTE) : Prop := ∀ B ρ Q E, f ρ Q E → ∀ W σ H Q', Holds W H → EnvR mg B W H σ ρ → ExR mg Wx W H σ E → ToV mg W H Q Q' → t σ H Q'
def CpT (mg : Gm) (Wx : WX) (t : TT) (f : DTT) : Prop := ∀ B ρ Q E, f ρ Q E → ∀ W σ H Q', Holds W H → EnvR mg B W H σ ρ → ExR mg Wx W H σ E → (∀ W' H' b, Step W H W' H' → Q b → Q' b H') → t σ H Q'
def CpA (mg : Gm) (Wx : WX) (t : TA) (f : DTA) : Prop := ∀ B ρ Q E, f ρ Q E → ∀ W σ H Q', Holds W H → EnvR mg B W H σ ρ → ExR mg Wx W H σ E → (∀ W' H' vs ds, Step W H W' H' → Reps mg W' vs ds → Q ds → Q' vs H') → t σ H Q'
structure EndsR (mg : Gm) (Wx : WX) (W0 : Wd) (B : Hp) (N : Nd) (Ds : Ends) : Prop where
  nx : ∀ W' H' σ' ρ', Step W0 B W' H' → EnvR mg B W' H' σ' ρ' → N.nx ρ' → Ds.nx σ' H'
  rt : ∀ W' H' σ' ρ' v d, Step W0 B W' H' → EnvR mg B W' H' σ' ρ' → Rep mg W' v d → N.rt d ρ' → Ds.rt v H'
  bk : ∀ W' H' σ' ρ', Step W0 B W' H' → EnvR mg B W' H' σ' ρ' → N.bk ρ' → Ds.bk σ' H'
  ct : ∀ W' H' σ' ρ', Step W0 B W' H' → EnvR mg B W' H' σ' ρ' → N.ct ρ' → Ds.ct σ' H'
  rs : ∀ W' H' σ' ρ' cls dd x, Step W0 B W' H' → EnvR mg B W' H' σ' ρ' → RepX mg W' H' cls dd x → N.rs x ρ' → Wx cls dd σ' H'
def CpS (mg : Gm) (Wx : WX) (t : TS) (f : DTS) : Prop := ∀ W0 B N ρ, f N ρ → ∀ W σ H Ds, Step W0 B W H → EnvR mg B W H σ ρ → EndsR mg Wx W0 B N Ds → t Ds σ H
theorem EndsR.ex {mg : Gm} {Wx : WX} {W0 W : Wd} {B H : Hp} {N : Nd} {Ds : Ends} {σ : St} {ρ : Env} (n : EndsR mg Wx W0 B N Ds) (s : Step W0 B W H) (e : EnvR mg B W H σ ρ) : ExR mg Wx W H σ (fun x => N.rs x ρ) :=
  fun W' H' cls dd x s' r h => n.rs W' H' σ ρ cls dd x (s.trans s') (e.step s') r h
section
variable {ι : Type}
def DE (Xs : ι → Cx) (mg : Gm) (Wx : WX) (e : Expr) (f : DTE) : Prop := ∃ t, (∀ i, PE (Xs i) e t) ∧ Cp mg Wx t f
def DT (Xs : ι → Cx) (mg : Gm) (Wx : WX) (e : Expr) (f : DTT) : Prop := ∃ t, (∀ i, PT (Xs i) e t) ∧ CpT mg Wx t f
def DW (Xs : ι → Cx) (mg : Gm) (Wx : WX) (e : Expr) (f : DTT) : Prop := ∃ t, (∀ i, PW (Xs i) e t) ∧ CpT mg Wx t f
def DA (Xs : ι → Cx) (mg : Gm) (Wx : WX) (es : List Expr) (f : DTA) : Prop := ∃ t, (∀ i, PA (Xs i) es t) ∧ CpA mg Wx t f
def DS (Xs : ι → Cx) (mg : Gm) (Wx : WX) (st : Stmt) (f : DTS) : Prop := ∃ t, (∀ i, PS (Xs i) st t) ∧ CpS mg Wx t f
def DSs (Xs : ι → Cx) (mg : Gm) (Wx : WX) (st : List Stmt) (f : DTS) : Prop := ∃ t, (∀ i, PSs (Xs i) st t) ∧ CpS mg Wx t f
end
section
variable {ι : Type} {Xs : ι → Cx} {mg : Gm} {Wx : WX} {pos : Pos}
/-- one of two ways -/
def bit (b : Bool) (A B : Prop) : Prop := match b with
  | true => A
  | false => B
/-- a truth as a datum -/
def blc (d : D) (k : Bool → Prop) : Prop := match d with
  | .bl b => k b
  | _ => False
theorem bit_t (A B : Prop) : bit true A B = A := rfl
theorem bit_f (A B : Prop) : bit false A B = B := rfl
theorem bit_not (b : Bool) (A B : Prop) : bit (!b) A B = bit b B A := by cases b <;> rfl
theorem bit_dec (p : Prop) [Decidable p] (A B : Prop) : bit (decide p) A B = ((p → A) ∧ (¬ p → B)) := by
  by_cases h : p <;> simp [h, bit]
theorem blc_bl (b : Bool) (k : Bool → Prop) : blc (.bl b) k = k b := rfl
/-! ### what is new is locked -/
def tLk (t : TE) : TE := fun σ H Q => t σ H fun v H1 => ∃ p u, v = .ref p ∧ H1 p = some u ∧ Mut (some u) ∧ ∀ od, Q v (upd H1 p (.frz od u))
theorem pe_lk {X : Cx} {e : Expr} {t : TE} (h : PE X e t) : PE X e (tLk t) := by
  refine ⟨fun pins s σ H Q I hw => ?_⟩
  refine thn (h.run pins s σ H _ I hw) fun v s1 ⟨x, H1, I1, r, p, u, e, hp, mu, q⟩ => ?_
  obtain ⟨od, I2⟩ := I1.lock hp mu
  exact ⟨x, _, I2, r, q od⟩
/-! ### names, constants -/
abbrev dVar (i : Nat) : DTE := fun ρ Q _ => match ρ[i]? with
  | some (.d x) => Q x
  | _ => False
theorem de_var (i : Nat) {x : Str} (hN : ∀ j, (Xs j).N[i]? = some x := by intro _; rfl) (hv : ∀ j, Vis (Xs j).env.scope x := by intro _; first | exact Or.inl rfl | exact Or.inr (Or.inl rfl) | exact Or.inr (Or.inr rfl))
    (hd : (x == ("__debug__" : Str)) = false := by decide) (hcd : (x == ("__classdict__" : Str)) = false := by decide) : DE Xs mg Wx (.Name x pos) (dVar i) := by
  refine ⟨tVar i, fun j => pe_var (hN j) (hv j) hd hcd, fun B ρ Q E h W σ H Q' hh e _ q => ?_⟩
  unfold dVar at h
  split at h
  · rename_i z hz
    obtain ⟨v, hv, r⟩ := e.get hz
    exact ⟨v, hv, q W H v z (Step.refl hh) r h⟩
  · exact h.elim
abbrev dC (x : D) : DTE := fun _ Q _ => Q x
theorem Cp.const {v : V} {d : D} (r : ∀ W, Rep mg W v d) : Cp mg Wx (tC v) (dC d) := fun B ρ Q E h W σ H Q' hh _ _ q => q W H v d (Step.refl hh) (r W) h
theorem de_int {i : Int} {j : Nat} : DE Xs mg Wx (.Constant (.int i) j pos) (dC (.int i)) := ⟨_, fun _ => pe_int, Cp.const fun _ => .int i⟩
theorem de_bl {b : Bool} {j : Nat} : DE Xs mg Wx (.Constant (.bool b) j pos) (dC (.bl b)) := ⟨_, fun _ => pe_bl, Cp.const fun _ => .bl b⟩
theorem de_non {j : Nat} : DE Xs mg Wx (.Constant .none j pos) (dC .non) := ⟨_, fun _ => pe_non, Cp.const fun _ => .non⟩
theorem de_str {x : Str} {j : Nat} : DE Xs mg Wx (.Constant (.str x) j pos) (dC (.str x)) := ⟨_, fun _ => pe_str, Cp.const fun _ => .str x⟩
theorem de_gint {x : Str} {i : Int} (hm' : ∃ tk, mg.mg x = some (.int i tk)) (hM : ∀ j, (Xs j).mg = mg.mg := by intro _; rfl) (hg : ∀ j, Gl (Xs j) x := by intro _; rfl) (hd : (x == ("__debug__" : Str)) = false := by decide) : DE Xs mg Wx (.Name x pos) (dC (.int i)) := by
  obtain ⟨tk, hm⟩ := hm'
  exact ⟨_, fun j => pe_glob (v := .int i) (hg j) (by rw [hM j]; exact hm) ⟨tk, rfl⟩ hd, Cp.const fun _ => .int i⟩
theorem de_gstr {x y : Str} (hm' : ∃ tk, mg.mg x = some (.str y tk)) (hM : ∀ j, (Xs j).mg = mg.mg := by intro _; rfl) (hg : ∀ j, Gl (Xs j) x := by intro _; rfl) (hd : (x == ("__debug__" : Str)) = false := by decide) : DE Xs mg Wx (.Name x pos) (dC (.str y)) := by
  obtain ⟨tk, hm⟩ := hm'
  exact ⟨_, fun j => pe_glob (v := .str y) (hg j) (by rw [hM j]; exact hm) ⟨tk, rfl⟩ hd, Cp.const fun _ => .str y⟩
/-! ### operators by data -/
abbrev RD2 := D → D → (D → Prop) → Prop
def OpD (mg : Gm) (r : R2) (rd : RD2) : Prop := ∀ W H x y dx dy Q Q', Holds W H → Rep mg W x dx → Rep mg W y dy → rd dx dy Q → ToV mg W H Q Q' → r x y H Q'
/-- an operator that reads data alone -/
def OpOk (Xs : ι → Cx) (mg : Gm) (f : Value → Value → Sem Value) (rd : RD2) : Prop := ∃ r, (∀ i, OpR (Xs i) f r) ∧ OpD mg r rd
abbrev dOp (rd : RD2) (fa fb : DTE) : DTE := fun ρ Q E => fa ρ (fun x => fb ρ (fun y => rd x y Q) E) E
theorem Cp.op {r : R2} {rd : RD2} {ta tb : TE} {fa fb : DTE} (o : OpD mg r rd) (ha : Cp mg Wx ta fa) (hb : Cp mg Wx tb fb) : Cp mg Wx (tOp r ta tb) (dOp rd fa fb) := by
  intro B ρ Q E h W σ H Q' hh e x q
  refine ha B ρ _ E h W σ H _ hh e x fun W1 H1 v1 d1 s1 r1 h1 => ?_
  refine hb B ρ _ E h1 W1 σ H1 _ s1.holds (e.step s1) (x.step s1) fun W2 H2 v2 d2 s2 r2 h2 => ?_
  exact o W2 H2 v1 v2 d1 d2 _ _ s2.holds (r1.mono s2.le) r2 h2 fun W3 H3 v3 d3 s3 r3 h3 => q W3 H3 v3 d3 ((s1.trans s2).trans s3) r3 h3
theorem de_op {op : Operator} {rd : RD2} {a b : Expr} {fa fb : DTE} (o : OpOk Xs mg (binaryOp op) rd) (ha : DE Xs mg Wx a fa) (hb : DE Xs mg Wx b fb) : DE Xs mg Wx (.BinOp a op b pos) (dOp rd fa fb) := by
  obtain ⟨r, h1, h2⟩ := o
  obtain ⟨ta, a1, a2⟩ := ha
  obtain ⟨tb, b1, b2⟩ := hb
  exact ⟨_, fun i => pe_op (h1 i) (a1 i) (b1 i), Cp.op h2 a2 b2⟩
theorem de_cmp {op : CmpOp} {rd : RD2} {a b : Expr} {fa fb : DTE} (o : OpOk Xs mg (compareOp op) rd) (ha : DE Xs mg Wx a fa) (hb : DE Xs mg Wx b fb) (hm : behindInMarks op b = false := by first | rfl | exact nomark _) : DE Xs mg Wx (.Compare a [op] [b] pos) (dOp rd fa fb) := by
  obtain ⟨r, h1, h2⟩ := o
  obtain ⟨ta, a1, a2⟩ := ha
  obtain ⟨tb, b1, b2⟩ := hb
  exact ⟨_, fun i => pe_cmpR (h1 i) (a1 i) (b1 i) hm, Cp.op h2 a2 b2⟩
abbrev dChain (r r' : RD2) (fa fb fc : DTE) : DTE := fun ρ Q E => fa ρ (fun x => fb ρ (fun y => r x y fun z => blc z fun b => bit b (fc ρ (fun w => r' y w Q) E) (Q (.bl false))) E) E
theorem Cp.chain {r r' : R2} {rd rd' : RD2} {ta tb tc : TE} {fa fb fc : DTE} (h2 : OpD mg r rd) (h2' : OpD mg r' rd') (a2 : Cp mg Wx ta fa) (b2 : Cp mg Wx tb fb) (c2 : Cp mg Wx tc fc) : Cp mg Wx (tChain r r' ta tb tc) (dChain rd rd' fa fb fc) := by
  intro B ρ Q E h W σ H Q' hh e x q
  refine a2 B ρ _ E h W σ H _ hh e x fun W1 H1 v1 d1 s1 r1 h1 => ?_
  refine b2 B ρ _ E h1 W1 σ H1 _ s1.holds (e.step s1) (x.step s1) fun W2 H2 v2 d2 s2 r2 h2x => ?_
  refine h2 W2 H2 v1 v2 d1 d2 _ _ s2.holds (r1.mono s2.le) r2 h2x fun W3 H3 v3 d3 s3 r3 h3 => ?_
  have s13 := (s1.trans s2).trans s3
  cases r3 with
  | bl k =>
    refine ⟨k, rfl, ?_⟩
    cases k with
    | true =>
      rw [if_pos rfl]
      refine c2 B ρ _ E h3 W3 σ H3 _ s3.holds (e.step s13) (x.step s13) fun W4 H4 v4 d4 s4 r4 h4 => ?_
      exact h2' W4 H4 v2 v4 d2 d4 _ _ s4.holds ((r2.mono s3.le).mono s4.le) r4 h4 fun W5 H5 v5 d5 s5 r5 h5 => q W5 H5 v5 d5 ((s13.trans s4).trans s5) r5 h5
    | false =>
      rw [if_neg Bool.false_ne_true]
      exact q W3 H3 _ _ s13 (.bl false) h3
  | _ => exact h3.elim
theorem de_chain {op op' : CmpOp} {rd rd' : RD2} {a b c : Expr} {fa fb fc : DTE} (o : OpOk Xs mg (compareOp op) rd) (o' : OpOk Xs mg (compareOp op') rd') (ha : DE Xs mg Wx a fa) (hb : DE Xs mg Wx b fb) (hc : DE Xs mg Wx c fc) (hm : lastMarks [op, op'] [b, c] = false := by with_unfolding_all rfl) : DE Xs mg Wx (.Compare a [op, op'] [b, c] pos) (dChain rd rd' fa fb fc) := by
  obtain ⟨r, h1, h2⟩ := o
  obtain ⟨r', h1', h2'⟩ := o'
  obtain ⟨ta, a1, a2⟩ := ha
  obtain ⟨tb, b1, b2⟩ := hb
  obtain ⟨tc, c1, c2⟩ := hc
  exact ⟨_, fun i => pe_chain (h1 i) (h1' i) (a1 i) (b1 i) (c1 i) hm, Cp.chain h2 h2' a2 b2 c2⟩
/-! ### tests -/
abbrev dB (f : DTE) : DTT := fun ρ Q E => f ρ (fun x => blc x Q) E
theorem Cp.b {t : TE} {f : DTE} (h : Cp mg Wx t f) : CpT mg Wx (tB t) (dB f) := by
  intro B ρ Q E hf W σ H Q' hh e x q
  refine h B ρ _ E hf W σ H _ hh e x fun W1 H1 v1 d1 s1 r1 h1 => ?_
  cases r1 with
  | bl b => exact ⟨b, rfl, q W1 H1 b s1 h1⟩
  | _ => exact h1.elim
theorem dt_val {e : Expr} {f : DTE} (h : DE Xs mg Wx e f) (he : ∀ i whole, isTrue e (Xs i).env whole = (do let v ← whole; standAt e.pos; holding [v] (truthy v)) := by intro _ _; rfl) : DT Xs mg Wx e (dB f) := by
  obtain ⟨t, h1, h2⟩ := h
  exact ⟨_, fun i => pt_val (h1 i) (he i), h2.b⟩
theorem dt_cmp {op : CmpOp} {rd : RD2} {a b : Expr} {fa fb : DTE} (o : OpOk Xs mg (compareOp op) rd) (ha : DE Xs mg Wx a fa) (hb : DE Xs mg Wx b fb) (hm : behindInMarks op b = false := by first | rfl | exact nomark _) : DT Xs mg Wx (.Compare a [op] [b] pos) (dB (dOp rd fa fb)) := by
  obtain ⟨r, h1, h2⟩ := o
  obtain ⟨ta, a1, a2⟩ := ha
  obtain ⟨tb, b1, b2⟩ := hb
  exact ⟨_, fun i => pt_cmpR (h1 i) (a1 i) (b1 i) hm, Cp.b (Cp.op h2 a2 b2)⟩
theorem dt_chain {op op' : CmpOp} {rd rd' : RD2} {a b c : Expr} {fa fb fc : DTE} (o : OpOk Xs mg (compareOp op) rd) (o' : OpOk Xs mg (compareOp op') rd') (ha : DE Xs mg Wx a fa) (hb : DE Xs mg Wx b fb) (hc : DE Xs mg Wx c fc) (hm : lastMarks [op, op'] [b, c] = false := by with_unfolding_all rfl) : DT Xs mg Wx (.Compare a [op, op'] [b, c] pos) (dB (dChain rd rd' fa fb fc)) := by
  obtain ⟨r, h1, h2⟩ := o
  obtain ⟨r', h1', h2'⟩ := o'
  obtain ⟨ta, a1, a2⟩ := ha
  obtain ⟨tb, b1, b2⟩ := hb
  obtain ⟨tc, c1, c2⟩ := hc
  exact ⟨_, fun i => pt_chain (h1 i) (h1' i) (a1 i) (b1 i) (c1 i) hm, Cp.b (Cp.chain h2 h2' a2 b2 c2)⟩
abbrev dAnd (f g : DTT) : DTT := fun ρ Q E => f ρ (fun c => bit c (g ρ Q E) (Q false)) E
abbrev dOr (f g : DTT) : DTT := fun ρ Q E => f ρ (fun c => bit c (Q true) (g ρ Q E)) E
abbrev dNot (f : DTT) : DTT := fun ρ Q E => f ρ (fun c => Q (!c)) E
theorem dw_and1 {a : Expr} {f : DTT} (h : DT Xs mg Wx a f) : DW Xs mg Wx (.BoolOp .And [a] pos) f := by
  obtain ⟨t, h1, h2⟩ := h
  exact ⟨t, fun i => pw_and1 (h1 i), h2⟩
theorem dw_or1 {a : Expr} {f : DTT} (h : DT Xs mg Wx a f) : DW Xs mg Wx (.BoolOp .Or [a] pos) f := by
  obtain ⟨t, h1, h2⟩ := h
  exact ⟨t, fun i => pw_or1 (h1 i), h2⟩
theorem dw_and {a b : Expr} {rest : List Expr} {f g : DTT} (h : DT Xs mg Wx a f) (h' : DW Xs mg Wx (.BoolOp .And (b :: rest) pos) g) : DW Xs mg Wx (.BoolOp .And (a :: b :: rest) pos) (dAnd f g) := by
  obtain ⟨t, h1, h2⟩ := h
  obtain ⟨u, g1, g2⟩ := h'
  refine ⟨_, fun i => pw_and (h1 i) (g1 i), ?_⟩
  intro B ρ Q E hf W σ H Q' hh e x q
  refine h2 B ρ _ E hf W σ H _ hh e x fun W1 H1 c s1 k1 => ?_
  cases c with
  | true =>
    rw [if_pos rfl]
    exact g2 B ρ Q E k1 W1 σ H1 _ s1.holds (e.step s1) (x.step s1) fun W2 H2 b s2 k2 => q W2 H2 b (s1.trans s2) k2
  | false =>
    rw [if_neg Bool.false_ne_true]
    exact q W1 H1 false s1 k1
theorem dw_or {a b : Expr} {rest : List Expr} {f g : DTT} (h : DT Xs mg Wx a f) (h' : DW Xs mg Wx (.BoolOp .Or (b :: rest) pos) g) : DW Xs mg Wx (.BoolOp .Or (a :: b :: rest) pos) (dOr f g) := by
  obtain ⟨t, h1, h2⟩ := h
  obtain ⟨u, g1, g2⟩ := h'
  refine ⟨_, fun i => pw_or (h1 i) (g1 i), ?_⟩
  intro B ρ Q E hf W σ H Q' hh e x q
  refine h2 B ρ _ E hf W σ H _ hh e x fun W1 H1 c s1 k1 => ?_
  cases c with
  | true =>
    rw [if_pos rfl]
    exact q W1 H1 true s1 k1
  | false =>
    rw [if_neg Bool.false_ne_true]
    exact g2 B ρ Q E k1 W1 σ H1 _ s1.holds (e.step s1) (x.step s1) fun W2 H2 b s2 k2 => q W2 H2 b (s1.trans s2) k2
theorem dt_w {e : Expr} {f : DTT} (h : DW Xs mg Wx e f) : DT Xs mg Wx e f := by
  obtain ⟨t, h1, h2⟩ := h
  exact ⟨t, fun i => (h1 i).pt, h2⟩
theorem dt_not {a : Expr} {f : DTT} (h : DT Xs mg Wx a f) : DT Xs mg Wx (.UnaryOp .Not a pos) (dNot f) := by
  obtain ⟨t, h1, h2⟩ := h
  exact ⟨_, fun i => pt_not (h1 i), fun B ρ Q E hf W σ H Q' hh e x q => h2 B ρ _ E hf W σ H _ hh e x fun W1 H1 c s1 k1 => q W1 H1 _ s1 k1⟩
/-- and, or, not as values (bools) -/
abbrev dAndV (f g : DTE) : DTE := fun ρ Q E => f ρ (fun c => blc c fun b => bit b (g ρ Q E) (Q (.bl false))) E
abbrev dOrV (f g : DTE) : DTE := fun ρ Q E => f ρ (fun c => blc c fun b => bit b (Q (.bl true)) (g ρ Q E)) E
abbrev dNotV (f : DTE) : DTE := fun ρ Q E => f ρ (fun c => blc c fun b => Q (.bl (!b))) E
theorem de_one {op : BoolOp} {a : Expr} {f : DTE} (h : DE Xs mg Wx a f) : DE Xs mg Wx (.BoolOp op [a] pos) f := by
  obtain ⟨t, h1, h2⟩ := h
  exact ⟨t, fun i => pe_one (h1 i), h2⟩
theorem de_and {a b : Expr} {rest : List Expr} {f g : DTE} (h : DE Xs mg Wx a f) (h' : DE Xs mg Wx (.BoolOp .And (b :: rest) pos) g) : DE Xs mg Wx (.BoolOp .And (a :: b :: rest) pos) (dAndV f g) := by
  obtain ⟨t, h1, h2⟩ := h
  obtain ⟨u, g1, g2⟩ := h'
  refine ⟨_, fun i => pe_and (h1 i) (g1 i), ?_⟩
  intro B ρ Q E hf W σ H Q' hh e x q
  refine h2 B ρ _ E hf W σ H _ hh e x fun W1 H1 v d s1 r1 k1 => ?_
  cases r1 with
  | bl c =>
    refine ⟨c, rfl, ?_⟩
    cases c with
    | true =>
      rw [if_pos rfl]
      exact g2 B ρ Q E k1 W1 σ H1 _ s1.holds (e.step s1) (x.step s1) fun W2 H2 v d s2 r2 k2 => q W2 H2 v d (s1.trans s2) r2 k2
    | false =>
      rw [if_neg Bool.false_ne_true]
      exact q W1 H1 _ _ s1 (.bl false) k1
  | _ => exact k1.elim
theorem de_or {a b : Expr} {rest : List Expr} {f g : DTE} (h : DE Xs mg Wx a f) (h' : DE Xs mg Wx (.BoolOp .Or (b :: rest) pos) g) : DE Xs mg Wx (.BoolOp .Or (a :: b :: rest) pos) (dOrV f g) := by
  obtain ⟨t, h1, h2⟩ := h
  obtain ⟨u, g1, g2⟩ := h'
  refine ⟨_, fun i => pe_or (h1 i) (g1 i), ?_⟩
  intro B ρ Q E hf W σ H Q' hh e x q
  refine h2 B ρ _ E hf W σ H _ hh e x fun W1 H1 v d s1 r1 k1 => ?_
  cases r1 with
  | bl c =>
    refine ⟨c, rfl, ?_⟩
    cases c with
    | true =>
      rw [if_pos rfl]
      exact q W1 H1 _ _ s1 (.bl true) k1
    | false =>
      rw [if_neg Bool.false_ne_true]
      exact g2 B ρ Q E k1 W1 σ H1 _ s1.holds (e.step s1) (x.step s1) fun W2 H2 v d s2 r2 k2 => q W2 H2 v d (s1.trans s2) r2 k2
  | _ => exact k1.elim
theorem de_not {a : Expr} {f : DTE} (h : DE Xs mg Wx a f) : DE Xs mg Wx (.UnaryOp .Not a pos) (dNotV f) := by
  obtain ⟨t, h1, h2⟩ := h
  refine ⟨_, fun i => pe_not (h1 i), fun B ρ Q E hf W σ H Q' hh e x q => h2 B ρ _ E hf W σ H _ hh e x fun W1 H1 v d s1 r1 k1 => ?_⟩
  cases r1 with
  | bl c => exact ⟨c, rfl, q W1 H1 _ _ s1 (.bl _) k1⟩
  | _ => exact k1.elim
abbrev dIf (c : DTT) (f g : DTE) : DTE := fun ρ Q E => c ρ (fun b => bit b (f ρ Q E) (g ρ Q E)) E
theorem de_if {c a b : Expr} {fc : DTT} {fa fb : DTE} (hc : DT Xs mg Wx c fc) (ha : DE Xs mg Wx a fa) (hb : DE Xs mg Wx b fb) : DE Xs mg Wx (.IfExp c a b pos) (dIf fc fa fb) := by
  obtain ⟨tc, c1, c2⟩ := hc
  obtain ⟨ta, a1, a2⟩ := ha
  obtain ⟨tb, b1, b2⟩ := hb
  refine ⟨_, fun i => pe_ifExp (c1 i) (a1 i) (b1 i), ?_⟩
  intro B ρ Q E hf W σ H Q' hh e x q
  refine c2 B ρ _ E hf W σ H _ hh e x fun W1 H1 c s1 k1 => ?_
  cases c with
  | true =>
    rw [if_pos rfl]
    exact a2 B ρ Q E k1 W1 σ H1 _ s1.holds (e.step s1) (x.step s1) fun W2 H2 v d s2 r2 k2 => q W2 H2 v d (s1.trans s2) r2 k2
  | false =>
    rw [if_neg Bool.false_ne_true]
    exact b2 B ρ Q E k1 W1 σ H1 _ s1.holds (e.step s1) (x.step s1) fun W2 H2 v d s2 r2 k2 => q W2 H2 v d (s1.trans s2) r2 k2
/-! ### arguments, displays -/
abbrev dNil : DTA := fun _ Q _ => Q []
abbrev dCons (f : DTE) (g : DTA) : DTA := fun ρ Q E => f ρ (fun x => g ρ (fun xs => Q (x :: xs)) E) E
theorem da_nil : DA Xs mg Wx [] dNil := ⟨_, fun _ => pa_nil, fun B ρ Q E h W σ H Q' hh _ _ q => q W H [] [] (Step.refl hh) .nil h⟩
theorem da_cons {e : Expr} {es : List Expr} {f : DTE} {g : DTA} (h : DE Xs mg Wx e f) (h' : DA Xs mg Wx es g) (hs : ∀ i, starEach (e :: es) (Xs i).env = (false, eval e (Xs i).env) :: starEach es (Xs i).env := by intro _; rfl) : DA Xs mg Wx (e :: es) (dCons f g) := by
  obtain ⟨t, h1, h2⟩ := h
  obtain ⟨u, g1, g2⟩ := h'
  refine ⟨_, fun i => pa_cons (h1 i) (g1 i) (hs i), ?_⟩
  intro B ρ Q E hf W σ H Q' hh e x q
  refine h2 B ρ _ E hf W σ H _ hh e x fun W1 H1 v d s1 r1 k1 => ?_
  exact g2 B ρ _ E k1 W1 σ H1 _ s1.holds (e.step s1) (x.step s1) fun W2 H2 vs ds s2 r2 k2 => q W2 H2 _ _ (s1.trans s2) (.cons (r1.mono s2.le) r2) k2
abbrev dTup (g : DTA) : DTE := fun ρ Q E => g ρ (fun xs => xs.length ≤ sizeLine ∧ Q (.tup xs)) E
abbrev dLst (g : DTA) : DTE := fun ρ Q E => g ρ (fun xs => xs.length ≤ sizeLine ∧ Q (.lst xs)) E
theorem Wd.le_put {W : Wd} {p : Addr} {o : HO} (n : W.H p = none) : Le W (W.put p o) := Wd.put_le n
theorem Rep.newTup {W : Wd} {vs : List V} {ds : List D} {p : Addr} (r : Reps mg W vs ds) (n : W.H p = none) : Rep mg (W.put p (.tup vs)) (.ref p) (.tup ds) :=
  .tup (show upd W.H p _ p = _ from upd_same) (r.mono (Wd.le_put n))
theorem Rep.newLst {W : Wd} {vs : List V} {ds : List D} {p : Addr} (r : Reps mg W vs ds) (n : W.H p = none) : Rep mg (W.put p (.lst vs)) (.ref p) (.lst ds) :=
  .lst (show upd W.H p _ p = _ from upd_same) (r.mono (Wd.le_put n))
/-- what is wanted of a new tuple, of a new list -/
theorem to_tup {W : Wd} {H : Hp} {Q : D → Prop} {Q' : VK} {vs : List V} {ds : List D} (q : ToV mg W H Q Q') (hh : Holds W H) (r : Reps mg W vs ds) (h : Q (.tup ds)) : ∀ p, H p = none → Q' (.ref p) (upd H p (.tup vs)) :=
  fun p n => q _ _ _ _ (Step.alloc hh n) (Rep.newTup r (hh.same.free n)) h
theorem to_lst {W : Wd} {H : Hp} {Q : D → Prop} {Q' : VK} {vs : List V} {ds : List D} (q : ToV mg W H Q Q') (hh : Holds W H) (r : Reps mg W vs ds) (h : Q (.lst ds)) : ∀ p, H p = none → Q' (.ref p) (upd H p (.lst vs)) :=
  fun p n => q _ _ _ _ (Step.alloc hh n) (Rep.newLst r (hh.same.free n)) h
theorem ToV.step {W W1 : Wd} {H H1 : Hp} {Q : D → Prop} {Q' : VK} (q : ToV mg W H Q Q') (s : Step W H W1 H1) : ToV mg W1 H1 Q Q' := fun W' H' v d s' r h => q W' H' v d (s.trans s') r h
theorem de_tup {es : List Expr} {g : DTA} {k : Nat} (h : DA Xs mg Wx es g) : DE Xs mg Wx (.Tuple es k pos) (dTup g) := by
  obtain ⟨t, h1, h2⟩ := h
  refine ⟨_, fun i => pe_tup (h1 i), fun B ρ Q E hf W σ H Q' hh e x q => h2 B ρ _ E hf W σ H _ hh e x fun W1 H1 vs ds s1 r1 k1 => ?_⟩
  exact ⟨by rw [r1.length]; exact k1.1, to_tup (ToV.step q s1) s1.holds r1 k1.2⟩
theorem de_lst {es : List Expr} {g : DTA} (h : DA Xs mg Wx es g) : DE Xs mg Wx (.List es pos) (dLst g) := by
  obtain ⟨t, h1, h2⟩ := h
  refine ⟨_, fun i => pe_lst (h1 i), fun B ρ Q E hf W σ H Q' hh e x q => h2 B ρ _ E hf W σ H _ hh e x fun W1 H1 vs ds s1 r1 k1 => ?_⟩
  exact ⟨by rw [r1.length]; exact k1.1, to_lst (ToV.step q s1) s1.holds r1 k1.2⟩
/-! ### built-in functions and methods by data -/
abbrev RDL := List D → (D → Prop) → Prop
def CallD (mg : Gm) (r : List V → Hp → VK → Prop) (rd : RDL) : Prop := ∀ W H vs ds Q Q', Holds W H → Reps mg W vs ds → rd ds Q → ToV mg W H Q Q' → r vs H Q'
def CallOk (Xs : ι → Cx) (mg : Gm) (f : Value) (rd : RDL) : Prop := ∃ r, (∀ i, CallR (Xs i) f r) ∧ CallD mg r rd
abbrev dCB (rd : RDL) (g : DTA) : DTE := fun ρ Q E => g ρ (fun ds => rd ds Q) E
theorem Cp.cb {r : List V → Hp → VK → Prop} {rd : RDL} {t : TA} {g : DTA} (c : CallD mg r rd) (h : CpA mg Wx t g) : Cp mg Wx (tCB r t) (dCB rd g) := by
  intro B ρ Q E hf W σ H Q' hh e x q
  refine h B ρ _ E hf W σ H _ hh e x fun W1 H1 vs ds s1 r1 k1 => ?_
  exact c W1 H1 vs ds Q Q' s1.holds r1 k1 (ToV.step q s1)
theorem de_callB {id : String} {rd : RDL} {x : Str} {p : Pos} {e : Expr} {es : List Expr} {g : DTA} (c : CallOk Xs mg (.builtin id) rd) (hm : mg.mg x = none) (hv : bootBuiltins x = some (.builtin id)) (ha : DA Xs mg Wx (e :: es) g)
    (hM : ∀ j, (Xs j).mg = mg.mg := by intro _; rfl) (hg : ∀ j, Gl (Xs j) x := by intro _; rfl) (hn : x ≠ "__name__" := by decide) (hd : (x == ("__debug__" : Str)) = false := by decide)
    (he : ∀ i, starEach (e :: es) (Xs i).env = (false, eval e (Xs i).env) :: starEach es (Xs i).env := by intro _; rfl) (hpl : ∀ i, (backTo pos (starEach es (Xs i).env)).any (·.1) = false := by intro _; rfl) : DE Xs mg Wx (.Call (.Name x p) (e :: es) [] pos) (dCB rd g) := by
  obtain ⟨r, c1, c2⟩ := c
  obtain ⟨t, h1, h2⟩ := ha
  exact ⟨_, fun i => pe_callB (c1 i) (hg i) (by rw [hM i]; exact hm) hv (h1 i) hn hd (he i) (hpl i), Cp.cb c2 h2⟩
theorem de_callTy {T : String} {rd : RDL} {x : Str} {p : Pos} {e : Expr} {es : List Expr} {g : DTA} (c : CallOk Xs mg (.type T) rd) (hm : mg.mg x = none) (hv : bootBuiltins x = some (.type T)) (ha : DA Xs mg Wx (e :: es) g)
    (hM : ∀ j, (Xs j).mg = mg.mg := by intro _; rfl) (hg : ∀ j, Gl (Xs j) x := by intro _; rfl) (hn : x ≠ "__name__" := by decide) (hd : (x == ("__debug__" : Str)) = false := by decide)
    (he : ∀ i, starEach (e :: es) (Xs i).env = (false, eval e (Xs i).env) :: starEach es (Xs i).env := by intro _; rfl) (hpl : ∀ i, (backTo pos (starEach es (Xs i).env)).any (·.1) = false := by intro _; rfl) : DE Xs mg Wx (.Call (.Name x p) (e :: es) [] pos) (dCB rd g) := by
  obtain ⟨r, c1, c2⟩ := c
  obtain ⟨t, h1, h2⟩ := ha
  exact ⟨_, fun i => pe_callTy (c1 i) (hg i) (by rw [hM i]; exact hm) hv (h1 i) hn hd (he i) (hpl i), Cp.cb c2 h2⟩
/-! ### a def's promise; room with no repr under way -/
structure RmG (k : Nat) (A : Around) : Prop where
  r : Room k A
  g : A.guards = some []
theorem RmG.mono {j k : Nat} {A : Around} (x : RmG k A) (h : j ≤ k) : RmG j A := ⟨x.r.mono h, x.g⟩
/-- as FnOk, where no repr is under way -/
structure FnG (P : Program) (w : World) (K : PySem.W.Frag) (mg : Str → Option Value) (base : Heap) (k : Nat) (f : Addr) (fd : FuncData) (ps : List Str) (sp : Sp) : Prop where
  ln : ∀ vs H Q E, sp vs H Q E → vs.length = ps.length
  go : ∀ (A : Around) (out : List PySem.Env) (z : Shared) (H : Hp) (ag : Args) (us : List Value) (vs : List V) (Q : VK) (E : XK), RmG k A → Env0 P w K mg base A out z H → BindsTo z fd ag (ps.zip us) → Vals vs us → sp vs H Q E →
    codeAny (model P w) A (.call (.ref f) ag) (CR (L2.CX P w) out P w H z Q E) z
theorem FnG.of {P : Program} {w : World} {K : PySem.W.Frag} {mg : Str → Option Value} {base : Heap} {k : Nat} {f : Addr} {fd : FuncData} {ps : List Str} {sp : Sp} (F : FnOk P w K mg base (L2.CX P w) k f fd ps sp) : FnG P w K mg base k f fd ps sp :=
  ⟨F.len, fun A out z H ag us vs Q E m => F.run A out z H ag us vs Q E m.r⟩
theorem FnG.up {P : Program} {w : World} {K : PySem.W.Frag} {mg : Str → Option Value} {base : Heap} {j k : Nat} {f : Addr} {fd : FuncData} {ps : List Str} {sp : Sp} (F : FnG P w K mg base j f fd ps sp) (h : j ≤ k) : FnG P w K mg base k f fd ps sp :=
  ⟨F.ln, fun A out z H ag us vs Q E m => F.go A out z H ag us vs Q E (m.mono h)⟩
/-- the callee's run, for a caller -/
theorem goG {X : Cx} {k : Nat} {f : Addr} {fd : FuncData} {ps : List Str} {sp : Sp} {Ew : St → XK} {pins : List (Addr × Obj)} {σ : St} {H : Hp} {z : Shared} {Q : VK} {us : List Value} {vs : List V} (F : FnG X.prog X.w X.K X.mg X.base k f fd ps sp) (m : RmG k X.A) (hb : Binds X.K fd ps []) (hx : PassesAt (L2.CX X.prog X.w) X σ (Ew σ))
    (I : Inv X pins σ H z) (rv : Vals vs us) (h : sp vs H Q (Ew σ)) : wpAny (model X.prog X.w) X.A (call (.ref f) us) (EP X pins σ Q) X.xe z := by
  have hl : (us ++ []).length = ps.length := by
    rw [List.append_nil, ← rv.length]
    exact F.ln _ _ _ _ h
  have bd := hb z us I.kIn hl
  rw [List.append_nil] at bd
  have cd := F.go X.A X.stack z H ⟨us, []⟩ us vs Q (Ew σ) m I.env0 bd rv h
  refine wpAny_call (codeAny_mono cd ?_)
  intro res z' hq
  match res, hq with
  | .error e, hq => exact hx pins H z e z' I hq
  | .ok (.ret u), hq => exact I.after hq
  | .ok .next, hq => exact hq.elim
  | .ok .brk, hq => exact hq.elim
  | .ok .cont, hq => exact hq.elim
theorem pe_callG {X : Cx} {k : Nat} {f : Addr} {fd : FuncData} {ps : List Str} {sp : Sp} {Ew : St → XK} {x : Str} {p pos : Pos} {e : Expr} {es : List Expr} {t : TA} (F : FnG X.prog X.w X.K X.mg X.base k f fd ps sp) (m : RmG k X.A) (gx : Gl X x) (mx : X.mg x = some (.ref f)) (kf : PySem.W.keepIn X.K (.ref f) = true) (hb : Binds X.K fd ps [])
    (hx : ∀ σ, PassesAt (L2.CX X.prog X.w) X σ (Ew σ)) (ha : PA X (e :: es) t) (nd : (x == ("__debug__" : Str)) = false) (s1 : starEach (e :: es) X.env = (false, eval e X.env) :: starEach es X.env) (s2 : (backTo pos (starEach es X.env)).any (·.1) = false) : PE X (.Call (.Name x p) (e :: es) [] pos) (tCallS sp Ew t) := by
  constructor
  intro pins z σ H Q I hw
  apply wpAny_Call_Name_kw
  apply ld_glob I gx mx _ nd
  apply PySem.W.callWith_K (h₀ := X.base) I.ok.mod.kin kf _ s1 s2
  refine thn (ha.run pos pins z σ H _ I hw) ?_
  rintro us z1 ⟨vs, H1, I1, rv, q⟩
  exact ⟨I1.kIn, goG F m hb (hx σ) I1 rv q⟩
def spD (mg : Gm) (n : Nat) (f : List D → M D) : Sp := fun vs H Q E => ∃ W ds Qd Ed, Holds W H ∧ Reps mg W vs ds ∧ ds.length = n ∧ f ds Qd Ed ∧ ToV mg W H Qd Q ∧ ∀ W' H' cls dd x, Step W H W' H' → RepX mg W' H' cls dd x → Ed x → E cls dd H'
/-- what a callee lets out is taken -/
def Pas (X : Cx) (W : WX) : Prop := ∀ σ, PassesAt (L2.CX X.prog X.w) X σ (WE W σ)
theorem pas {X : Cx} {W : WX} (tk : Takes X W) : Pas X W := fun σ => passAt tk σ
structure DefOk (P : Program) (w : World) (mg : Gm) (base : Heap) (k : Nat) (x : Str) (n : Nat) (f : List D → M D) : Prop where
  ex : ∃ fa fd ps, mg.mg x = some (.ref fa) ∧ PySem.W.keepIn mg.K (.ref fa) = true ∧ Binds mg.K fd ps [] ∧ ps.length = n ∧ FnG P w mg.K mg.mg base k fa fd ps (spD mg n f)
abbrev dCall (f : List D → M D) (n : Nat) (g : DTA) : DTE := fun ρ Q E => g ρ (fun ds => ds.length = n ∧ f ds Q E) E
theorem Cp.call {n : Nat} {f : List D → M D} {t : TA} {g : DTA} (h : CpA mg Wx t g) : Cp mg Wx (tCallS (spD mg n f) (WE Wx) t) (dCall f n g) := by
  intro B ρ Q E hf W σ H Q' hh e x q
  refine h B ρ _ E hf W σ H _ hh e x fun W1 H1 vs ds s1 r1 k1 => ?_
  exact ⟨W1, ds, Q, E, s1.holds, r1, k1.1, k1.2, ToV.step q s1, fun W' H' cls dd y s' r h => x W' H' cls dd y (s1.trans s') r h⟩
theorem de_call {P : Program} {w : World} {base : Heap} {k n : Nat} {x : Str} {f : List D → M D} {p : Pos} {e : Expr} {es : List Expr} {g : DTA} (F : DefOk P w mg base k x n f) (hr : ∀ i, RmG k (Xs i).A) (tk : ∀ i, Pas (Xs i) Wx) (ha : DA Xs mg Wx (e :: es) g)
    (hP : ∀ j, (Xs j).prog = P ∧ (Xs j).w = w ∧ (Xs j).K = mg.K ∧ (Xs j).mg = mg.mg ∧ (Xs j).base = base := by intro _; exact ⟨rfl, rfl, rfl, rfl, rfl⟩) (hg : ∀ j, Gl (Xs j) x := by intro _; rfl) (hd : (x == ("__debug__" : Str)) = false := by decide)
    (he : ∀ i, starEach (e :: es) (Xs i).env = (false, eval e (Xs i).env) :: starEach es (Xs i).env := by intro _; rfl) (hpl : ∀ i, (backTo pos (starEach es (Xs i).env)).any (·.1) = false := by intro _; rfl) : DE Xs mg Wx (.Call (.Name x p) (e :: es) [] pos) (dCall f n g) := by
  obtain ⟨fa, fd, ps, hm, hk, hb, hl, G⟩ := F.ex
  obtain ⟨t, h1, h2⟩ := ha
  refine ⟨_, fun i => ?_, Cp.call (f := f) (n := n) h2⟩
  obtain ⟨p1, p2, p3, p4, p5⟩ := hP i
  subst p1 p2 p5
  exact pe_callG (by rw [p3, p4]; exact G) (hr i) (hg i) (by rw [p4]; exact hm) (by rw [p3]; exact hk) (by rw [p3]; exact hb) (fun σ => tk i σ) (h1 i) hd (he i) (hpl i)
end
end FP
/-! FP3: statements, targets, what is walked, loops, comprehensions, a def by its body. -/
namespace FP
open PySem L2
variable [Tabl]
section
variable {ι : Type} {Xs : ι → Cx} {mg : Gm} {Wx : WX} {pos : Pos}
/-! ### blocks, small statements -/
abbrev dNext : DTS := fun N ρ => N.nx ρ
abbrev dSeq (f g : DTS) : DTS := fun N ρ => f { N with nx := g N } ρ
theorem dss_nil : DSs Xs mg Wx [] dNext := ⟨_, fun _ => pss_nil, fun W0 B N ρ h W σ H Ds s e n => n.nx W H σ ρ s e h⟩
theorem EndsR.nxt {W0 : Wd} {B : Hp} {N : Nd} {Ds : Ends} {nx : Env → Prop} {nx' : St → Hp → Prop} (n : EndsR mg Wx W0 B N Ds) (h : ∀ W' H' σ' ρ', Step W0 B W' H' → EnvR mg B W' H' σ' ρ' → nx ρ' → nx' σ' H') : EndsR mg Wx W0 B { N with nx := nx } { Ds with nx := nx' } := ⟨h, n.rt, n.bk, n.ct, n.rs⟩
theorem EndsR.rebase {W0 W : Wd} {B H : Hp} {N : Nd} {Ds : Ends} (n : EndsR mg Wx W0 B N Ds) (s : Step W0 B W H) : EndsR mg Wx W B N Ds :=
  ⟨fun W' H' σ' ρ' s' => n.nx W' H' σ' ρ' (s.join s'), fun W' H' σ' ρ' v d s' => n.rt W' H' σ' ρ' v d (s.join s'), fun W' H' σ' ρ' s' => n.bk W' H' σ' ρ' (s.join s'), fun W' H' σ' ρ' s' => n.ct W' H' σ' ρ' (s.join s'), fun W' H' σ' ρ' c d x s' => n.rs W' H' σ' ρ' c d x (s.join s')⟩
theorem dss_cons {st : Stmt} {rest : List Stmt} {f g : DTS} (h : DS Xs mg Wx st f) (h' : DSs Xs mg Wx rest g) : DSs Xs mg Wx (st :: rest) (dSeq f g) := by
  obtain ⟨t, h1, h2⟩ := h
  obtain ⟨u, g1, g2⟩ := h'
  refine ⟨_, fun i => pss_cons (h1 i) (g1 i), fun W0 B N ρ hf W σ H Ds s e n => ?_⟩
  exact h2 W0 B _ ρ hf W σ H _ s e (n.nxt fun W' H' σ' ρ' s' e' k => g2 W0 B N ρ' k W' σ' H' Ds s' e' n)
theorem dss_one {st : Stmt} {f : DTS} (h : DS Xs mg Wx st f) : DSs Xs mg Wx [st] f := by
  obtain ⟨t, h1, h2⟩ := h
  exact ⟨t, fun i => pss_one (h1 i), h2⟩
abbrev dDrop (f : DTE) : DTS := fun N ρ => f ρ (fun _ => N.nx ρ) (fun x => N.rs x ρ)
theorem ds_expr {e : Expr} {f : DTE} (h : DE Xs mg Wx e f) (hs : ∀ i, swapsWith e none pos.line (Xs i).env = pure false := by intro _; rfl) : DS Xs mg Wx (.Expr e pos) (dDrop f) := by
  obtain ⟨t, h1, h2⟩ := h
  refine ⟨_, fun i => ps_expr (h1 i) (hs i), fun W0 B N ρ hf W σ H Ds s e n => ?_⟩
  exact h2 B ρ _ _ hf W σ H _ s.holds e (n.ex s e) fun W1 H1 v d s1 r1 k1 => n.nx W1 H1 σ ρ (s.trans s1) (e.step s1) k1
abbrev dRet (f : DTE) : DTS := fun N ρ => f ρ (fun d => N.rt d ρ) (fun x => N.rs x ρ)
theorem ds_ret {e : Expr} {f : DTE} (h : DE Xs mg Wx e f) : DS Xs mg Wx (.Return (some e) pos) (dRet f) := by
  obtain ⟨t, h1, h2⟩ := h
  refine ⟨_, fun i => ps_ret (h1 i), fun W0 B N ρ hf W σ H Ds s e n => ?_⟩
  exact h2 B ρ _ _ hf W σ H _ s.holds e (n.ex s e) fun W1 H1 v d s1 r1 k1 => n.rt W1 H1 σ ρ v d (s.trans s1) (e.step s1) r1 k1
abbrev dRetN : DTS := fun N ρ => N.rt .non ρ
abbrev dIfS (c : DTT) (f g : DTS) : DTS := fun N ρ => c ρ (fun b => bit b (f N ρ) (g N ρ)) (fun x => N.rs x ρ)
theorem ds_if {c : Expr} {a b : List Stmt} {fc : DTT} {f g : DTS} (hc : DT Xs mg Wx c fc) (ha : DSs Xs mg Wx a f) (hb : DSs Xs mg Wx b g) : DS Xs mg Wx (.If c a b pos) (dIfS fc f g) := by
  obtain ⟨tc, c1, c2⟩ := hc
  obtain ⟨ta, a1, a2⟩ := ha
  obtain ⟨tb, b1, b2⟩ := hb
  refine ⟨_, fun i => ps_if (c1 i) (a1 i) (b1 i), fun W0 B N ρ hf W σ H Ds s e n => ?_⟩
  refine c2 B ρ _ _ hf W σ H _ s.holds e (n.ex s e) fun W1 H1 k s1 k1 => ?_
  cases k with
  | true =>
    rw [if_pos rfl]
    exact a2 W0 B N ρ k1 W1 σ H1 Ds (s.trans s1) (e.step s1) n
  | false =>
    rw [if_neg Bool.false_ne_true]
    exact b2 W0 B N ρ k1 W1 σ H1 Ds (s.trans s1) (e.step s1) n
abbrev dSet (i : Nat) (f : DTE) : DTS := fun N ρ => f ρ (fun d => N.nx (ρ.set i (.d d))) (fun x => N.rs x ρ)
theorem ds_set {i : Nat} {x : Str} {e : Expr} {f : DTE} {pos' : Pos} (h : DE Xs mg Wx e f) (hN : ∀ j, (Xs j).N.Nodup) (hi : ∀ j, (Xs j).N[i]? = some x := by intro _; rfl) (hx : ∀ j, Loc (Xs j).env.scope x := by intro _; first | exact Or.inl rfl | exact Or.inr rfl)
    (hs : ∀ j, swapsWith e (some (.Name x pos')) pos.line (Xs j).env = pure false := by intro _; rfl) (hf : ∀ j, (Xs j).fn x = true ∨ (Xs j).env.scope.names.lookup x = some .local := by intro _; first | exact .inl rfl | exact .inr rfl) : DS Xs mg Wx (.Assign [.Name x pos'] e pos) (dSet i f) := by
  obtain ⟨t, h1, h2⟩ := h
  refine ⟨_, fun j => ps_set (i := i) (hN j) (hi j) (hx j) (h1 j) (hs j) (hf j), fun W0 B N ρ hf W σ H Ds s e n => ?_⟩
  exact h2 B ρ _ _ hf W σ H _ s.holds e (n.ex s e) fun W1 H1 v d s1 r1 k1 => n.nx W1 H1 _ _ (s.trans s1) ((e.step s1).set r1) k1
/-! ### targets -/
inductive Tg where
  | one (i : Nat) | many (is : List Nat) | manyL (is : List Nat)
def putAll : List Nat → List D → Env → Option Env
  | [], [], ρ => some ρ
  | i :: is, d :: ds, ρ => putAll is ds (ρ.set i (.d d))
  | _, _, _ => none
def Tg.put : Tg → D → Env → Option Env
  | .one i, d, ρ => some (ρ.set i (.d d))
  | .many is, .tup ds, ρ => putAll is ds ρ
  | .many _, _, _ => none
  | .manyL is, .lst ds, ρ => putAll is ds ρ
  | .manyL _, _, _ => none
def Tg.slots : Tg → List Nat
  | .one i => [i]
  | .many is => is
  | .manyL is => is
theorem wipe_set_in {σ : St} {i : Nat} {o : Option V} : ∀ {vs : List Nat}, i ∈ vs → wipe (σ.set i o) vs = wipe σ vs
  | [], h => by cases h
  | v :: vs, h => by
    unfold wipe
    by_cases hi : i ∈ vs
    · rw [wipe_set_in hi]
    · have e : i = v := by
        rcases List.mem_cons.mp h with q | q
        · exact q
        · exact absurd q hi
      subst e
      have out : ∀ ws : List Nat, wipe (σ.set i o) ws = wipe σ ws ∨ ∃ o', wipe (σ.set i o) ws = (wipe σ ws).set i o' := by
        intro ws
        induction ws with
        | nil => exact .inr ⟨o, rfl⟩
        | cons w ws ih =>
          unfold wipe
          rcases ih with ih | ⟨o', ih⟩
          · rw [ih]
            exact .inl rfl
          · rw [ih]
            by_cases hw : w = i
            · subst hw
              rw [List.set_set]
              exact .inl rfl
            · exact .inr ⟨o', by rw [List.set_comm _ _ (Ne.symm hw)]⟩
      rcases out vs with q | ⟨o', q⟩
      · rw [q]
      · rw [q, List.set_set]
theorem wipe_wipe (σ : St) (vs : List Nat) : L2.wipe (L2.wipe σ vs) vs = L2.wipe σ vs := by
  have key : ∀ (us ws : List Nat) (τ : St), (∀ i ∈ ws, i ∈ us) → L2.wipe (L2.wipe τ ws) us = L2.wipe τ us := by
    intro us ws
    induction ws with
    | nil => intro τ _; rfl
    | cons w ws ih =>
      intro τ h
      show L2.wipe ((L2.wipe τ ws).set w none) us = _
      rw [wipe_set_in (h w List.mem_cons_self)]
      exact ih τ fun i hi => h i (List.mem_cons_of_mem _ hi)
  exact key vs vs σ fun _ h => h
def CpG (mg : Gm) (g : TG) (T : Tg) : Prop := ∀ B W H x d σ ρ ρ' Q', Holds W H → Rep mg W x d → EnvR mg B W H σ ρ → T.put d ρ = some ρ' → (∀ σ', EnvR mg B W H σ' ρ' → (∀ vs : List Nat, (∀ i ∈ T.slots, i ∈ vs) → wipe σ' vs = wipe σ vs) → Q' σ' H) → g x σ H Q'
def CpGs (mg : Gm) (g : TGs) (is : List Nat) : Prop := ∀ B W H xs ds σ ρ ρ' Q', Holds W H → Reps mg W xs ds → EnvR mg B W H σ ρ → putAll is ds ρ = some ρ' → (∀ σ', EnvR mg B W H σ' ρ' → (∀ vs : List Nat, (∀ i ∈ is, i ∈ vs) → wipe σ' vs = wipe σ vs) → Q' σ' H) → g xs σ H Q'
def DG (Xs : ι → Cx) (mg : Gm) (tg : Expr) (T : Tg) : Prop := ∃ g, (∀ i, PG (Xs i) tg g) ∧ CpG mg g T
def DGs (Xs : ι → Cx) (mg : Gm) (tgs : List Expr) (is : List Nat) : Prop := ∃ g, (∀ i, PGs (Xs i) tgs g) ∧ CpGs mg g is
theorem CpG.name {i : Nat} : CpG mg (gName i) (.one i) := fun B W H x d σ ρ ρ' Q' hh r e h q => by
  cases h
  exact q _ (e.set r) fun vs hv => wipe_set_in (hv i (List.mem_singleton.mpr rfl))
theorem pg_nm {i : Nat} {x : Str} (hN : ∀ j, (Xs j).N.Nodup) (hi : ∀ j, (Xs j).N[i]? = some x) (hx : ∀ j, Loc (Xs j).env.scope x) (hf : ∀ j, (Xs j).fn x = true ∨ (Xs j).env.scope.names.lookup x = some .local) : ∀ j, PG (Xs j) (.Name x pos) (gName i) := fun j => pg_name (hN j) (hi j) (hx j) (hf j)
theorem dg_name {i : Nat} {x : Str} (hN : ∀ j, (Xs j).N.Nodup) (hi : ∀ j, (Xs j).N[i]? = some x := by intro _; rfl) (hx : ∀ j, Loc (Xs j).env.scope x := by intro _; first | exact Or.inl rfl | exact Or.inr rfl)
    (hf : ∀ j, (Xs j).fn x = true ∨ (Xs j).env.scope.names.lookup x = some .local := by intro _; first | exact .inl rfl | exact .inr rfl) : DG Xs mg (.Name x pos) (.one i) := ⟨_, pg_nm hN hi hx hf, CpG.name⟩
theorem dgs_nil : DGs Xs mg [] [] := ⟨_, fun _ => pgs_nil, fun B W H xs ds σ ρ ρ' Q' hh r e h q => by
  cases r with
  | nil =>
    cases h
    exact ⟨rfl, q σ e fun _ _ => rfl⟩
  | cons => cases h⟩
theorem dgs_cons {i : Nat} {is : List Nat} {e : Expr} {es : List Expr} (h : DG Xs mg e (.one i)) (h' : DGs Xs mg es is) (hs : ∀ j, (assignEach (e :: es) (Xs j).env).map (·.2) = assign e (Xs j).env :: (assignEach es (Xs j).env).map (·.2) := by intro _; rfl) : DGs Xs mg (e :: es) (i :: is) := by
  obtain ⟨g, h1, h2⟩ := h
  obtain ⟨gs, g1, g2⟩ := h'
  refine ⟨_, fun j => pgs_cons (h1 j) (g1 j) (hs j), fun B W H xs ds σ ρ ρ' Q' hh r e h q => ?_⟩
  cases r with
  | nil => cases h
  | cons r1 rs =>
    refine ⟨_, _, rfl, h2 B W H _ _ σ ρ _ _ hh r1 e rfl fun σ1 e1 w1 => ?_⟩
    exact g2 B W H _ _ σ1 _ ρ' Q' hh rs e1 h fun σ2 e2 w2 => q σ2 e2 fun vs hv => (w2 vs fun j hj => hv j (List.mem_cons_of_mem _ hj)).trans (w1 vs fun j hj => hv j (by
      rw [List.mem_singleton.mp hj]
      exact List.mem_cons_self))
theorem putAll_len : ∀ {is : List Nat} {ds : List D} {ρ ρ' : Env}, putAll is ds ρ = some ρ' → ds.length = is.length
  | [], [], _, _, _ => rfl
  | _ :: is, _ :: ds, _, _, h => congrArg (· + 1) (putAll_len (is := is) (ds := ds) h)
  | [], _ :: _, _, _, h => by cases h
  | _ :: _, [], _, _, h => by cases h
theorem dg_tup {es : List Expr} {k : Nat} {is : List Nat} (h : DGs Xs mg es is) (hc : ∀ j, (Xs j).calm = true := by intro _; rfl) (hK : ∀ j, (Xs j).K = mg.K := by intro _; rfl) (hn : ∀ j, (assignEach es (Xs j).env).length = is.length := by intro _; rfl) (hst : ∀ j, (assignEach es (Xs j).env).findIdx? (·.1) = none := by intro _; rfl) : DG Xs mg (.Tuple es k pos) (.many is) := by
  obtain ⟨g, h1, h2⟩ := h
  refine ⟨gTup mg.K is.length g, fun j => by
    have z := pg_tup (pos := pos) (k := k) (n := is.length) (hc j) (h1 j) (hn j) (hst j)
    rw [hK j] at z
    exact z, fun B W H x d σ ρ ρ' Q' hh r e h q => ?_⟩
  cases r with
  | tup ha rs => exact ⟨_, _, rfl, SqT.of (hh.same _ _ ha), by rw [rs.length]; exact putAll_len h, h2 B W H _ _ σ ρ ρ' Q' hh rs e h q⟩
  | _ => cases h
abbrev dAsg (T : Tg) (f : DTE) : DTS := fun N ρ => f ρ (fun d => ∃ ρ', T.put d ρ = some ρ' ∧ N.nx ρ') (fun x => N.rs x ρ)
theorem ds_asg {tg e : Expr} {f : DTE} {T : Tg} (h : DE Xs mg Wx e f) (g : DG Xs mg tg T) (hs : ∀ j, swapsWithSole [tg] e pos.line (Xs j).env = pure false := by intro _; rfl) (hw : ∀ j, swappedStores [tg] e (Xs j).env = pure none := by intro _; rfl)
    (ha : ∀ j, (assignEach [tg] (Xs j).env).map (·.2) = [assign tg (Xs j).env] := by intro _; rfl) : DS Xs mg Wx (.Assign [tg] e pos) (dAsg T f) := by
  obtain ⟨t, h1, h2⟩ := h
  obtain ⟨u, g1, g2⟩ := g
  refine ⟨_, fun j => ps_asg (h1 j) (g1 j) (hs j) (hw j) (ha j), fun W0 B N ρ hf W σ H Ds s e n => ?_⟩
  refine h2 B ρ _ _ hf W σ H _ s.holds e (n.ex s e) fun W1 H1 v d s1 r1 k1 => ?_
  obtain ⟨ρ', k2, k3⟩ := k1
  exact g2 B W1 H1 v d σ ρ ρ' _ s1.holds r1 (e.step s1) k2 fun σ' e' _ => n.nx W1 H1 σ' ρ' (s.trans s1) e' k3
/-! ### what is walked -/
def WalkD (mg : Gm) (W : Wd) (J : It) (ds : List D) : Prop := ∀ W1 H1, Le W W1 → Holds W1 H1 → (∀ i, i < ds.length → J.go i H1) ∧ J.stop ds.length H1 ∧ ∀ i x H2, i < ds.length → J.yld i H1 x H2 → ∃ W2 d, Step W1 H1 W2 H2 ∧ ds[i]? = some d ∧ Rep mg W2 x d
def CpI (mg : Gm) (Wx : WX) (w : TI) (f : DTI) : Prop := ∀ B ρ Q E, f ρ Q E → ∀ W σ H Q', Holds W H → EnvR mg B W H σ ρ → ExR mg Wx W H σ E → (∀ W' H' J ds, Step W H W' H' → WalkD mg W' J ds → Q ds → Q' J H') → w σ H Q'
def DI (Xs : ι → Cx) (mg : Gm) (Wx : WX) (tg e : Expr) (f : DTI) : Prop := ∃ w, (∀ i, PI (Xs i) tg e w) ∧ CpI mg Wx w f
/-- a walk that leaves the heap as it was -/
theorem WalkD.of {W : Wd} {J : It} {ds : List D} {G : Hp → Prop} {vs : Nat → Option V} (w : L2.Walk J ds.length G (fun i H x H' => H' = H ∧ vs i = some x)) (hG : ∀ W1 H1, Le W W1 → Holds W1 H1 → G H1) (hv : ∀ i x, i < ds.length → vs i = some x → ∃ d, ds[i]? = some d ∧ Rep mg W x d) : WalkD mg W J ds := by
  intro W1 H1 l hh
  refine ⟨fun i hi => w.goes i H1 hi (hG W1 H1 l hh), w.stops H1 (hG W1 H1 l hh), fun i x H2 hi y => ?_⟩
  obtain ⟨e, hx⟩ := w.yields i H1 x H2 hi (hG W1 H1 l hh) y
  subst e
  obtain ⟨d, h1, h2⟩ := hv i x hi hx
  exact ⟨W1, d, Step.refl hh, h1, h2.mono l⟩
abbrev dIList (f : DTE) : DTI := fun ρ Q E => f ρ (fun x => match x with
  | .lst ds => Q ds
  | .fz ds => Q ds
  | _ => False) E
theorem WalkD.list {W : Wd} {H : Hp} {a : Addr} {vs : List V} {ds : List D} (r : Reps mg W vs ds) (h : ∀ W1 H1, Le W W1 → Holds W1 H1 → SqL mg.K H1 a vs) : WalkD mg W (Itl mg.K a) ds := by
  have e := r.length
  have w := walk_list (K := mg.K) (a := a) (xs := vs)
  rw [e] at w
  exact WalkD.of (vs := fun i => vs[i]?) w h fun i x hi hx => r.getV hx
theorem di_list {tg e : Expr} {f : DTE} (h : DE Xs mg Wx e f) (hK : ∀ j, (Xs j).K = mg.K := by intro _; rfl) : DI Xs mg Wx tg e (dIList f) := by
  obtain ⟨t, h1, h2⟩ := h
  refine ⟨iList mg.K t, fun j => by
    have z := pi_list (tg := tg) (h1 j)
    rw [hK j] at z
    exact z, fun B ρ Q E hf W σ H Q' hh e x q => ?_⟩
  refine h2 B ρ _ E hf W σ H _ hh e x fun W1 H1 v d s1 r1 k1 => ?_
  cases r1 with
  | lst ha rs => exact ⟨_, rfl, ⟨_, SqL.of (s1.holds.same _ _ ha)⟩, q W1 H1 _ _ s1 (WalkD.list (H := H1) rs fun W2 H2 l hh => SqL.of (hh.same _ _ (l.h _ _ ha))) k1⟩
  | fz ha rs => exact ⟨_, rfl, ⟨_, s1.holds.same.seq ha⟩, q W1 H1 _ _ s1 (WalkD.list (H := H1) rs fun W2 H2 l hh => hh.same.seq (l.h.seq ha)) k1⟩
  | _ => exact k1.elim
abbrev dITup (f : DTE) : DTI := fun ρ Q E => f ρ (fun x => match x with
  | .tup ds => Q ds
  | _ => False) E
theorem di_tup {tg e : Expr} {f : DTE} (h : DE Xs mg Wx e f) (hK : ∀ j, (Xs j).K = mg.K := by intro _; rfl) : DI Xs mg Wx tg e (dITup f) := by
  obtain ⟨t, h1, h2⟩ := h
  refine ⟨iTup mg.K t, fun j => by
    have z := pi_tup (tg := tg) (h1 j)
    rw [hK j] at z
    exact z, fun B ρ Q E hf W σ H Q' hh e x q => ?_⟩
  refine h2 B ρ _ E hf W σ H _ hh e x fun W1 H1 v d s1 r1 k1 => ?_
  cases r1 with
  | @tup a vs ds ha rs =>
    refine ⟨_, rfl, ⟨_, SqT.of (s1.holds.same _ _ ha)⟩, q W1 H1 _ ds s1 ?_ k1⟩
    have w := walk_tup (K := mg.K) (a := a) (xs := vs)
    rw [rs.length] at w
    exact WalkD.of (vs := fun i => vs[i]?) w (fun W2 H2 l hh => SqT.of (hh.same _ _ (l.h _ _ ha))) fun i x hi hx => rs.getV hx
  | _ => exact k1.elim
/-- the signs of a text -/
def signsD (x : Str) : List D := x.cps.toList.map fun c => .str ⟨#[c]⟩
theorem signsD_len (x : Str) : (signsD x).length = x.cps.size := by simp [signsD]
abbrev dIStr (f : DTE) : DTI := fun ρ Q E => f ρ (fun x => match x with
  | .str z => Q (signsD z)
  | _ => False) E
theorem di_str {tg e : Expr} {f : DTE} (h : DE Xs mg Wx e f) : DI Xs mg Wx tg e (dIStr f) := by
  obtain ⟨t, h1, h2⟩ := h
  refine ⟨iStr t, fun j => pi_str (h1 j), fun B ρ Q E hf W σ H Q' hh e x q => ?_⟩
  refine h2 B ρ _ E hf W σ H _ hh e x fun W1 H1 v d s1 r1 k1 => ?_
  cases r1 with
  | str z =>
    refine ⟨z, rfl, q W1 H1 _ _ s1 (fun W2 H2 l hh => ?_) k1⟩
    have w := walk_str (z := z)
    refine ⟨fun i hi => w.goes i H2 (by rw [← signsD_len]; exact hi) True.intro, by rw [signsD_len]; exact w.stops H2 True.intro, fun i x H3 hi y => ?_⟩
    obtain ⟨e, c, hc, hx⟩ := w.yields i H2 x H3 (by rw [← signsD_len]; exact hi) True.intro y
    subst e hx
    refine ⟨W2, _, Step.refl hh, ?_, .str _⟩
    unfold signsD
    rw [List.getElem?_map, Array.getElem?_toList, hc]
    rfl
  | _ => exact k1.elim
def rangeD (lo : Int) (n : Nat) : List D := (List.range n).map fun (i : Nat) => D.int (lo + i)
theorem rangeD_len (lo : Int) (n : Nat) : (rangeD lo n).length = n := by simp [rangeD]
theorem WalkD.range {W : Wd} {lo : Int} {n : Nat} : WalkD mg W (Itr lo n) (rangeD lo n) := by
  intro W1 H1 l hh
  have w := walk_range (lo := lo) (n := n)
  refine ⟨fun i hi => w.goes i H1 (by rw [rangeD_len] at hi; exact hi) True.intro, by rw [rangeD_len]; exact w.stops H1 True.intro, fun i x H3 hi y => ?_⟩
  rw [rangeD_len] at hi
  obtain ⟨e, hx⟩ := w.yields i H1 x H3 hi True.intro y
  subst e hx
  refine ⟨W1, _, Step.refl hh, ?_, .int _⟩
  unfold rangeD
  rw [List.getElem?_map, List.getElem?_range hi]
  rfl
abbrev dIRng1 (g : DTA) : DTI := fun ρ Q E => g ρ (fun ds => match ds with
  | [.int j] => -(2 ^ 62) ≤ j ∧ j < 2 ^ 62 ∧ Q (rangeD 0 j.toNat)
  | _ => False) E
theorem di_range1 {tg a : Expr} {p : Pos} {g : DTA} (hm : mg.mg "range" = none) (h : DA Xs mg Wx [a] g) (hM : ∀ j, (Xs j).mg = mg.mg := by intro _; rfl) (hg : ∀ j, Gl (Xs j) "range" := by intro _; rfl) (hs : ∀ j, starEach [a] (Xs j).env = [(false, eval a (Xs j).env)] := by intro _; rfl) :
    DI Xs mg Wx tg (.Call (.Name "range" p) [a] [] pos) (dIRng1 g) := by
  obtain ⟨t, h1, h2⟩ := h
  refine ⟨iRng1 t, fun j => pi_range1 (hg j) (by rw [hM j]; exact hm) (h1 j) (hs j), fun B ρ Q E hf W σ H Q' hh e x q => ?_⟩
  refine h2 B ρ _ E hf W σ H _ hh e x fun W1 H1 vs ds s1 r1 k1 => ?_
  split at k1
  · rename_i j
    cases r1 with
    | cons r rs =>
      cases r
      cases rs
      exact ⟨j, rfl, k1.1, k1.2.1, q W1 H1 _ _ s1 WalkD.range k1.2.2⟩
  · exact k1.elim
/-! ### for -/
def forD (T : Tg) (f : DTS) (N : Nd) : List D → Env → Prop
  | [], ρ => N.nx ρ
  | d :: ds, ρ => ∃ ρ1, T.put d ρ = some ρ1 ∧ f { N with nx := forD T f N ds, ct := forD T f N ds, bk := N.nx } ρ1
abbrev dFor (w : DTI) (T : Tg) (f : DTS) : DTS := fun N ρ => w ρ (fun ds => forD T f N ds ρ) (fun x => N.rs x ρ)
theorem ds_for {tg iter : Expr} {body : List Stmt} {w : DTI} {T : Tg} {f : DTS} (hi : DI Xs mg Wx tg iter w) (hg : DG Xs mg tg T) (hb : DSs Xs mg Wx body f) (hp : ∀ j, PassesOwn (model (Xs j).prog (Xs j).w) (Xs j).A (Xs j).env (Xs j).xe) (hc : ∀ j, (Xs j).calm = true := by intro _; rfl)
    (hs : ∀ j x, foldedSetIterable iter (Xs j).env x = pure x := by intro _ _; rfl) : DS Xs mg Wx (.For tg iter body [] pos) (dFor w T f) := by
  obtain ⟨wi, i1, i2⟩ := hi
  obtain ⟨g, g1, g2⟩ := hg
  obtain ⟨tb, b1, b2⟩ := hb
  refine ⟨_, fun j => ps_for (hp j) (hc j) (i1 j) (g1 j) (b1 j) (hs j), fun W0 B N ρ hf W σ H Ds s e n => ?_⟩
  refine i2 B ρ _ _ hf W σ H _ s.holds e (n.ex s e) fun W1 H1 J ds s1 wk k1 => ?_
  refine ⟨fun i m σ' H' => m = ds.length - i ∧ i ≤ ds.length ∧ ∃ W' ρ', Step W0 B W' H' ∧ EnvR mg B W' H' σ' ρ' ∧ Le W1 W' ∧ forD T f N (ds.drop i) ρ', ⟨ds.length, by simp, Nat.zero_le _, W1, ρ, s.trans s1, e.step s1, Le.refl _, k1⟩, ?_⟩
  rintro i m σ' H' ⟨rfl, hi, W', ρ', s', e', l', k'⟩
  obtain ⟨go, stop, yld⟩ := wk W' H' l' s'.holds
  by_cases hlt : i < ds.length
  · refine .inr ⟨go i hlt, fun σ2 H2 => ∃ W2 ρ2, Step W0 B W2 H2 ∧ EnvR mg B W2 H2 σ2 ρ2 ∧ Le W1 W2 ∧ forD T f N (ds.drop (i + 1)) ρ2, fun σ2 H2 q => ⟨ds.length - (i + 1), by omega, rfl, hlt, q⟩, fun x H2 y => ?_⟩
    obtain ⟨W2, d, s2, hd, r⟩ := yld i x H2 hlt y
    have ed : ds.drop i = d :: ds.drop (i + 1) := by
      rw [List.drop_eq_getElem_cons hlt]
      have := (List.getElem?_eq_some_iff.mp hd).2
      rw [this]
    rw [ed] at k'
    obtain ⟨ρ1, p1, k2⟩ := k'
    refine g2 B W2 H2 x d σ' ρ' ρ1 _ s2.holds r (e'.step s2) p1 fun σ3 e3 _ => ?_
    have s02 := s'.trans s2
    have n2 := n.rebase s02
    refine b2 W2 B _ ρ1 k2 W2 σ3 H2 _ s02.rebase e3 ⟨fun W3 H3 σ4 ρ4 s3 e4 k4 => ⟨W3, ρ4, s02.join s3, e4, (l'.trans s2.le).trans s3.le, k4⟩, n2.rt, n2.nx, fun W3 H3 σ4 ρ4 s3 e4 k4 => ⟨W3, ρ4, s02.join s3, e4, (l'.trans s2.le).trans s3.le, k4⟩, n2.rs⟩
  · have ei : i = ds.length := by omega
    subst ei
    rw [List.drop_length] at k'
    exact .inl ⟨stop, n.nx W' H' σ' ρ' s' e' k'⟩
/-! ### while -/
/-! ### comprehensions -/
def lcD (body : D → (Option D → Prop) → Prop) : List D → (List D → Prop) → Prop
  | [], Q => Q []
  | d :: ds, Q => body d fun o => lcD body ds fun rs => match o with
    | some r => Q (r :: rs)
    | none => Q rs
def wipeD (ρ : Env) : List Nat → Env
  | [] => ρ
  | v :: vs => (wipeD ρ vs).set v .no
theorem EnvR.wipe {B : Hp} {W : Wd} {H : Hp} {σ : St} {ρ : Env} (e : EnvR mg B W H σ ρ) : ∀ vs : List Nat, EnvR mg B W H (L2.wipe σ vs) (wipeD ρ vs)
  | [] => e
  | v :: vs => (EnvR.wipe e vs).no
abbrev dLc (w : DTI) (T : Tg) (ft : DTT) (fe : DTE) (vs : List Nat) : DTE := fun ρ Q E => w ρ (fun ds => ds.length ≤ sizeLine ∧ lcD (fun d k => ∃ ρ2, T.put d (wipeD ρ vs) = some ρ2 ∧ ft ρ2 (fun b => bit b (fe ρ2 (fun r => k (some r)) F0) (k none)) F0) ds fun rs => Q (.lst rs)) E
abbrev blkF (Xs : ι → Cx) (scope : Scope) : ι × Shared × Hp × Addr × List (Str × Addr) × List Addr → Cx := fun j => (Xs j.1).blk j.2.1 j.2.2.1 scope (compEnvC scope j.2.2.2.2.1 j.2.2.2.1 (Xs j.1).env) j.2.2.2.2.2
def DTs (Xs : ι → Cx) (mg : Gm) (Wx : WX) (ifs : List Expr) (f : DTT) : Prop := ∃ t, (∀ i, PTs (Xs i) ifs t) ∧ CpT mg Wx t f
abbrev dYes : DTT := fun _ Q _ => Q true
theorem dts_nil : DTs Xs mg Wx [] dYes := ⟨_, fun _ => pts_nil, fun B ρ Q E hf W σ H Q' hh e x q => q W H true (Step.refl hh) hf⟩
theorem dts_one {c : Expr} {f : DTT} (h : DT Xs mg Wx c f) : DTs Xs mg Wx [c] f := by
  obtain ⟨t, h1, h2⟩ := h
  exact ⟨t, fun i => pts_one (h1 i), h2⟩
theorem Cp.lc {wi : TI} {g : TG} {tt : TT} {te : TE} {w : DTI} {T : Tg} {ft : DTT} {fe : DTE} {vs : List Nat} (hi : CpI mg Wx wi w) (hg : CpG mg g T) (hv : ∀ i ∈ T.slots, i ∈ vs) (ht : CpT mg Wx0 tt ft) (he : Cp mg Wx0 te fe) : Cp mg Wx (tLc wi g tt te vs) (dLc w T ft fe vs) := by
  intro B ρ Q E hf W σ H Q' hh e x q
  refine hi B ρ _ E hf W σ H _ hh e x fun W1 H1 J ds s1 wk k1 => ?_
  obtain ⟨hsz, k1⟩ := k1
  intro A hA
  have e1 := e.step s1
  refine ⟨fun i m H' => m = ds.length - i ∧ i ≤ ds.length ∧ ∃ W' us acc, Step W1 H1 W' H' ∧ H' A = some (.lst us) ∧ W'.H A = none ∧ ¬ W'.T A ∧ Reps mg W' us acc ∧ acc.length ≤ i ∧ lcD _ (ds.drop i) (fun rs => Q (.lst (acc ++ rs))),
    ⟨ds.length, by simp, Nat.zero_le _, W1, [], [], Step.lay s1.holds hA, upd_same, s1.holds.same.free hA, s1.holds.nT hA, .nil, Nat.le_refl _, k1⟩, ?_⟩
  rintro i m H' ⟨rfl, hi, W', us, acc, s', hL, nw, nt, rs, la, k'⟩
  obtain ⟨go, stop, yld⟩ := wk W' H' s'.le s'.holds
  by_cases hlt : i < ds.length
  · refine .inr ⟨go i hlt, fun H2 => ∃ W2 us2 acc2, Step W1 H1 W2 H2 ∧ H2 A = some (.lst us2) ∧ W2.H A = none ∧ ¬ W2.T A ∧ Reps mg W2 us2 acc2 ∧ acc2.length ≤ i + 1 ∧ lcD _ (ds.drop (i + 1)) (fun rs => Q (.lst (acc2 ++ rs))), fun H2 q => ⟨ds.length - (i + 1), by omega, rfl, hlt, q⟩, fun y H2 hy => ?_⟩
    obtain ⟨W2, d, s2, hd, r⟩ := yld i y H2 hlt hy
    have ed : ds.drop i = d :: ds.drop (i + 1) := by
      rw [List.drop_eq_getElem_cons hlt]
      have := (List.getElem?_eq_some_iff.mp hd).2
      rw [this]
    rw [ed] at k'
    obtain ⟨ρ1, p1, k2⟩ := k'
    have sA : ∀ {Wa Wb : Wd} {Ha Hb : Hp} {ws : List V}, Step Wa Ha Wb Hb → Ha A = some (.lst ws) → Wa.H A = none → ¬ Wa.T A → Hb A = some (.lst ws) ∧ Wb.H A = none ∧ ¬ Wb.T A := fun st a1 a2 a3 => ⟨st.keep A _ a1 a3, by rw [st.fresh A _ a1]; exact a2, fun t => by
      rcases st.freshT A t with t | t
      · exact a3 t
      · rw [a1] at t
        cases t⟩
    refine hg B W2 H2 y d _ _ ρ1 _ s2.holds r ((e1.step s').step s2 |>.wipe vs) p1 fun σ3 e3 w3 => ?_
    refine ⟨(w3 vs hv).trans ?_, ?_⟩
    · have idem : ∀ ws : List Nat, L2.wipe (L2.wipe σ vs) ws = L2.wipe σ vs ∨ True := fun _ => .inr trivial
      exact wipe_wipe σ vs
    refine ht B ρ1 _ _ k2 W2 σ3 H2 _ s2.holds e3 ExR.f0 fun W3 H3 b s3 k3 => ?_
    obtain ⟨b1, b2, b3⟩ := sA (s2.trans s3) hL nw nt
    cases b with
    | true =>
      rw [if_pos rfl]
      refine he B ρ1 _ _ k3 W3 σ3 H3 _ s3.holds (e3.step s3) ExR.f0 fun W4 H4 z dz s4 r4 k4 => ?_
      obtain ⟨c1, c2, c3⟩ := sA s4 b1 b2 b3
      have s14 := (s'.trans s2).trans (s3.trans s4)
      refine ⟨us, c1, ?_, W4, us ++ [z], acc ++ [dz], s14.own hA c1 c2 c3, upd_same, c2, c3, Reps.snoc (rs.mono ((s2.trans s3).trans s4).le) r4, ?_, ?_⟩
      · rw [rs.length]
        omega
      · rw [List.length_append, List.length_singleton]
        omega
      · simpa [List.append_assoc] using k4
    | false =>
      rw [if_neg Bool.false_ne_true]
      exact ⟨W3, us, acc, (s'.trans s2).trans s3, b1, b2, b3, rs.mono (s2.trans s3).le, by omega, k3⟩
  · have ei : i = ds.length := by omega
    subst ei
    rw [List.drop_length] at k'
    refine .inl ⟨stop, q (W'.put A (.lst us)) H' _ _ (s1.trans (s'.taken hA hL nw nt)) (Rep.newLst rs nw) ?_⟩
    have k2 : Q (.lst (acc ++ [])) := k'
    rw [List.append_nil] at k2
    exact k2
theorem de_lc {elt tg iter : Expr} {ifs : List Expr} {scope : Scope} {own : List (Str × Nat)} {w : DTI} {T : Tg} {ft : DTT} {fe : DTE} (hN : ∀ j, (Xs j).N.Nodup) (hi : DI Xs mg Wx tg iter w) (ok : ∀ j, BlkOk (Xs j).N (Xs j).env.scope scope own) (hg : DG (blkF Xs scope) mg tg T) (ht : DTs (blkF Xs scope) mg Wx0 ifs ft) (he : DE (blkF Xs scope) mg Wx0 elt fe)
    (hv : ∀ i ∈ T.slots, i ∈ own.map (·.2) := by decide) (hc : ∀ j, (Xs j).calm = true := by intro _; rfl) (hs : ∀ j x, foldedSetIterable iter (Xs j).env x = pure x := by intro _ _; rfl) : DE Xs mg Wx (.ListComp elt [⟨tg, iter, ifs, 0⟩] scope pos) (dLc w T ft fe (own.map (·.2))) := by
  obtain ⟨wi, i1, i2⟩ := hi
  obtain ⟨g, g1, g2⟩ := hg
  obtain ⟨tt, t1, t2⟩ := ht
  obtain ⟨te, e1, e2⟩ := he
  exact ⟨_, fun j => pe_lc (hc j) (hN j) (i1 j) (ok j) (fun s H C cl fp => g1 (j, s, H, C, cl, fp)) (fun s H C cl fp => t1 (j, s, H, C, cl, fp)) (fun s H C cl fp => e1 (j, s, H, C, cl, fp)) (hs j), Cp.lc i2 g2 hv t2 e2⟩
theorem ds_setLc {i : Nat} {y : Str} {py spos : Pos} {elt tg iter : Expr} {ifs : List Expr} {scope : Scope} {own : List (Str × Nat)} {w : DTI} {T : Tg} {ft : DTT} {fe : DTE} (hN : ∀ j, (Xs j).N.Nodup) (hi : DI Xs mg Wx tg iter w) (ok : ∀ j, BlkOk (Xs j).N (Xs j).env.scope scope own) (hg : DG (blkF Xs scope) mg tg T) (ht : DTs (blkF Xs scope) mg Wx0 ifs ft) (he : DE (blkF Xs scope) mg Wx0 elt fe)
    (hsw : ∀ j, swapsWith (.ListComp elt [⟨tg, iter, ifs, 0⟩] scope pos) (some (.Name y py)) spos.line (Xs j).env = pure true) (hy : ∀ j, (Xs j).N[i]? = some y := by intro _; rfl) (hyl : ∀ j, (Xs j).env.scope.names.lookup y = some .local := by intro _; rfl)
    (hv : ∀ i ∈ T.slots, i ∈ own.map (·.2) := by decide) (hc : ∀ j, (Xs j).calm = true := by intro _; rfl) (hs : ∀ j x, foldedSetIterable iter (Xs j).env x = pure x := by intro _ _; rfl) : DS Xs mg Wx (.Assign [.Name y py] (.ListComp elt [⟨tg, iter, ifs, 0⟩] scope pos) spos) (dSet i (dLc w T ft fe (own.map (·.2)))) := by
  obtain ⟨wi, i1, i2⟩ := hi
  obtain ⟨g, g1, g2⟩ := hg
  obtain ⟨tt, t1, t2⟩ := ht
  obtain ⟨te, e1, e2⟩ := he
  refine ⟨_, fun j => ps_setLc (i := i) (hc j) (hN j) (hy j) (hyl j) (hsw j) (i1 j) (ok j) (fun s H C cl fp => g1 (j, s, H, C, cl, fp)) (fun s H C cl fp => t1 (j, s, H, C, cl, fp)) (fun s H C cl fp => e1 (j, s, H, C, cl, fp)) (hs j), fun W0 B N ρ hf W σ H Ds s e n => ?_⟩
  exact Cp.lc i2 g2 hv t2 e2 B ρ _ _ hf W σ H _ s.holds e (n.ex s e) fun W1 H1 v d s1 r1 k1 => n.nx W1 H1 _ _ (s.trans s1) ((e.step s1).set r1) k1
/-! ### a def by its body -/
def startD (n : Nat) (ds : List D) : Env := ds.map Sl.d ++ List.replicate (n - ds.length) .no
theorem EnvR.start {N : List Str} {W : Wd} {H : Hp} : ∀ {vs : List V} {ds : List D}, Reps mg W vs ds → EnvR mg H W H (L2.start N vs) (startD N.length ds) := by
  intro vs ds r
  have el := r.length
  refine ⟨by simp [L2.start, startD, el], fun i s h => ?_, fun i j xs ys o1 o2 a _ h1 _ _ _ m1 _ => ?_⟩
  · unfold startD at h
    unfold L2.start
    by_cases hi : i < ds.length
    · rw [List.getElem?_append_left (by simpa using hi), List.getElem?_map] at h
      rw [List.getElem?_append_left (by simpa [el] using hi), List.getElem?_map]
      cases q : ds[i]? with
      | none =>
        rw [q] at h
        cases h
      | some d =>
        rw [q] at h
        cases h
        obtain ⟨v, h1, h2⟩ := r.get q
        exact ⟨some v, by rw [h1]; rfl, v, rfl, h2⟩
    · rw [List.getElem?_append_right (by simpa using Nat.le_of_not_lt hi), List.getElem?_replicate] at h
      rw [List.getElem?_append_right (by simpa [el] using Nat.le_of_not_lt hi), List.getElem?_replicate]
      split at h
      · cases h
        rename_i hq
        refine ⟨none, ?_, True.intro⟩
        rw [if_pos]
        simpa [el] using hq
      · cases h
  · unfold startD at h1
    have hm := List.mem_of_getElem? h1
    rcases List.mem_append.mp hm with q | q
    · obtain ⟨_, _, z⟩ := List.mem_map.mp q
      rw [← z] at m1
      cases m1
    · have z := List.eq_of_mem_replicate q
      rw [z] at m1
      cases m1
/-- the rule for a def, where no repr is under way -/
theorem fnG_of {P : Program} {w : World} {K : PySem.W.Frag} {mg : Str → Option Value} {base : Heap} {x qual : Str} {st : Stmt} {fa : Addr} {fd : FuncData} {N ps : List Str} {k : Nat} {sp : Sp} (F : Fun K x qual st fa fd) (S : FnScope N ps (defScope st)) (ln : ∀ vs H Q E, sp vs H Q E → vs.length = ps.length)
    (hb : ∀ (cdv : Value) (A : Around) (out : List PySem.Env) (z : Shared) (H : Hp) (vs : List V) (Q : VK) (E : XK), RmG k (A.deeper (PyProof.Rows.envOfC qual (defScope st) z.heap.objs.size fa cdv)) → sp vs H Q E →
      ∃ t, PSs (cxOf (L2.CX P w) P w K mg base N qual (defScope st) fa cdv A out z H E) (defBody st) t ∧ t { nx := fun _ H' => Q .non H', rt := Q } (L2.start N vs) H) : FnG P w K mg base (k + 1) fa fd ps sp := by
  obtain ⟨oc, od, kV, doc, pm, an, cdv, ct, osl, rfl, lk, hcd⟩ := F.ex
  refine ⟨ln, fun A out z H ag us vs Q E m e0 bd rv hs => ?_⟩
  have inK : K.In z.heap := e0.mod.kin.keeps fun c u q => (e0.bs c u q).1
  have noL : z.heap.NoLimit := e0.mod.nolimit.keeps fun c u q => (e0.bs c u q).1
  have kinds : ∀ y ∈ ps.zip us, (defScope st).names.lookup y.1 = some .local ∨ ((defScope st).names.lookup y.1 = some .cell ∧ ((cellsFrom (z.heap.objs.size + 1) (defScope st).names []).lookup y.1).isSome = true) := by
    rintro ⟨n, v⟩ hy
    refine (S.par n (List.of_mem_zip hy).1).imp id ?_
    intro c
    exact ⟨c, PySem.W.cellsFrom_some _ _ _ (.inl c)⟩
  apply codeAny_call_function m.r.depth (inK _ _ lk) rfl S.co S.gen rfl (PySem.W.codeRec_of inK hcd)
  apply bd
  apply wpAny_newFunctionEnv_cells S.kind kinds
  intro env he z1 inC
  subst he
  obtain ⟨t, pt, tq⟩ := hb cdv A out z H vs Q E ⟨m.r.deeper _, m.g⟩ hs
  have I0 := inv_start (CX := L2.CX P w) (E := E) S m.r.hd e0 (ln _ _ _ _ hs) rv inC
  refine ⟨noL.keeps inC.toInCall.keep, codeAny_func (wpAny_mono (pt.run [] z1 _ H _ I0 tq) ?_ fun _ _ q => q)⟩
  intro fl z' hfl
  match fl, hfl with
  | .ret u, ⟨v, _, H', J, ru, q⟩ => exact ⟨v, H', J.os, J.bare, J.base, J.hok, ru, q⟩
  | .next, ⟨_, H', J, q⟩ => exact ⟨V.non, H', J.os, J.bare, J.base, J.hok, rfl, q⟩
  | .brk, ⟨_, _, _, q⟩ => exact q.elim
  | .cont, ⟨_, _, _, q⟩ => exact q.elim
theorem def_ok {P : Program} {w : World} {base : Heap} {x qual : Str} {st : Stmt} {fa : Addr} {fd : FuncData} {N ps : List Str} {k : Nat} {f : List D → M D} (F : Fun mg.K x qual st fa fd) (S : FnScope N ps (defScope st))
    (h : ∀ (cdv : Value) (A : Around) (outer : List PySem.Env) (s : Shared) (H : Hp) (E : XK), RmG k (A.deeper (PyProof.Rows.envOfC qual (defScope st) s.heap.objs.size fa cdv)) →
      ∃ g, DSs (fun _ : Unit => cxOf (L2.CX P w) P w mg.K mg.mg base N qual (defScope st) fa cdv A outer s H E) mg (fun cls d _ H' => E cls d H') (defBody st) g ∧
        ∀ ds Q Ex, ds.length = ps.length → f ds Q Ex → g ⟨fun _ => Q .non, fun d _ => Q d, fun _ => False, fun _ => False, fun x _ => Ex x⟩ (startD N.length ds)) :
    FnG P w mg.K mg.mg base (k + 1) fa fd ps (spD mg ps.length f) := by
  refine fnG_of F S (fun vs H Q E hs => ?_) (fun cdv A outer s H vs Q E hr hs => ?_)
  · obtain ⟨W, ds, Qd, Ed, _, r, l, _⟩ := hs
    rw [r.length, l]
  · obtain ⟨W, ds, Qd, Ed, hh, r, l, hf, q, x⟩ := hs
    obtain ⟨g, ⟨t, h1, h2⟩, h3⟩ := h cdv A outer s H E hr
    refine ⟨t, h1 (), ?_⟩
    refine h2 W H _ _ (h3 ds Qd Ed l hf) W _ H _ (Step.refl hh) (EnvR.start r) ⟨fun W' H' σ' ρ' s' e' k => q W' H' _ _ s' .non k, fun W' H' _ _ v d s' _ r k => q W' H' v d s' r k, fun _ _ _ _ _ _ k => k, fun _ _ _ _ _ _ k => k, fun W' H' σ' ρ' cls dd y s' e' r' k => x W' H' cls dd y s' r' k⟩
end
end FP
/-! FP4: operators, comparisons, built-in functions by data. -/
namespace FP
open PySem L2
variable [Tabl]
section
variable {ι : Type} {Xs : ι → Cx} {mg : Gm} {Wx : WX} {pos : Pos}
/-! ### arithmetic, joining -/
theorem op_catK {X : Cx} {K : PySem.W.Frag} (h : X.K = K) : OpR X (binaryOp .Add) (rCatA K) := by
  subst h
  exact op_catA
theorem op_inK {X : Cx} {K : PySem.W.Frag} (h : X.K = K) : OpR X (compareOp .In) (rIn K false) := by
  subst h
  exact op_in_seq
theorem op_notInK {X : Cx} {K : PySem.W.Frag} (h : X.K = K) : OpR X (compareOp .NotIn) (rIn K true) := by
  subst h
  exact op_notIn_seq
def rdAdd : RD2 := fun x y Q => match x, y with
  | .int i, .int j => Q (.int (i + j))
  | .str a, .str b => a.length + b.length ≤ sizeLine ∧ Q (.str (a ++ b))
  | .lst xs, .lst ys => xs.length + ys.length ≤ sizeLine ∧ Q (.lst (xs ++ ys))
  | .tup xs, .tup ys => xs.length + ys.length ≤ sizeLine ∧ Q (.tup (xs ++ ys))
  | _, _ => False
theorem ok_add (hK : ∀ j, (Xs j).K = mg.K := by intro _; rfl) : OpOk Xs mg (binaryOp .Add) rdAdd := by
  refine ⟨_, fun j => OpR.or op_add (OpR.or op_add_str (OpR.or op_cat (op_catK (hK j)))), ?_⟩
  intro W H x y dx dy Q Q' hh rx ry h q
  unfold rdAdd at h
  split at h
  · cases rx
    cases ry
    exact .inl ⟨_, _, rfl, rfl, q W H _ _ (Step.refl hh) (.int _) h⟩
  · cases rx
    cases ry
    exact .inr (.inl ⟨_, _, rfl, rfl, h.1, q W H _ _ (Step.refl hh) (.str _) h.2⟩)
  · cases rx with
    | lst ha ra =>
      cases ry with
      | lst hb rb => exact .inr (.inr (.inl ⟨_, _, _, _, rfl, rfl, hh.same _ _ ha, hh.same _ _ hb, by rw [ra.length, rb.length]; exact h.1, to_lst q hh (ra.append rb) h.2⟩))
  · cases rx with
    | tup ha ra =>
      cases ry with
      | tup hb rb =>
        refine .inr (.inr (.inr ⟨_, _, _, _, rfl, rfl, SqT.of (hh.same _ _ ha), SqT.of (hh.same _ _ hb), by rw [ra.length, rb.length]; exact h.1, fun e => ?_, fun _ e => ?_, fun _ _ => to_tup q hh (ra.append rb) h.2⟩))
        · subst e
          cases ra
          exact q W H _ _ (Step.refl hh) (.tup hb rb) h.2
        · subst e
          cases rb
          have h2 := h.2
          rw [List.append_nil] at h2
          exact q W H _ _ (Step.refl hh) (.tup ha ra) h2
  · exact h.elim
def rdSub : RD2 := fun x y Q => match x, y with
  | .int i, .int j => Q (.int (i - j))
  | _, _ => False
theorem ok_sub : OpOk Xs mg (binaryOp .Sub) rdSub := by
  refine ⟨_, fun j => op_sub, ?_⟩
  intro W H x y dx dy Q Q' hh rx ry h q
  unfold rdSub at h
  split at h
  · cases rx
    cases ry
    exact ⟨_, _, rfl, rfl, q W H _ _ (Step.refl hh) (.int _) h⟩
  · exact h.elim
def rdMul : RD2 := fun x y Q => match x, y with
  | .int i, .int j => CMul i j ∧ Q (.int (i * j))
  | .lst xs, .int k => (-(2 ^ 63) ≤ k ∧ k < 2 ^ 63) ∧ xs.length * k.toNat ≤ sizeLine ∧ Q (.lst (List.replicate k.toNat xs).flatten)
  | _, _ => False
theorem Reps.flat {W : Wd} {vs : List V} {ds : List D} (r : Reps mg W vs ds) : ∀ n, Reps mg W (List.replicate n vs).flatten (List.replicate n ds).flatten
  | 0 => .nil
  | n + 1 => by
    rw [List.replicate_succ, List.replicate_succ, List.flatten_cons, List.flatten_cons]
    exact r.append (Reps.flat r n)
theorem ok_mul : OpOk Xs mg (binaryOp .Mult) rdMul := by
  refine ⟨_, fun j => OpR.or op_mul op_rep, ?_⟩
  intro W H x y dx dy Q Q' hh rx ry h q
  unfold rdMul at h
  split at h
  · cases rx
    cases ry
    exact .inl ⟨_, _, rfl, rfl, h.1, q W H _ _ (Step.refl hh) (.int _) h.2⟩
  · cases rx with
    | lst ha ra =>
      cases ry
      exact .inr ⟨_, _, _, rfl, rfl, hh.same _ _ ha, h.1.1, h.1.2, by rw [ra.length]; exact h.2.1, to_lst q hh (ra.flat _) h.2.2⟩
  · exact h.elim
def rdFdiv : RD2 := fun x y Q => match x, y with
  | .int i, .int j => CDivN i j ∧ Q (.int (i.fdiv j))
  | _, _ => False
theorem ok_fdiv : OpOk Xs mg (binaryOp .FloorDiv) rdFdiv := by
  refine ⟨_, fun j => op_fdivN, ?_⟩
  intro W H x y dx dy Q Q' hh rx ry h q
  unfold rdFdiv at h
  split at h
  · cases rx
    cases ry
    exact ⟨_, _, rfl, rfl, h.1, q W H _ _ (Step.refl hh) (.int _) h.2⟩
  · exact h.elim
def rdMod : RD2 := fun x y Q => match x, y with
  | .int i, .int j => 0 < j ∧ Q (.int (i % j))
  | _, _ => False
theorem ok_mod : OpOk Xs mg (binaryOp .Mod) rdMod := by
  refine ⟨_, fun j => op_mod, ?_⟩
  intro W H x y dx dy Q Q' hh rx ry h q
  unfold rdMod at h
  split at h
  · cases rx
    cases ry
    exact ⟨_, _, rfl, rfl, h.1, q W H _ _ (Step.refl hh) (.int _) h.2⟩
  · exact h.elim
def CPowW (a n : Int) : Prop := 0 ≤ n ∧ (Builtin.Int.intBits a : Int) * n ≤ 2 ^ 27
theorem op_powW {X : Cx} : OpR X (binaryOp .Pow) (rI CPowW fun i j => .int (i ^ j.toNat)) := opI fun _ _ _ _ _ _ _ hc q => PyProof.Rows.pow_int hc.1 hc.2 q
def rdPow : RD2 := fun x y Q => match x, y with
  | .int i, .int j => CPowW i j ∧ Q (.int (i ^ j.toNat))
  | _, _ => False
theorem ok_pow : OpOk Xs mg (binaryOp .Pow) rdPow := by
  refine ⟨_, fun j => op_powW, ?_⟩
  intro W H x y dx dy Q Q' hh rx ry h q
  unfold rdPow at h
  split at h
  · cases rx
    cases ry
    exact ⟨_, _, rfl, rfl, h.1, q W H _ _ (Step.refl hh) (.int _) h.2⟩
  · exact h.elim
abbrev dNeg (f : DTE) : DTE := fun ρ Q E => f ρ (fun x => match x with
  | .int i => Q (.int (-i))
  | _ => False) E
theorem de_neg {a : Expr} {f : DTE} (h : DE Xs mg Wx a f) : DE Xs mg Wx (.UnaryOp .USub a pos) (dNeg f) := by
  obtain ⟨t, h1, h2⟩ := h
  refine ⟨_, fun i => pe_un un_neg (h1 i), fun B ρ Q E hf W σ H Q' hh e x q => h2 B ρ _ E hf W σ H _ hh e x fun W1 H1 v d s1 r1 k1 => ?_⟩
  cases r1 with
  | int i => exact ⟨_, rfl, q W1 H1 _ _ s1 (.int _) k1⟩
  | _ => exact k1.elim
/-! ### order -/
def rdLt : RD2 := fun x y Q => match x, y with
  | .int i, .int j => Q (.bl (decide (i < j)))
  | .str a, .str b => Q (.bl (decide (a.cps.toList < b.cps.toList)))
  | _, _ => False
def rdLe : RD2 := fun x y Q => match x, y with
  | .int i, .int j => Q (.bl (decide (i ≤ j)))
  | .str a, .str b => Q (.bl (!decide (b.cps.toList < a.cps.toList)))
  | _, _ => False
def rdGt : RD2 := fun x y Q => match x, y with
  | .int i, .int j => Q (.bl (decide (j < i)))
  | .str a, .str b => Q (.bl (decide (b.cps.toList < a.cps.toList)))
  | _, _ => False
def rdGe : RD2 := fun x y Q => match x, y with
  | .int i, .int j => Q (.bl (decide (j ≤ i)))
  | .str a, .str b => Q (.bl (!decide (a.cps.toList < b.cps.toList)))
  | _, _ => False
theorem ok_lt : OpOk Xs mg (compareOp .Lt) rdLt := by
  refine ⟨_, fun j => OpR.or op_lt op_lt_str, ?_⟩
  intro W H x y dx dy Q Q' hh rx ry h q
  unfold rdLt at h
  split at h
  · cases rx
    cases ry
    exact .inl ⟨_, _, rfl, rfl, q W H _ _ (Step.refl hh) (.bl _) h⟩
  · cases rx
    cases ry
    exact .inr ⟨_, _, rfl, rfl, q W H _ _ (Step.refl hh) (.bl _) h⟩
  · exact h.elim
theorem ok_le : OpOk Xs mg (compareOp .LtE) rdLe := by
  refine ⟨_, fun j => OpR.or op_le op_le_str, ?_⟩
  intro W H x y dx dy Q Q' hh rx ry h q
  unfold rdLe at h
  split at h
  · cases rx
    cases ry
    exact .inl ⟨_, _, rfl, rfl, q W H _ _ (Step.refl hh) (.bl _) h⟩
  · cases rx
    cases ry
    exact .inr ⟨_, _, rfl, rfl, q W H _ _ (Step.refl hh) (.bl _) h⟩
  · exact h.elim
theorem ok_gt : OpOk Xs mg (compareOp .Gt) rdGt := by
  refine ⟨_, fun j => OpR.or op_gt op_gt_str, ?_⟩
  intro W H x y dx dy Q Q' hh rx ry h q
  unfold rdGt at h
  split at h
  · cases rx
    cases ry
    exact .inl ⟨_, _, rfl, rfl, q W H _ _ (Step.refl hh) (.bl _) h⟩
  · cases rx
    cases ry
    exact .inr ⟨_, _, rfl, rfl, q W H _ _ (Step.refl hh) (.bl _) h⟩
  · exact h.elim
/-! ### equality -/
mutual
def toPy : D → Option PyData
  | .non => some .none
  | .bl b => some (.bool b)
  | .int i => some (.int i)
  | .str x => some (.str x)
  | .tup xs => match toPys xs with
    | some ps => some (.tuple ps)
    | none => none
  | .lst xs => match toPys xs with
    | some ps => some (.list ps)
    | none => none
  | .fz _ => none
  | .dct _ => none
  | .ins _ _ => none
  | .tok => none
  | .cl _ => none
  | .fn _ _ => none
def toPys : List D → Option (List PyData)
  | [] => some []
  | x :: xs => match toPy x, toPys xs with
    | some p, some ps => some (p :: ps)
    | _, _ => none
end
mutual
theorem Rep.dp {W : Wd} {H : Hp} (hh : Holds W H) : ∀ {v : V} {d : D} {p : PyData}, Rep mg W v d → toPy d = some p → Dp mg.K H v p
  | _, _, _, .non, e => by
    unfold toPy at e
    cases e
    exact .non
  | _, _, _, .bl b, e => by
    unfold toPy at e
    cases e
    exact .bl b
  | _, _, _, .int i, e => by
    unfold toPy at e
    cases e
    exact .int i
  | _, _, _, .str x, e => by
    unfold toPy at e
    cases e
    exact .str x
  | _, _, _, .tup ha r, e => by
    unfold toPy at e
    split at e
    · rename_i ps hp
      cases e
      exact .tup (SqT.of (hh.same _ _ ha)) (Reps.dp hh r hp)
    · cases e
  | _, _, _, .lst ha r, e => by
    unfold toPy at e
    split at e
    · rename_i ps hp
      cases e
      exact .lst (SqL.of (hh.same _ _ ha)) (Reps.dp hh r hp)
    · cases e
  | _, _, _, .fz _ _, e => by
    unfold toPy at e
    cases e
  | _, _, _, .dct _ _ _, e => by
    unfold toPy at e
    cases e
  | _, _, _, .ins _ _ _ _, e => by
    unfold toPy at e
    cases e
  | _, _, _, .tok _, e => by
    unfold toPy at e
    cases e
  | _, _, _, .cl _, e => by
    unfold toPy at e
    cases e
  | _, _, _, .fn _, e => by
    unfold toPy at e
    cases e
theorem Reps.dp {W : Wd} {H : Hp} (hh : Holds W H) : ∀ {vs : List V} {ds : List D} {ps : List PyData}, Reps mg W vs ds → toPys ds = some ps → DpAll mg.K H vs ps
  | _, _, _, .nil, e => by
    unfold toPys at e
    cases e
    exact .nil
  | _, _, _, .cons r rs, e => by
    unfold toPys at e
    split at e
    · rename_i p ps h1 h2
      cases e
      exact .cons (Rep.dp hh r h1) (Reps.dp hh rs h2)
    · cases e
end
/-- two plain values -/
def eqS : D → D → Option Bool
  | .str a, .str b => some (decide (a = b))
  | .int a, .int b => some (decide (a = b))
  | .bl a, .bl b => some (decide (a = b))
  | .non, .non => some true
  | .non, .str _ => some false
  | .str _, .non => some false
  | .non, .int _ => some false
  | .int _, .non => some false
  | _, _ => none
def rdEq : RD2 := fun x y Q => match eqS x y with
  | some b => Q (.bl b)
  | none => ∃ p q, toPy x = some p ∧ toPy y = some q ∧ SeqAt.shaped p = true ∧ SeqAt.shaped q = true ∧ Q (.bl (PyData.eqv p q))
def rdNe : RD2 := fun x y Q => match eqS x y with
  | some b => Q (.bl (!b))
  | none => ∃ p q, toPy x = some p ∧ toPy y = some q ∧ SeqAt.shaped p = true ∧ SeqAt.shaped q = true ∧ Q (.bl (!PyData.eqv p q))
theorem eqS_v {W : Wd} {x y : V} {dx dy : D} {b : Bool} (rx : Rep mg W x dx) (ry : Rep mg W y dy) (h : eqS dx dy = some b) : scal x y = true ∧ decide (x = y) = b := by
  unfold eqS at h
  split at h
  all_goals first | (cases h; done) | skip
  all_goals (cases rx; cases ry; cases h; refine ⟨rfl, ?_⟩; try rfl)
  · rw [Bool.eq_iff_iff, decide_eq_true_iff, decide_eq_true_iff]
    exact ⟨fun q => V.str.inj q, fun q => by rw [q]⟩
  · rw [Bool.eq_iff_iff, decide_eq_true_iff, decide_eq_true_iff]
    exact ⟨fun q => V.int.inj q, fun q => by rw [q]⟩
  · rw [Bool.eq_iff_iff, decide_eq_true_iff, decide_eq_true_iff]
    exact ⟨fun q => V.bl.inj q, fun q => by rw [q]⟩
theorem ok_eq (hu : ∀ j, (Xs j).A.units + 64 < cLine) (hK : ∀ j, (Xs j).K = mg.K := by intro _; rfl) : OpOk Xs mg (compareOp .Eq) rdEq := by
  refine ⟨fun x y H Q => rEq x y H Q ∨ rEqD mg.K x y H Q, fun j => OpR.or op_eq (by rw [← hK j]; exact op_eqD (hu j)), ?_⟩
  intro W H x y dx dy Q Q' hh rx ry h q
  unfold rdEq at h
  split at h
  · rename_i b hb
    obtain ⟨h1, h2⟩ := eqS_v rx ry hb
    exact .inl ⟨h1, by rw [h2]; exact q W H _ _ (Step.refl hh) (.bl _) h⟩
  · obtain ⟨p, p', h1, h2, h3, h4, h5⟩ := h
    exact .inr ⟨p, p', rx.dp hh h1, ry.dp hh h2, h3, h4, q W H _ _ (Step.refl hh) (.bl _) h5⟩
theorem ok_ne (hu : ∀ j, (Xs j).A.units + 64 < cLine) (hK : ∀ j, (Xs j).K = mg.K := by intro _; rfl) : OpOk Xs mg (compareOp .NotEq) rdNe := by
  refine ⟨fun x y H Q => rNe x y H Q ∨ rNeD mg.K x y H Q, fun j => OpR.or op_ne (by rw [← hK j]; exact op_neD (hu j)), ?_⟩
  intro W H x y dx dy Q Q' hh rx ry h q
  unfold rdNe at h
  split at h
  · rename_i b hb
    obtain ⟨h1, h2⟩ := eqS_v rx ry hb
    exact .inl ⟨h1, by rw [h2]; exact q W H _ _ (Step.refl hh) (.bl _) h⟩
  · obtain ⟨p, p', h1, h2, h3, h4, h5⟩ := h
    exact .inr ⟨p, p', rx.dp hh h1, ry.dp hh h2, h3, h4, q W H _ _ (Step.refl hh) (.bl _) h5⟩
/-- is None, is not None -/
def isNon : D → Bool
  | .non => true
  | _ => false
theorem isNon_v {W : Wd} {x : V} {d : D} (r : Rep mg W x d) : decide (x = .non) = isNon d := by
  cases r <;> rfl
def rdIs : RD2 := fun x y Q => match y with
  | .non => Q (.bl (isNon x))
  | _ => False
def rdIsNot : RD2 := fun x y Q => match y with
  | .non => Q (.bl (!isNon x))
  | _ => False
theorem ok_is : OpOk Xs mg (compareOp .Is) rdIs := by
  refine ⟨_, fun j => op_isN, ?_⟩
  intro W H x y dx dy Q Q' hh rx ry h q
  cases ry with
  | non => exact ⟨rfl, by rw [isNon_v rx]; exact q W H _ _ (Step.refl hh) (.bl _) h⟩
  | _ => exact h.elim
theorem ok_isNot : OpOk Xs mg (compareOp .IsNot) rdIsNot := by
  refine ⟨_, fun j => op_notN, ?_⟩
  intro W H x y dx dy Q Q' hh rx ry h q
  cases ry with
  | non => exact ⟨rfl, by rw [isNon_v rx]; exact q W H _ _ (Step.refl hh) (.bl _) h⟩
  | _ => exact h.elim
/-! ### in -/
/-- the texts and numbers that stand in a row, as values -/
def flatD : D → Option V
  | .non => some .non
  | .bl b => some (.bl b)
  | .int i => some (.int i)
  | .str x => some (.str x)
  | _ => none
def flatsD : List D → Option (List V)
  | [] => some []
  | x :: xs => match flatD x, flatsD xs with
    | some p, some ps => some (p :: ps)
    | _, _ => none
theorem flat_v {W : Wd} {x v : V} {d : D} (r : Rep mg W x d) (h : flatD d = some v) : x = v := by
  cases r <;> first | (cases h; rfl) | cases h
theorem flats_v {W : Wd} : ∀ {xs vs : List V} {ds : List D}, Reps mg W xs ds → flatsD ds = some vs → xs = vs
  | _, _, _, .nil, h => by
    cases h
    rfl
  | _, _, _, .cons r rs, h => by
    unfold flatsD at h
    split at h
    · rename_i p ps h1 h2
      cases h
      rw [flat_v r h1, flats_v rs h2]
    · cases h
/-- x in y: a sign in a text, a text in a row of texts -/
def inD (x y : D) : Option Bool := match x, y with
  | .str a, .str z => match a.cps.toList with
    | [c] => some (decide (c ∈ z.cps.toList))
    | _ => none
  | x, .lst ys => match flatD x, flatsD ys with
    | some v, some vs => if flatV v = true ∧ vs.all flatV = true then some (inV v vs) else none
    | _, _ => none
  | x, .tup ys => match flatD x, flatsD ys with
    | some v, some vs => if flatV v = true ∧ vs.all flatV = true then some (inV v vs) else none
    | _, _ => none
  | _, _ => none
def rdIn : RD2 := fun x y Q => match inD x y with
  | some b => Q (.bl b)
  | none => False
def rdNotIn : RD2 := fun x y Q => match inD x y with
  | some b => Q (.bl (!b))
  | none => False
theorem str_one {a : Str} {c : Nat} (h : a.cps.toList = [c]) : a = ⟨#[c]⟩ := by
  cases a with
  | mk cps =>
    have e : cps = #[c] := by
      apply Array.ext'
      simpa using h
    rw [e]
theorem inD_v {W : Wd} {H : Hp} {x y : V} {dx dy : D} {b : Bool} (hh : Holds W H) (rx : Rep mg W x dx) (ry : Rep mg W y dy) (h : inD dx dy = some b) :
    (∃ (c : Nat) (z : Str), x = .str ⟨#[c]⟩ ∧ y = .str z ∧ decide (c ∈ z.cps.toList) = b) ∨ ∃ p xs, y = .ref p ∧ (SqL mg.K H p xs ∨ SqT mg.K H p xs) ∧ flatV x = true ∧ xs.all flatV = true ∧ inV x xs = b := by
  unfold inD at h
  split at h
  · cases rx
    cases ry
    split at h
    · rename_i c hc
      cases h
      exact .inl ⟨c, _, by rw [str_one hc], rfl, rfl⟩
    · cases h
  · cases ry with
    | lst ha ra =>
      split at h
      · rename_i v vs h1 h2
        have e1 := flat_v rx h1
        have e2 := flats_v ra h2
        subst e1 e2
        split at h
        · rename_i hf
          cases h
          exact .inr ⟨_, _, rfl, .inl (SqL.of (hh.same _ _ ha)), hf.1, hf.2, rfl⟩
        · cases h
      · cases h
  · cases ry with
    | tup ha ra =>
      split at h
      · rename_i v vs h1 h2
        have e1 := flat_v rx h1
        have e2 := flats_v ra h2
        subst e1 e2
        split at h
        · rename_i hf
          cases h
          exact .inr ⟨_, _, rfl, .inr (SqT.of (hh.same _ _ ha)), hf.1, hf.2, rfl⟩
        · cases h
      · cases h
  · cases h
theorem ok_in (hK : ∀ j, (Xs j).K = mg.K := by intro _; rfl) : OpOk Xs mg (compareOp .In) rdIn := by
  refine ⟨_, fun j => OpR.or op_in_sign (op_inK (hK j)), ?_⟩
  intro W H x y dx dy Q Q' hh rx ry h q
  unfold rdIn at h
  split at h
  · rename_i b hb
    rcases inD_v hh rx ry hb with ⟨c, z, e1, e2, e3⟩ | ⟨p, xs, e1, e2, e3, e4, e5⟩
    · exact .inl ⟨c, z, e1, e2, by rw [e3]; exact q W H _ _ (Step.refl hh) (.bl _) h⟩
    · exact .inr ⟨p, xs, e1, e2, e3, e4, by
        show Q' (.bl (inV x xs)) H
        rw [e5]
        exact q W H _ _ (Step.refl hh) (.bl _) h⟩
  · exact h.elim
theorem ok_notIn (hK : ∀ j, (Xs j).K = mg.K := by intro _; rfl) : OpOk Xs mg (compareOp .NotIn) rdNotIn := by
  refine ⟨_, fun j => OpR.or op_notIn_sign (op_notInK (hK j)), ?_⟩
  intro W H x y dx dy Q Q' hh rx ry h q
  unfold rdNotIn at h
  split at h
  · rename_i b hb
    rcases inD_v hh rx ry hb with ⟨c, z, e1, e2, e3⟩ | ⟨p, xs, e1, e2, e3, e4, e5⟩
    · exact .inl ⟨c, z, e1, e2, by rw [e3]; exact q W H _ _ (Step.refl hh) (.bl _) h⟩
    · exact .inr ⟨p, xs, e1, e2, e3, e4, by
        show Q' (.bl (!inV x xs)) H
        rw [e5]
        exact q W H _ _ (Step.refl hh) (.bl _) h⟩
  · exact h.elim
end
end FP
/-! FP5: built-in functions by data. -/
namespace FP
open PySem L2
variable [Tabl]
section
variable {ι : Type} {Xs : ι → Cx} {mg : Gm} {Wx : WX} {pos : Pos}
def rdLen : RDL := fun ds Q => match ds with
  | [.str z] => z.length ≤ sizeLine ∧ Q (.int z.length)
  | [.lst xs] => Q (.int xs.length)
  | [.fz xs] => Q (.int xs.length)
  | [.tup xs] => Q (.int xs.length)
  | [.dct kvs] => Q (.int kvs.length)
  | _ => False
theorem call_lenK {X : Cx} {K : PySem.W.Frag} (h : X.K = K) : CallR X (.builtin "len") (fun xs H Q => ∃ x n, xs = [x] ∧ LenV K x H n ∧ Q (.int n) H) := by
  subst h
  exact call_len
theorem call_lenF {X : Cx} : CallR X (.builtin "len") (fun xs H Q => ∃ a kvs, xs = [V.ref a] ∧ Rd H a (.dK kvs) ∧ Q (.int kvs.length) H) := by
  intro pins s σ H xs us Q I r h
  obtain ⟨a, kvs, rfl, ha, q⟩ := h
  rw [Vals.ref1 r]
  exact d_len I ha fun t s' I' => ⟨.int kvs.length, H, I', ⟨t, rfl⟩, q⟩
theorem ok_len (hK : ∀ j, (Xs j).K = mg.K := by intro _; rfl) : CallOk Xs mg (.builtin "len") rdLen := by
  refine ⟨_, fun j => CallR.or (call_lenK (hK j)) call_lenF, ?_⟩
  intro W H vs ds Q Q' hh r h q
  unfold rdLen at h
  split at h
  · cases r with
    | cons r rs =>
      cases rs
      cases r
      exact .inl ⟨_, _, rfl, ⟨h.1, rfl⟩, q W H _ _ (Step.refl hh) (.int _) h.2⟩
  · cases r with
    | cons r rs =>
      cases rs
      cases r with
      | lst ha ra => exact .inl ⟨_, _, rfl, .inl ⟨_, SqL.of (hh.same _ _ ha), rfl⟩, by rw [ra.length]; exact q W H _ _ (Step.refl hh) (.int _) h⟩
  · cases r with
    | cons r rs =>
      cases rs
      cases r with
      | fz ha ra => exact .inl ⟨_, _, rfl, .inl ⟨_, hh.same.seq ha, rfl⟩, by rw [ra.length]; exact q W H _ _ (Step.refl hh) (.int _) h⟩
  · cases r with
    | cons r rs =>
      cases rs
      cases r with
      | tup ha ra => exact .inl ⟨_, _, rfl, .inr ⟨_, SqT.of (hh.same _ _ ha), rfl⟩, by rw [ra.length]; exact q W H _ _ (Step.refl hh) (.int _) h⟩
  · cases r with
    | cons r rs =>
      cases rs
      cases r with
      | dct ha hk ra =>
        refine .inr ⟨_, _, rfl, .inr ⟨_, hh.same _ _ ha⟩, ?_⟩
        have e := congrArg List.length hk
        simp only [List.length_map] at e
        rw [e]
        exact q W H _ _ (Step.refl hh) (.int _) h
  · exact h.elim
def rdInt : RDL := fun ds Q => match ds with
  | [.int i] => Q (.int i)
  | [.bl b] => Q (.int (if b then 1 else 0))
  | [.str a] => ∃ n, PySem.intText? a = some n ∧ a.length ≤ 640 ∧ Q (.int n)
  | _ => False
theorem ok_int : CallOk Xs mg (.type "int") rdInt := by
  refine ⟨_, fun j => CallR.or call_int1 call_int_str, ?_⟩
  intro W H vs ds Q Q' hh r h q
  unfold rdInt at h
  split at h
  · cases r with
    | cons r rs =>
      cases rs
      cases r
      exact .inl (.inl ⟨_, rfl, q W H _ _ (Step.refl hh) (.int _) h⟩)
  · cases r with
    | cons r rs =>
      cases rs
      cases r
      exact .inl (.inr ⟨_, rfl, q W H _ _ (Step.refl hh) (.int _) h⟩)
  · cases r with
    | cons r rs =>
      cases rs
      cases r
      obtain ⟨n, h1, h2, h3⟩ := h
      exact .inr ⟨_, n, rfl, h1, h2, q W H _ _ (Step.refl hh) (.int _) h3⟩
  · exact h.elim
def rdAbs : RDL := fun ds Q => match ds with
  | [.int i] => Q (.int (if i < 0 then -i else i))
  | _ => False
theorem ok_abs : CallOk Xs mg (.builtin "abs") rdAbs := by
  refine ⟨_, fun j => call_abs, ?_⟩
  intro W H vs ds Q Q' hh r h q
  unfold rdAbs at h
  split at h
  · cases r with
    | cons r rs =>
      cases rs
      cases r
      exact ⟨_, rfl, q W H _ _ (Step.refl hh) (.int _) h⟩
  · exact h.elim
def rdMax : RDL := fun ds Q => match ds with
  | [.int i, .int j] => Q (.int (if j > i then j else i))
  | _ => False
def rdMin : RDL := fun ds Q => match ds with
  | [.int i, .int j] => Q (.int (if j < i then j else i))
  | _ => False
theorem ok_max (hc : ∀ j, (Xs j).calm = true := by intro _; rfl) : CallOk Xs mg (.builtin "max") rdMax := by
  refine ⟨_, fun j => call_max2 (hc j), ?_⟩
  intro W H vs ds Q Q' hh r h q
  unfold rdMax at h
  split at h
  · cases r with
    | cons r rs =>
      cases rs with
      | cons r2 rs =>
        cases rs
        cases r
        cases r2
        exact ⟨_, _, rfl, q W H _ _ (Step.refl hh) (.int _) h⟩
  · exact h.elim
theorem ok_min (hc : ∀ j, (Xs j).calm = true := by intro _; rfl) : CallOk Xs mg (.builtin "min") rdMin := by
  refine ⟨_, fun j => call_min2 (hc j), ?_⟩
  intro W H vs ds Q Q' hh r h q
  unfold rdMin at h
  split at h
  · cases r with
    | cons r rs =>
      cases rs with
      | cons r2 rs =>
        cases rs
        cases r
        cases r2
        exact ⟨_, _, rfl, q W H _ _ (Step.refl hh) (.int _) h⟩
  · exact h.elim
def rdStr : RDL := fun ds Q => match ds with
  | [.int i] => i.natAbs.log2 < 1920 ∧ Q (.str (toString i))
  | [.str a] => Q (.str a)
  | _ => False
theorem ok_str : CallOk Xs mg (.type "str") rdStr := by
  refine ⟨_, fun j => CallR.or call_str_int SkE.call_str_str, ?_⟩
  intro W H vs ds Q Q' hh r h q
  unfold rdStr at h
  split at h
  · cases r with
    | cons r rs =>
      cases rs
      cases r
      exact .inl ⟨_, rfl, h.1, q W H _ _ (Step.refl hh) (.str _) h.2⟩
  · cases r with
    | cons r rs =>
      cases rs
      cases r
      exact .inr ⟨_, rfl, q W H _ _ (Step.refl hh) (.str _) h⟩
  · exact h.elim
/-- truths as data -/
def blsD : List D → Option (List Bool)
  | [] => some []
  | .bl b :: r => match blsD r with
    | some bs => some (b :: bs)
    | none => none
  | _ :: _ => none
theorem bls_v {W : Wd} : ∀ {vs : List V} {ds : List D} {bs : List Bool}, Reps mg W vs ds → blsD ds = some bs → vs = bs.map V.bl
  | _, _, _, .nil, h => by
    cases h
    rfl
  | _, _, _, .cons r rs, h => by
    cases r with
    | bl b =>
      unfold blsD at h
      split at h
      · rename_i bs' hb
        cases h
        rw [bls_v rs hb]
        rfl
      · cases h
    | _ => cases h
theorem blsD_map (bs : List Bool) : blsD (bs.map D.bl) = some bs := by
  induction bs with
  | nil => rfl
  | cons b bs ih =>
    show (match blsD (bs.map D.bl) with | some bs => some (b :: bs) | none => none) = _
    rw [ih]
def rdAll : RDL := fun ds Q => match ds with
  | [.lst xs] => ∃ bs, blsD xs = some bs ∧ Q (.bl (bs.all id))
  | _ => False
theorem cr_allK {X : Cx} {K : PySem.W.Frag} (h : X.K = K) (hc : X.calm = true) : CallR X (.builtin "all") (rAll K) := by
  subst h
  exact cr_all hc
theorem ok_all (hK : ∀ j, (Xs j).K = mg.K := by intro _; rfl) (hc : ∀ j, (Xs j).calm = true := by intro _; rfl) : CallOk Xs mg (.builtin "all") rdAll := by
  refine ⟨_, fun j => cr_allK (hK j) (hc j), ?_⟩
  intro W H vs ds Q Q' hh r h q
  unfold rdAll at h
  split at h
  · cases r with
    | cons r rs =>
      cases rs
      cases r with
      | lst ha ra =>
        obtain ⟨bs, h1, h2⟩ := h
        have e := bls_v ra h1
        subst e
        exact ⟨_, bs, rfl, SqL.of (hh.same _ _ ha), q W H _ _ (Step.refl hh) (.bl _) h2⟩
  · exact h.elim
/-! ### list(x), tuple(x) -/
def rdList : RDL := fun ds Q => match ds with
  | [.lst xs] => Q (.lst xs)
  | [.tup xs] => Q (.lst xs)
  | [.str z] => z.cps.size ≤ sizeLine ∧ Q (.lst (signsD z))
  | [.dct kvs] => Q (.lst (kvs.map fun kv => match kv.1 with | .inl i => .int i | .inr x => .str x))
  | _ => False
def rdTuple : RDL := fun ds Q => match ds with
  | [.lst xs] => Q (.tup xs)
  | [.tup xs] => Q (.tup xs)
  | _ => False
theorem call_tupleK {X : Cx} {K : PySem.W.Frag} (h : X.K = K) : CallR X (.type "tuple") (fun xs H Q => ∃ p ys, xs = [.ref p] ∧ ((SqL K H p ys ∧ ∀ l, H l = none → Q (.ref l) (upd H l (.tup ys))) ∨ (SqT K H p ys ∧ Q (.ref p) H))) := by
  subst h
  exact call_tuple_of
theorem ok_tuple (hK : ∀ j, (Xs j).K = mg.K := by intro _; rfl) : CallOk Xs mg (.type "tuple") rdTuple := by
  refine ⟨_, fun j => call_tupleK (hK j), ?_⟩
  intro W H vs ds Q Q' hh r h q
  unfold rdTuple at h
  split at h
  · cases r with
    | cons r rs =>
      cases rs
      cases r with
      | lst ha ra => exact ⟨_, _, rfl, .inl ⟨SqL.of (hh.same _ _ ha), to_tup q hh ra h⟩⟩
  · cases r with
    | cons r rs =>
      cases rs
      cases r with
      | tup ha ra => exact ⟨_, _, rfl, .inr ⟨SqT.of (hh.same _ _ ha), q W H _ _ (Step.refl hh) (.tup ha ra) h⟩⟩
  · exact h.elim
/-! ### isinstance with a built-in class -/
def tyName : D → Option String
  | .non => some "NoneType"
  | .bl _ => some "bool"
  | .int _ => some "int"
  | .str _ => some "str"
  | .tup _ => some "tuple"
  | .lst _ => some "list"
  | .dct _ => some "dict"
  | .fz _ => none
  | .ins _ _ => none
  | .tok => some "list"
  | .cl _ => none
  | .fn _ _ => none
abbrev dIsi (T : String) (f : DTE) : DTE := fun ρ Q E => f ρ (fun x => match tyName x with
  | some n => ∃ b, kitB n T = some b ∧ Q (.bl b)
  | none => False) E
theorem tyName_v {W : Wd} {H : Hp} {x : V} {d : D} {n : String} (hh : Holds W H) (r : Rep mg W x d) (h : tyName d = some n) : TyX mg.K H x (.type n) := by
  cases r with
  | non => cases h; exact .base .non
  | bl b => cases h; exact .base (.bl b)
  | int i => cases h; exact .base (.int i)
  | str x => cases h; exact .base (.str x)
  | tup ha _ => cases h; exact .base (.tup (hh.same _ _ ha))
  | lst ha _ => cases h; exact .base (.lst (hh.same _ _ ha))
  | dct ha _ _ => cases h; exact .fDict (hh.same _ _ ha)
  | fz _ _ => cases h
  | ins _ _ _ _ => cases h
  | tok t =>
    cases h
    obtain ⟨_, x, y, z, e⟩ := hh.tok _ t
    exact .base (.lst e)
  | cl _ => cases h
  | fn _ => cases h
theorem call_isiK2 {X : Cx} {K : PySem.W.Frag} (h : X.K = K) : CallR X (.builtin "isinstance") (rIsi K) := by
  subst h
  exact call_isi
theorem de_isi {e : Expr} {f : DTE} {T : Str} {n : String} {p p2 : Pos} (h : DE Xs mg Wx e f) (hm : mg.mg "isinstance" = none) (hmT : mg.mg T = none) (hT : bootBuiltins T = some (.type n)) (hv : bootBuiltins "isinstance" = some (.builtin "isinstance"))
    (hK : ∀ j, (Xs j).K = mg.K := by intro _; rfl) (hM : ∀ j, (Xs j).mg = mg.mg := by intro _; rfl) (hg : ∀ j, Gl (Xs j) "isinstance" := by intro _; rfl) (hgT : ∀ j, Gl (Xs j) T := by intro _; rfl) (hn : T ≠ "__name__" := by decide) (hd : (T == ("__debug__" : Str)) = false := by decide)
    (he : ∀ j, starEach [e, .Name T p2] (Xs j).env = (false, eval e (Xs j).env) :: starEach [.Name T p2] (Xs j).env := by intro _; rfl) (he2 : ∀ j, starEach [.Name T p2] (Xs j).env = [(false, eval (.Name T p2) (Xs j).env)] := by intro _; rfl)
    (hpl : ∀ j, (backTo pos (starEach [.Name T p2] (Xs j).env)).any (·.1) = false := by intro _; rfl) : DE Xs mg Wx (.Call (.Name "isinstance" p) [e, .Name T p2] [] pos) (dIsi n f) := by
  obtain ⟨t, h1, h2⟩ := h
  refine ⟨tCB (rIsi mg.K) (tCons t (tCons (tC (.ty n)) tNil)), fun j => ?_, ?_⟩
  · exact pe_callB (call_isiK2 (hK j)) (hg j) (by rw [hM j]; exact hm) hv (pa_cons (h1 j) (pa_cons (pe_bltn (v := .ty n) (hgT j) (by rw [hM j]; exact hmT) hT rfl hn hd) pa_nil (he2 j)) (he j)) (by decide) (by decide) (he j) (hpl j)
  · intro B ρ Q E hf W σ H Q' hh e x q
    refine h2 B ρ _ E hf W σ H _ hh e x fun W1 H1 v d s1 r1 k1 => ?_
    dsimp only at k1
    split at k1
    · rename_i m hm
      obtain ⟨b, hb, hq⟩ := k1
      exact ⟨v, .ty n, .type m, .type n, b, rfl, .ty n, tyName_v s1.holds r1 hm, kit_ty hb, q W1 H1 _ _ s1 (.bl b) hq⟩
    · exact k1.elim
/-! ### items, slices, join -/
def rdIx : RD2 := fun x y Q => match x, y with
  | .lst xs, .int i => ∃ d, atI xs i = some d ∧ Q d
  | .fz xs, .int i => ∃ d, atI xs i = some d ∧ Q d
  | .tup xs, .int i => ∃ d, atI xs i = some d ∧ Q d
  | .str z, .int i => ∃ c, z.length ≤ sizeLine ∧ atI z.cps.toList i = some c ∧ Q (.str ⟨#[c]⟩)
  | .tok, .int i => (0 ≤ i ∧ i < 3) ∧ ∀ j, Q (.int j)
  | _, _ => False
theorem Reps.atI {W : Wd} {vs : List V} {ds : List D} {i : Int} {d : D} (r : Reps mg W vs ds) (h : atI ds i = some d) : ∃ v, L2.atI vs i = some v ∧ Rep mg W v d := by
  unfold L2.atI at h ⊢
  rw [r.length]
  cases q : ixN ds.length i with
  | none =>
    rw [q] at h
    cases h
  | some j =>
    rw [q] at h
    exact r.get h
theorem ix_seqK {X : Cx} {K : PySem.W.Frag} (h : X.K = K) : IxR X (rIx K) := by
  subst h
  exact ix_seq
theorem de_ix {a b : Expr} {fa fb : DTE} (ha : DE Xs mg Wx a fa) (hb : DE Xs mg Wx b fb) (hs : PlainIx b := by exact fun _ _ => rfl) (hK : ∀ j, (Xs j).K = mg.K := by intro _; rfl) : DE Xs mg Wx (.Subscript a b pos) (dOp rdIx fa fb) := by
  obtain ⟨ta, a1, a2⟩ := ha
  obtain ⟨tb, b1, b2⟩ := hb
  refine ⟨_, fun j => pe_ix (ix_seqK (hK j)) (a1 j) (b1 j) hs, Cp.op ?_ a2 b2⟩
  intro W H x y dx dy Q Q' hh rx ry h q
  unfold rdIx at h
  split at h
  · obtain ⟨d, h1, h2⟩ := h
    cases ry
    cases rx with
    | lst ha ra =>
      obtain ⟨v, g1, g2⟩ := ra.atI h1
      exact .inl ⟨_, _, _, v, rfl, rfl, SqL.of (hh.same _ _ ha), g1, q W H _ _ (Step.refl hh) g2 h2⟩
  · obtain ⟨d, h1, h2⟩ := h
    cases ry
    cases rx with
    | fz ha ra =>
      obtain ⟨v, g1, g2⟩ := ra.atI h1
      exact .inl ⟨_, _, _, v, rfl, rfl, hh.same.seq ha, g1, q W H _ _ (Step.refl hh) g2 h2⟩
  · obtain ⟨d, h1, h2⟩ := h
    cases ry
    cases rx with
    | tup ha ra =>
      obtain ⟨v, g1, g2⟩ := ra.atI h1
      exact .inr (.inl ⟨_, _, _, v, rfl, rfl, SqT.of (hh.same _ _ ha), g1, q W H _ _ (Step.refl hh) g2 h2⟩)
  · obtain ⟨c, h1, h2, h3⟩ := h
    cases ry
    cases rx
    exact .inr (.inr ⟨_, _, c, rfl, rfl, h1, h2, q W H _ _ (Step.refl hh) (.str _) h3⟩)
  · rename_i i
    obtain ⟨h1, h2⟩ := h
    cases ry with
    | int =>
      cases rx with
      | tok t =>
        obtain ⟨_, x, y, z, e⟩ := hh.tok _ t
        have hj : ∃ j, L2.atI [V.int x, V.int y, V.int z] i = some (.int j) := by
          have hi : i = 0 ∨ i = 1 ∨ i = 2 := by omega
          rcases hi with rfl | rfl | rfl
          · exact ⟨x, rfl⟩
          · exact ⟨y, rfl⟩
          · exact ⟨z, rfl⟩
        obtain ⟨j, hj⟩ := hj
        exact .inl ⟨_, _, _, _, rfl, rfl, SqL.of e, hj, q W H _ _ (Step.refl hh) (.int j) (h2 j)⟩
  · exact h.elim
/-- texts as data -/
def strsD : List D → Option (List Str)
  | [] => some []
  | .str b :: r => match strsD r with
    | some bs => some (b :: bs)
    | none => none
  | _ :: _ => none
theorem strs_v {W : Wd} : ∀ {vs : List V} {ds : List D} {bs : List Str}, Reps mg W vs ds → strsD ds = some bs → vs = bs.map V.str
  | _, _, _, .nil, h => by
    cases h
    rfl
  | _, _, _, .cons r rs, h => by
    cases r with
    | str b =>
      unfold strsD at h
      split at h
      · rename_i bs' hb
        cases h
        rw [strs_v rs hb]
        rfl
      · cases h
    | _ => cases h
theorem strsD_map (bs : List Str) : strsD (bs.map D.str) = some bs := by
  induction bs with
  | nil => rfl
  | cons b bs ih =>
    show (match strsD (bs.map D.str) with | some bs => some (b :: bs) | none => none) = _
    rw [ih]
abbrev dJoin (fo fe : DTE) : DTE := fun ρ Q E => fo ρ (fun x => match x with
  | .str a => fe ρ (fun y => match y with
    | .lst xs => ∃ ys, strsD xs = some ys ∧ (ys.map (·.length)).sum + ys.length * a.length ≤ 16777216 ∧ Q (.str (Txt.join a ys))
    | .tup xs => ∃ ys, strsD xs = some ys ∧ (ys.map (·.length)).sum + ys.length * a.length ≤ 16777216 ∧ Q (.str (Txt.join a ys))
    | _ => False) E
  | _ => False) E
theorem de_join {o e : Expr} {fo fe : DTE} {apos : Pos} (ho : DE Xs mg Wx o fo) (he : DE Xs mg Wx e fe) (hK : ∀ j, (Xs j).K = mg.K := by intro _; rfl) (hs : ∀ j, starEach [e] (Xs j).env = [(false, eval e (Xs j).env)] := by intro _; rfl)
    (hb : ∀ j, attributeBase o "join" (Xs j).env (eval o (Xs j).env) = eval o (Xs j).env := by intro _; rfl) (hl : (apos.endLine == pos.line) = true := by rfl) : DE Xs mg Wx (.Call (.Attribute o "join" apos) [e] [] pos) (dJoin fo fe) := by
  obtain ⟨ta, a1, a2⟩ := ho
  obtain ⟨tb, b1, b2⟩ := he
  refine ⟨tM1 (fun x xs H Q => ∃ a p, ∃ ys : List Str, x = .str a ∧ xs = [.ref p] ∧ (SqL mg.K H p (ys.map V.str) ∨ SqT mg.K H p (ys.map V.str)) ∧ (ys.map (·.length)).sum + ys.length * a.length ≤ 16777216 ∧ Q (.str (Txt.join a ys)) H) ta tb, fun j => ?_, ?_⟩
  · have z := pe_join (apos := apos) (pos := pos) (a1 j) (b1 j) (hs j) (hb j) hl
    rw [hK j] at z
    exact z
  · intro B ρ Q E h W σ H Q' hh e x q
    refine a2 B ρ _ E h W σ H _ hh e x fun W1 H1 v1 d1 s1 r1 h1 => ?_
    cases r1 with
    | str a =>
      refine ⟨⟨a, rfl⟩, b2 B ρ _ E h1 W1 σ H1 _ s1.holds (e.step s1) (x.step s1) fun W2 H2 v2 d2 s2 r2 h2 => ?_⟩
      cases r2 with
      | lst ha ra =>
        obtain ⟨ys, g1, g2, g3⟩ := h2
        have e' := strs_v ra g1
        subst e'
        exact ⟨a, _, ys, rfl, rfl, .inl (SqL.of (s2.holds.same _ _ ha)), g2, q W2 H2 _ _ (s1.trans s2) (.str _) g3⟩
      | tup ha ra =>
        obtain ⟨ys, g1, g2, g3⟩ := h2
        have e' := strs_v ra g1
        subst e'
        exact ⟨a, _, ys, rfl, rfl, .inr (SqT.of (s2.holds.same _ _ ha)), g2, q W2 H2 _ _ (s1.trans s2) (.str _) g3⟩
      | _ => exact h2.elim
    | _ => exact h1.elim
end
end FP
/-! FP6: repr, lists of one's own, the end of a law. -/
namespace FP
open PySem L2
variable [Tabl]
section
variable {ι : Type} {Xs : ι → Cx} {mg : Gm} {Wx : WX} {pos : Pos}
/-! ### repr -/
/-! ### lists of one's own -/
def CpO (mg : Gm) (Wx : WX) (t : TE) (g : DTA) : Prop := ∀ B ρ Q E, g ρ Q E → ∀ W σ H Q', Holds W H → EnvR mg B W H σ ρ → ExR mg Wx W H σ E → (∀ W' H' p vs ds, Step W H W' H' → H' p = none → Reps mg W' vs ds → Q ds → Q' (.ref p) (upd H' p (.lst vs))) → t σ H Q'
/-- an expression that gives a new list -/
def DO (Xs : ι → Cx) (mg : Gm) (Wx : WX) (e : Expr) (g : DTA) : Prop := ∃ t, (∀ i, PE (Xs i) e t) ∧ CpO mg Wx t g
abbrev dLen (g : DTA) : DTA := fun ρ Q E => g ρ (fun xs => xs.length ≤ sizeLine ∧ Q xs) E
theorem do_lst {es : List Expr} {g : DTA} (h : DA Xs mg Wx es g) : DO Xs mg Wx (.List es pos) (dLen g) := by
  obtain ⟨t, h1, h2⟩ := h
  refine ⟨_, fun i => pe_lst (h1 i), fun B ρ Q E hf W σ H Q' hh e x q => h2 B ρ _ E hf W σ H _ hh e x fun W1 H1 vs ds s1 r1 k1 => ?_⟩
  exact ⟨by rw [r1.length]; exact k1.1, fun p hp => q W1 H1 p vs ds s1 hp r1 k1.2⟩
abbrev dSetO (i : Nat) (g : DTA) : DTS := fun N ρ => g ρ (fun ds => N.nx (ρ.set i (.own ds))) (fun x => N.rs x ρ)
theorem ds_setO {i : Nat} {x : Str} {e : Expr} {g : DTA} {pos' : Pos} (h : DO Xs mg Wx e g) (hN : ∀ j, (Xs j).N.Nodup) (hi : ∀ j, (Xs j).N[i]? = some x := by intro _; rfl) (hx : ∀ j, Loc (Xs j).env.scope x := by intro _; first | exact Or.inl rfl | exact Or.inr rfl)
    (hs : ∀ j, swapsWith e (some (.Name x pos')) pos.line (Xs j).env = pure false := by intro _; rfl) (hf : ∀ j, (Xs j).fn x = true ∨ (Xs j).env.scope.names.lookup x = some .local := by intro _; first | exact .inl rfl | exact .inr rfl) : DS Xs mg Wx (.Assign [.Name x pos'] e pos) (dSetO i g) := by
  obtain ⟨t, h1, h2⟩ := h
  refine ⟨_, fun j => ps_set (i := i) (hN j) (hi j) (hx j) (h1 j) (hs j) (hf j), fun W0 B N ρ hf W σ H Ds s e n => ?_⟩
  refine h2 B ρ _ _ hf W σ H _ s.holds e (n.ex s e) fun W1 H1 p vs ds s1 hp r1 k1 => ?_
  have s01 := s.trans s1
  have bp : B p = none := by
    cases q : B p with
    | none => rfl
    | some o =>
      obtain ⟨o', e'⟩ := s01.live p o q
      rw [e'] at hp
      cases hp
  exact n.nx W1 _ _ _ (s01.trans (Step.lay s01.holds hp)) ((e.step s1).setOwn s01.holds hp bp r1) k1
/-- the own list is handed on ahead of a statement -/
abbrev dFrz (i : Nat) (f : DTS) : DTS := fun N ρ => match ρ[i]? with
  | some (.own xs) => f N (ρ.set i (.d (.lst xs)))
  | _ => False
theorem CpS.frz {i : Nat} {t : TS} {f : DTS} (h : CpS mg Wx t f) : CpS mg Wx t (dFrz i f) := by
  intro W0 B N ρ hf W σ H Ds s e n
  unfold dFrz at hf
  split at hf
  · rename_i xs hx
    obtain ⟨p, vs, h1, h2, h3, h4, h5, r, e'⟩ := e.freeze s.holds hx
    exact h W0 B N _ hf _ σ H Ds (s.taken h5 h2 h3 h4) e' n
  · exact hf.elim
theorem ds_frz (i : Nat) {st : Stmt} {f : DTS} (h : DS Xs mg Wx st f) : DS Xs mg Wx st (dFrz i f) := by
  obtain ⟨t, h1, h2⟩ := h
  exact ⟨t, h1, h2.frz⟩
/-- x.append(e), x one's own -/
abbrev dApp (i : Nat) (f : DTE) : DTS := fun N ρ => match ρ[i]? with
  | some (.own xs) => f ρ (fun d => xs.length < sizeLine ∧ N.nx (ρ.set i (.own (xs ++ [d])))) (fun x => N.rs x ρ)
  | _ => False
theorem ds_append (i : Nat) {x : Str} {e : Expr} {f : DTE} {p apos cpos : Pos} (h : DE Xs mg Wx e f) (hN : ∀ j, (Xs j).N[i]? = some x := by intro _; rfl) (hv : ∀ j, Vis (Xs j).env.scope x := by intro _; first | exact Or.inl rfl | exact Or.inr (Or.inl rfl) | exact Or.inr (Or.inr rfl))
    (hd : (x == ("__debug__" : Str)) = false := by decide) (hcd : (x == ("__classdict__" : Str)) = false := by decide)
    (pe : ∀ j t, PE (Xs j) e t → PS (Xs j) (.Expr (.Call (.Attribute (.Name x p) "append" apos) [e] [] cpos) pos) (tDrop (tBM (Xs j).K "list" rAppend (tVar i) (tCons t tNil)))) (hK : ∀ j, (Xs j).K = mg.K := by intro _; rfl) :
    DS Xs mg Wx (.Expr (.Call (.Attribute (.Name x p) "append" apos) [e] [] cpos) pos) (dApp i f) := by
  obtain ⟨t, h1, h2⟩ := h
  refine ⟨tDrop (tBM mg.K "list" rAppend (tVar i) (tCons t tNil)), fun j => by rw [← hK j]; exact pe j t (h1 j), fun W0 B N ρ hf W σ H Ds s e n => ?_⟩
  unfold dApp at hf
  split at hf
  · rename_i xs hx
    obtain ⟨o, g1, a, vs, g2, g3, g4, g5, g6, r⟩ := e.sl i _ hx
    subst g2
    refine ⟨.ref a, g1, .inl ⟨rfl, _, SqL.of g3⟩, ?_⟩
    refine h2 B ρ _ _ hf W σ H _ s.holds e (n.ex s e) fun W1 H1 v d s1 r1 k1 => ?_
    have e1 := e.step s1
    obtain ⟨o', q1, a', vs', q2, q3, q4, q5, q6, r'⟩ := e1.sl i _ hx
    rw [g1] at q1
    cases q1
    cases q2
    refine ⟨a, vs', v, rfl, rfl, q3, by rw [r'.length]; exact k1.1, ?_⟩
    exact n.nx W1 _ σ _ ((s.trans s1).own q6 q3 q4 q5) (e1.own (us := vs') hx g1 (r'.snoc r1)) k1.2
  · exact hf.elim
end
end FP
namespace FP
open PySem PySem.Spec PyProof.Rows L2
variable [Tabl]
/-! ### the end of a law -/
section
variable {P : Program} {w : World} {K : PySem.W.Frag} {mg mb : Str → Option Value} {k : Nat} {fa a : Addr} {sp : Sp} {z₁ : Shared} {vs : List Value} {ns : List Int}
/-- what is asked of the call -/
abbrev Fine (z₁ : Shared) : Result → Shared → Prop := fun r z' => r = .ok (.ret (.bool true)) ∧ OldK z₁.heap z'.heap ∧ z'.os = z₁.os ∧ AllBare z'.gens
theorem end_at (KX : K.In z₁.heap) (gl : z₁.heap.Ns mainGlobals mg) (bl : z₁.heap.Ns builtinsNs mb) (bb : ∀ y : Str, y ≠ "__name__" → mb y = bootBuiltins y) (lim : z₁.heap.NoLimit) (gn : z₁.gens = #[])
    (ha : z₁.heap.get? a = some { cls := .type "list", data := .seq vs.toArray }) (hr : RmG k callerA) (F : ∀ base : Heap, K.In base → base.Ns mainGlobals mg → ∃ fd ps, Binds K fd ps [] ∧ FnG P w K mg base k fa fd ps sp)
    {H : Hp} (only : Only H) (hok : HOk P w H z₁.heap) (atA : ∀ b, H b ≠ none → b = a) (offK : H a ≠ none → K.lookup a = none) (want : sp [.ref a] H (fun v _ => v = .bl true) fun _ _ _ => False) (noX : ∀ e z', L2.CX P w [] H z₁ (fun _ _ _ => False) e z' → False) :
    codeAny (model P w) callerA (.call (.ref fa) ⟨[.ref a], []⟩) (Fine z₁) z₁ := by
  -- dicts are not tracked
  have free : ∀ {c : Addr} {o : Obj} {es : Array DictEntry} {ep : Nat}, z₁.heap.get? c = some o → o.data = .dict es ep → H c = none := by
    intro c o es ep hc hd
    rcases hH : H c with _ | u
    · rfl
    · have ca : c = a := atA c (by rw [hH]; exact Option.some_ne_none u)
      rw [ca, ha] at hc
      cases hc
      cases hd
  have ns' : ∀ {c : Addr} {m : Str → Option Value}, z₁.heap.Ns c m → (hidT z₁.heap H).Ns c m := by
    rintro c m ⟨o, es, ep, h1, h2, h3⟩
    exact ⟨o, es, ep, hidT_get h1 (free h1 h2), h2, h3⟩
  have kin : K.In (hidT z₁.heap H) := by
    intro c o hc
    refine hidT_get (KX c o hc) ?_
    rcases hH : H c with _ | u
    · rfl
    · have ca : c = a := atA c (by rw [hH]; exact Option.some_ne_none u)
      subst ca
      rw [offK (by rw [hH]; exact Option.some_ne_none u)] at hc
      cases hc
  obtain ⟨mc, l1, l2⟩ := lim
  have md : Mod K mg (hidT z₁.heap H) := ⟨kin, ns' gl, ⟨mb, ns' bl, bb⟩, ⟨mc, ns' l1, l2⟩⟩
  have en : Env0 P w K mg (hidT z₁.heap H) callerA [] z₁ H := by
    refine ⟨rfl, md, fun c o q => of_hidT q, Nat.le_of_eq (hidT_size _ _), trivial, ?_, hok, .of_eq gn⟩
    intro c hc
    cases hc
  obtain ⟨fd, ps, bd, fn⟩ := F _ kin (ns' gl)
  have bz := bd z₁ [.ref a] KX (fn.ln _ _ _ _ want)
  rw [List.append_nil] at bz
  have run := fn.go callerA [] z₁ H ⟨[.ref a], []⟩ [.ref a] [.ref a] _ _ hr en bz (.cons rfl .nil) want
  refine codeAny_mono run ?_
  intro res z' hres
  match res, hres with
  | .error e, hq => exact (noX e z' hq).elim
  | .ok .next, hq => exact hq.elim
  | .ok .brk, hq => exact hq.elim
  | .ok .cont, hq => exact hq.elim
  | .ok (.ret u), ⟨v, H', os, bare, un, ok', ru, hv⟩ =>
    have hv' : v = .bl true := hv
    subst hv'
    have hu : u = Value.bool true := ru
    subst hu
    refine ⟨rfl, OldK.of_keep ?_, os, bare⟩
    intro c o hc
    rcases only c with hn | ⟨ob, xs, hf⟩
    · exact un.keep c o hc hn (by intro q; cases q) (by intro q; cases q)
    · have f2 := un.frzs c ob _ hf
      have g1 := (hok c _ hf).1
      have g2 := (ok' c _ f2).1
      rw [hc] at g1
      cases g1
      exact g2
theorem end_law (KX : K.In z₁.heap) (gl : z₁.heap.Ns mainGlobals mg) (bl : z₁.heap.Ns builtinsNs mb) (bb : ∀ y : Str, y ≠ "__name__" → mb y = bootBuiltins y) (lim : z₁.heap.NoLimit) (gn : z₁.gens = #[])
    (ha : z₁.heap.get? a = some { cls := .type "list", data := .seq vs.toArray }) (hi : IntsAre vs ns) (hl : ns.length ≤ sizeLine) (hr : RmG k callerA) (F : ∀ base : Heap, K.In base → base.Ns mainGlobals mg → ∃ fd ps, Binds K fd ps [] ∧ FnG P w K mg base k fa fd ps sp)
    (want : ∀ H : Hp, Only H → SqL K H a (ns.map V.int) → sp [.ref a] H (fun v _ => v = .bl true) fun _ _ _ => False) (noX : ∀ H e z', L2.CX P w [] H z₁ (fun _ _ _ => False) e z' → False) :
    codeAny (model P w) callerA (.call (.ref fa) ⟨[.ref a], []⟩) (Fine z₁) z₁ := by
  have rv := vals_ints hi
  have lv := hi.length
  rcases hk : K.lookup a with _ | o
  · have only : Only (upd (fun _ => none) a (.frz { cls := .type "list", data := .seq vs.toArray } (.lst (ns.map V.int)))) := by
      intro c
      by_cases hc : c = a
      · subst hc
        exact .inr ⟨_, _, upd_same⟩
      · exact .inl (upd_ne hc)
    refine end_at KX gl bl bb lim gn ha hr F only ?_ ?_ (fun _ => hk) (want _ only (.inl (.inr ⟨_, upd_same⟩))) (noX _)
    · intro c u hc
      by_cases hca : c = a
      · subst hca
        rw [upd_same] at hc
        cases hc
        refine ⟨ha, ?_, vs, _, rv, ha⟩
        rw [List.length_map]
        exact hl
      · rw [upd_ne hca] at hc
        cases hc
    · intro c hc
      by_cases hca : c = a
      · exact hca
      · exact absurd (upd_ne hca) hc
  · have ho := KX a o hk
    rw [ha] at ho
    cases ho
    have only : Only (fun _ => none) := fun _ => .inl rfl
    refine end_at KX gl bl bb lim gn ha hr F only (fun c u hc => by cases hc) (fun c hc => absurd rfl hc) (fun hc => absurd rfl hc) (want _ only (.inr ⟨_, vs.toArray, _, hk, rfl, rfl, rfl, ?_, by simpa using rv⟩)) (noX _)
    rw [List.size_toArray, lv]
    exact hl
end
/-- the script as a datum -/
abbrev scriptD (ns : List Int) : D := .fz (ns.map D.int)
theorem walkG {l : PySem.W.OpenLaw} {k : Nat} {q : Program} {loose : List Str} {XP : (Str → Option Value) → Heap → Prop} {YP : World → Heap → Prop} {d : DefRec} {K : Params → PySem.W.Frag} {f : List D → M D}
    (hB : Tabl.B = []) (hn : l.most = some 63) (hdf : d.params.defaults = []) (hr : RmG k callerA) (hY : ∀ (w : World) (h : Heap), YP w h → (K w.params).In h)
    (F : ∀ (w : World) (mg : Str → Option Value) (h : Heap), (K w.params).In h → h.Ns mainGlobals mg → ∀ base : Heap, DefOk l.prog w ⟨mg, K w.params⟩ base k d.name 1 f)
    (hf : ∀ ns : List Int, ns.length ≤ 63 → f [scriptD ns] (fun d => d = .bl true) F0) : PySem.W.WalkO q loose XP YP l.row.toRowW d [] (fun f vs => PySem.call f vs) := by
  refine Att.attach_call hn hdf fun w z₀ z₁ mg mb fa o pm cd doc a vs ns G Y ho hd hcd hmg hobj hints hlen hg => ?_
  have KX := hY w _ Y
  refine end_law (sp := spD ⟨mg, K w.params⟩ 1 f) KX G.T.g G.T.b G.T.builtins G.T.nolimit hg hobj hints (Nat.le_trans hlen (by decide)) hr (fun base _ _ => ?_) (fun H only hS => ?_) fun H e z' c => ?_
  · obtain ⟨fa', fd, ps, h1, h2, h3, h4, h5⟩ := (F w mg _ KX G.T.g base).ex
    have e : fa' = fa := by
      have e' := h1.symm.trans hmg
      cases e'
      rfl
    subst e
    exact ⟨fd, ps, h3, h5⟩
  · refine ⟨⟨H, fun _ => False, fun _ => False⟩, [scriptD ns], _, _, ⟨Same.refl H, fun _ t => t.elim, fun _ t => t.elim, fun _ h => (by rw [hB] at h; cases h), fun b ps e => by rcases only b with z | ⟨_, _, z⟩ <;> rw [z] at e <;> cases e⟩, .cons (.fz hS (Reps.ints ns)) .nil, rfl, hf ns hlen, fun W' H' v d _ r e => ?_, fun _ _ _ _ _ _ _ h => h⟩
    subst e
    cases r
    rfl
  · obtain ⟨_, _, _, _, _, _, _, _, _, _, _, _, z⟩ := c
    exact z.elim
end FP
/-! FP7: the dice; a comprehension that empties a list of one's own. -/
namespace FP
open PySem L2
variable [Tabl]
section
variable {ι : Type} {Xs : ι → Cx} {mg : Gm} {Wx : WX} {pos : Pos}
/-! ### dice -/
theorem Step.dice {W : Wd} {H : Hp} (h : Holds W H) {a : Addr} (t : W.Dc a) {x y z : Int} : Step W H W (upd H a (.lst [.int x, .int y, .int z])) := by
  obtain ⟨ta, x0, y0, z0, ea⟩ := h.tok a t
  obtain ⟨na, _⟩ := h.exm a ta
  refine ⟨Le.refl W, ⟨fun b u e => ?_, fun b tb => ?_, fun b tb => ?_, fun q hq => ?_, fun b ps e => ?_⟩, fun b u e n => ?_, fun _ _ _ => rfl, fun b t => .inl t, fun b u e => ?_⟩
  · rw [upd_ne (ne_of_none e na)]
    exact h.same b u e
  · obtain ⟨h1, u, h2⟩ := h.exm b tb
    by_cases hb : b = a
    · subst hb
      exact ⟨h1, _, upd_same⟩
    · exact ⟨h1, u, by rw [upd_ne hb]; exact h2⟩
  · by_cases hb : b = a
    · subst hb
      exact ⟨ta, x, y, z, upd_same⟩
    · rw [upd_ne hb]
      exact h.tok b tb
  · obtain ⟨h1, ps, h2, h3, h4⟩ := h.tab q hq
    have nq : q.1 ≠ a := fun z => by
      rw [z, ea] at h2
      cases h2
    refine ⟨h1, ps, by rw [upd_ne nq]; exact h2, h3, fun pos cv hc => ?_⟩
    obtain ⟨c, e1, e2⟩ := h4 pos cv hc
    have nc : c ≠ a := fun z => by
      rw [z, ea] at e2
      cases e2
    exact ⟨c, e1, by rw [upd_ne nc]; exact e2⟩
  · by_cases hb : b = a
    · rw [hb, upd_same] at e
      cases e
    · rw [upd_ne hb] at e
      exact h.all b ps e
  · rw [upd_ne fun q => n (by rw [q]; exact ta)]
    exact e
  · by_cases hb : b = a
    · subst hb
      exact ⟨_, upd_same⟩
    · rw [upd_ne hb]
      exact ⟨u, e⟩
/-- x[k] = e, x dice -/
abbrev dTok (i : Nat) (k : Int) (f : DTE) : DTS := fun N ρ => f ρ (fun d => match d, ρ[i]? with
  | .int _, some (.d .tok) => (0 ≤ k ∧ k < 3) ∧ N.nx ρ
  | _, _ => False) (fun x => N.rs x ρ)
theorem ds_tok (i : Nat) {x : Str} {k : Int} {e : Expr} {f : DTE} {p p2 p3 : Pos} {jj : Nat} (h : DE Xs mg Wx e f) (hN : ∀ j, (Xs j).N[i]? = some x := by intro _; rfl) (hv : ∀ j, Vis (Xs j).env.scope x := by intro _; first | exact Or.inl rfl | exact Or.inr (Or.inl rfl) | exact Or.inr (Or.inr rfl))
    (pg : ∀ j t, PE (Xs j) e t → PS (Xs j) (.Assign [.Subscript (.Name x p) (.Constant (.int k) jj p2) p3] e pos) (tAsg t (gSub (tVar i) (tC (.int k)) rSetL))) : DS Xs mg Wx (.Assign [.Subscript (.Name x p) (.Constant (.int k) jj p2) p3] e pos) (dTok i k f) := by
  obtain ⟨t, h1, h2⟩ := h
  refine ⟨_, fun j => pg j t (h1 j), fun W0 B N ρ hf W σ H Ds s e n => ?_⟩
  refine h2 B ρ _ _ hf W σ H _ s.holds e (n.ex s e) fun W1 H1 v d s1 r1 k1 => ?_
  dsimp only at k1
  split at k1
  · rename_i c hr
    obtain ⟨hk, k2⟩ := k1
    have e1 := e.step s1
    obtain ⟨v', g1, g2⟩ := e1.get hr
    cases r1
    cases g2 with
    | @tok a ta =>
      obtain ⟨_, x0, y0, z0, ha⟩ := s1.holds.tok a ta
      have hj : ∃ j u1 u2 u3, ixN 3 k = some j ∧ ([V.int x0, V.int y0, V.int z0].set j (V.int c)) = [V.int u1, V.int u2, V.int u3] := by
        have hi : k = 0 ∨ k = 1 ∨ k = 2 := by omega
        rcases hi with rfl | rfl | rfl
        · exact ⟨0, c, y0, z0, rfl, rfl⟩
        · exact ⟨1, x0, c, z0, rfl, rfl⟩
        · exact ⟨2, x0, y0, c, rfl, rfl⟩
      obtain ⟨j, u1, u2, u3, hj, hs⟩ := hj
      have st := Step.dice s1.holds ta (x := u1) (y := u2) (z := u3)
      refine ⟨_, g1, a, _, k, j, rfl, rfl, ha, hj, ?_⟩
      rw [hs]
      exact n.nx W1 _ σ ρ ((s.trans s1).trans st) (e1.step st) k2
  · exact k1.elim
/-- return [a, b, c]: new dice -/
abbrev dRetTok (g : DTA) : DTS := fun N ρ => g ρ (fun ds => match ds with
  | [.int _, .int _, .int _] => N.rt .tok ρ
  | _ => False) (fun x => N.rs x ρ)
theorem ds_retTok {es : List Expr} {g : DTA} {p : Pos} (h : DA Xs mg Wx es g) : DS Xs mg Wx (.Return (some (.List es p)) pos) (dRetTok g) := by
  obtain ⟨t, h1, h2⟩ := h
  refine ⟨_, fun j => ps_ret (pe_lst (h1 j)), fun W0 B N ρ hf W σ H Ds s e n => ?_⟩
  refine h2 B ρ _ _ hf W σ H _ s.holds e (n.ex s e) fun W1 H1 vs ds s1 r1 k1 => ?_
  split at k1
  · rename_i x y z
    cases r1 with
    | cons r rs =>
      cases r
      cases rs with
      | cons r rs =>
        cases r
        cases rs with
        | cons r rs =>
          cases r
          cases rs
          refine ⟨by show 3 ≤ sizeLine; decide, fun p hp => ?_⟩
          have hh := s1.holds
          have nw := hh.same.free hp
          have h0 := hh.lay (o := .lst [.int x, .int y, .int z]) hp (by intro _ h; cases h)
          have st : Step W1 H1 { W1 with T := fun b => W1.T b ∨ b = p, Dc := fun b => W1.Dc b ∨ b = p } (upd H1 p (.lst [.int x, .int y, .int z])) := by
            refine ⟨⟨Same.refl _, fun _ t => .inl t, fun _ t => .inl t⟩, ⟨h0.same, fun b tb => ?_, fun b tb => ?_, fun q hq => ⟨.inl (h0.tab q hq).1, (h0.tab q hq).2⟩, h0.all⟩, fun b u q _ => ?_, fun _ _ _ => rfl, fun b tb => ?_, fun b u q => ?_⟩
            · rcases tb with tb | rfl
              · exact h0.exm b tb
              · exact ⟨nw, _, upd_same⟩
            · rcases tb with tb | rfl
              · exact ⟨.inl (h0.tok b tb).1, (h0.tok b tb).2⟩
              · exact ⟨.inr rfl, x, y, z, upd_same⟩
            · rw [upd_ne (ne_of_none q hp)]
              exact q
            · rcases tb with tb | rfl
              · exact .inl tb
              · exact .inr hp
            · exact ⟨u, by rw [upd_ne (ne_of_none q hp)]; exact q⟩
          exact n.rt _ _ σ ρ _ _ ((s.trans s1).trans st) (e.step (s1.trans st)) (.tok (.inr rfl)) k1
  · exact k1.elim
/-! ### list(x) as a list of one's own; its length -/
abbrev dListO (g : DTA) : DTA := fun ρ Q E => g ρ (fun ds => match ds with
  | [.lst xs] => Q xs
  | [.tup xs] => Q xs
  | _ => False) E
abbrev dLenO (i : Nat) : DTE := fun ρ Q _ => match ρ[i]? with
  | some (.own xs) => Q (.int xs.length)
  | _ => False
/-! ### return [own.pop(index) for .. in ..] -/
theorem EnvR.off {B : Hp} {W : Wd} {H : Hp} {σ : St} {ρ : Env} (e : EnvR mg B W H σ ρ) {A : Addr} {o : HO} (h : ∀ (j : Nat) (t : Sl) (o : Option V), ρ[j]? = some t → σ[j]? = some o → A ∉ t.fp o) : EnvR mg B W (upd H A o) σ ρ := by
  refine ⟨e.len, fun j sl hj => ?_, e.dis⟩
  obtain ⟨o', h1, h2⟩ := e.sl j sl hj
  refine ⟨o', h1, h2.keep (Le.refl W) fun a ha u h5 h6 h7 => ⟨?_, h6, h7⟩⟩
  have ne : a ≠ A := fun q => h j sl o' hj h1 (by rw [← q]; exact ha)
  rw [upd_ne ne]
  exact h5
def popD (T : Tg) (i : Nat) (f : DTE) (ρ : Env) (vs : List Nat) : List D → List D → (List D → Prop) → Prop
  | [], _, Q => Q []
  | d :: ds, xs, Q => ∃ ρ2, T.put d (wipeD (ρ.set i (.own xs)) vs) = some ρ2 ∧ ρ2[i]? = some (.own xs) ∧ f ρ2 (fun z => match z with
    | .int k => ∃ y, (0 ≤ k ∧ k < xs.length ∧ k < 2 ^ 62) ∧ xs[k.toNat]? = some y ∧ popD T i f ρ vs ds (xs.eraseIdx k.toNat) fun rs => Q (y :: rs)
    | _ => False) F0
abbrev dRetPop (w : DTI) (T : Tg) (i : Nat) (f : DTE) (vs : List Nat) : DTS := fun N ρ => match ρ[i]? with
  | some (.own xs) => w ρ (fun ds => ds.length ≤ sizeLine ∧ popD T i f ρ vs ds xs fun rs => N.rt (.lst rs) (noEnv ρ)) (fun x => N.rs x ρ)
  | _ => False
end
end FP
/-! FP8: a def of the text; empty dicts; what the dice helpers promise. -/
namespace FP
open PySem L2
variable [Tabl]
theorem boot_len : bootBuiltins "len" = some (.builtin "len") := by decide +kernel
theorem boot_abs : bootBuiltins "abs" = some (.builtin "abs") := by decide +kernel
theorem boot_max : bootBuiltins "max" = some (.builtin "max") := by decide +kernel
theorem boot_min : bootBuiltins "min" = some (.builtin "min") := by decide +kernel
theorem boot_all : bootBuiltins "all" = some (.builtin "all") := by decide +kernel
theorem boot_repr : bootBuiltins "repr" = some (.builtin "repr") := by decide +kernel
theorem boot_sorted : bootBuiltins "sorted" = some (.builtin "sorted") := by decide +kernel
theorem boot_isinstance : bootBuiltins "isinstance" = some (.builtin "isinstance") := by decide +kernel
theorem boot_int : bootBuiltins "int" = some (.type "int") := by decide +kernel
theorem boot_str : bootBuiltins "str" = some (.type "str") := by decide +kernel
theorem boot_bool : bootBuiltins "bool" = some (.type "bool") := by decide +kernel
theorem boot_tuple : bootBuiltins "tuple" = some (.type "tuple") := by decide +kernel
theorem boot_dict : bootBuiltins "dict" = some (.type "dict") := by decide +kernel
theorem boot_set : bootBuiltins "set" = some (.type "set") := by decide +kernel
section
variable {ι : Type} {Xs : ι → Cx} {mg : Gm} {Wx : WX} {pos : Pos}
theorem mkDef {P : Program} {w : World} {base : Heap} {x : Str} {st : Stmt} {N ps : List Str} {k : Nat} {f : List D → M D} (d : ∃ fa fd, mg.mg x = some (.ref fa) ∧ Fun mg.K x x st fa fd) (S : FnScope N ps (defScope st))
    (hb : ∀ (kV doc pm : Value) (an : Option Addr) (cdv ct : Value) (us : List Value), us.length = ps.length → bindArgs (PySem.W.fnOf x x (defArgs st) (defBody st) (defScope st) .none kV doc pm an cdv ct) ⟨us, []⟩ = pure (ps.zip us))
    (h : ∀ (fa : Addr) (cdv : Value) (A : Around) (outer : List PySem.Env) (s : Shared) (H : Hp) (E : XK), RmG k (A.deeper (PyProof.Rows.envOfC x (defScope st) s.heap.objs.size fa cdv)) →
      ∃ g, DSs (fun _ : Unit => cxOf (L2.CX P w) P w mg.K mg.mg base N x (defScope st) fa cdv A outer s H E) mg (fun cls d _ H' => E cls d H') (defBody st) g ∧
        ∀ ds Q Ex, ds.length = ps.length → f ds Q Ex → g ⟨fun _ => Q .non, fun d _ => Q d, fun _ => False, fun _ => False, fun x _ => Ex x⟩ (startD N.length ds)) :
    DefOk P w mg base (k + 1) x ps.length f := by
  obtain ⟨fa, fd, hm, F⟩ := d
  exact ⟨fa, fd, ps, hm, F.kp, F.binds hb, rfl, def_ok F S (h fa)⟩
abbrev dNewD : DTE := fun _ Q _ => Q (.dct [])
end
/-! ### the dice helpers -/
def f_dice : List D → M D := fun ds Q _ => match ds with
  | [.fz xs, .int k] => (∃ ns : List Int, xs = ns.map D.int) ∧ (0 ≤ k ∧ k < 1000) ∧ Q .tok
  | _ => False
def f_roll : List D → M D := fun ds Q _ => match ds with
  | [.tok, .int n] => (0 < n ∧ n < 1073741824) ∧ ∀ r, 0 ≤ r → r < n → Q (.int r)
  | _ => False
def f_pick : List D → M D := fun ds Q _ => match ds with
  | [.tok, .lst xs] => (0 < xs.length ∧ xs.length < 1073741824) ∧ ∀ d, d ∈ xs → Q d
  | [.tok, .tup xs] => (0 < xs.length ∧ xs.length < 1073741824) ∧ ∀ d, d ∈ xs → Q d
  | _ => False
theorem at_of {α : Type} {xs : List α} {z : Int} {j : Nat} {v : α} (e : z = (j : Int)) (h : xs[j]? = some v) : atI xs z = some v := by
  rw [e]
  exact atI_nat h
theorem atI_mem {xs : List D} {r : Int} (h0 : 0 ≤ r) (h1 : r < xs.length) : ∃ d, atI xs r = some d ∧ d ∈ xs := by
  have hr : r.toNat < xs.length := by omega
  refine ⟨xs[r.toNat], ?_, List.getElem_mem hr⟩
  exact at_of (j := r.toNat) (by omega) (by simp [hr])
theorem atI_ints {ns : List Int} {r : Int} (h0 : 0 ≤ r) (h1 : r < (ns.map D.int).length) : ∃ i, atI (ns.map D.int) r = some (.int i) := by
  obtain ⟨d, h, hm⟩ := atI_mem h0 h1
  obtain ⟨i, _, e⟩ := List.mem_map.mp hm
  exact ⟨i, by rw [h, e]⟩
/-! ### comprehensions in pure words -/
theorem lcD_fm {body : D → (Option D → Prop) → Prop} (F : D → Option D) : ∀ (ds : List D) (Q : List D → Prop), (∀ d ∈ ds, ∀ k : Option D → Prop, k (F d) → body d k) → Q (ds.filterMap F) → lcD body ds Q
  | [], Q, _, h => h
  | d :: ds, Q, hb, h => by
    refine hb d List.mem_cons_self _ ?_
    refine lcD_fm F ds _ (fun e he => hb e (List.mem_cons_of_mem _ he)) ?_
    rw [List.filterMap_cons] at h
    cases q : F d with
    | none =>
      rw [q] at h
      exact h
    | some r =>
      rw [q] at h
      exact h
theorem lcD_map {body : D → (Option D → Prop) → Prop} (F : D → D) (ds : List D) (Q : List D → Prop) (hb : ∀ d ∈ ds, ∀ k : Option D → Prop, k (some (F d)) → body d k) (h : Q (ds.map F)) : lcD body ds Q := by
  refine lcD_fm (fun d => some (F d)) ds Q hb ?_
  rw [List.filterMap_eq_map']
  exact h
/-- a loop by what holds between its turns -/
theorem forD_inv {T : Tg} {f : DTS} {N : Nd} (I : Env → Prop) : ∀ (ds : List D) (ρ : Env), I ρ → (∀ d ∈ ds, ∀ (ρ : Env) (K : Env → Prop), I ρ → (∀ ρ', I ρ' → K ρ') → ∃ ρ1, T.put d ρ = some ρ1 ∧ f { N with nx := K, ct := K, bk := N.nx } ρ1) → (∀ ρ, I ρ → N.nx ρ) → forD T f N ds ρ
  | [], ρ, h, _, he => he ρ h
  | d :: ds, ρ, h, hs, he => hs d List.mem_cons_self ρ _ h fun ρ' h' => forD_inv I ds ρ' h' (fun e h2 => hs e (List.mem_cons_of_mem _ h2)) he
/-- one statement, then the others, by what holds between them -/
theorem seq_by {f g : DTS} {N : Nd} {ρ : Env} (I : Env → Prop) (h1 : ∀ nx : Env → Prop, (∀ ρ', I ρ' → nx ρ') → f { N with nx := nx } ρ) (h2 : ∀ ρ', I ρ' → g N ρ') : dSeq f g N ρ := h1 _ h2
/-- how many spots a law looks at -/
theorem spots (n : Nat) : 1 ≤ (if (if (n : Int) < 8 then (n : Int) else 8) > 1 then (if (n : Int) < 8 then (n : Int) else 8) else 1) ∧ (if (if (n : Int) < 8 then (n : Int) else 8) > 1 then (if (n : Int) < 8 then (n : Int) else 8) else 1) ≤ 8 := by
  split <;> split <;> omega
theorem mem_range {lo : Int} {n : Nat} {d : D} (h : d ∈ rangeD lo n) : ∃ j : Nat, d = .int (lo + j) ∧ j < n := by
  unfold rangeD at h
  obtain ⟨j, hj, e⟩ := List.mem_map.mp h
  exact ⟨j, e.symm, List.mem_range.mp hj⟩
theorem ne_same (x : Str) {Q : D → Prop} (h : Q (.bl false)) : rdNe (.str x) (.str x) Q := by
  have e : eqS (.str x) (.str x) = some true := by simp [eqS]
  unfold rdNe
  rw [e]
  exact h
/-! ### texts -/
theorem str_app (a b : Str) : (a ++ b).cps.toList = a.cps.toList ++ b.cps.toList := by
  show (a.cps ++ b.cps).toList = _
  simp
theorem str_len (a : Str) : a.length = a.cps.toList.length := by
  show a.cps.size = _
  simp
theorem txt_join (x : Str) (l : List Str) : Txt.join x l = Str.join x l := by
  show Builtin.Str.glued x l = _
  rw [StrLaws.glued_eq_join]
/-! ### values of the judged kinds -/
def okStr (z : Str) : Prop := z.length ≤ 1000 ∧ ∀ c ∈ z.cps.toList, c < 1114112
def okV : D → Prop
  | .fz _ => False
  | .ins _ _ => False
  | .cl _ => False
  | .fn _ _ => False
  | .str z => okStr z
  | _ => True
def isStr : D → Bool
  | .str _ => true
  | _ => false
theorem isi_str {d : D} (h : okV d) : ∃ n, tyName d = some n ∧ kitB n "str" = some (isStr d) := by
  cases d with
  | fz _ => exact h.elim
  | cl _ => exact h.elim
  | fn _ _ => exact h.elim
  | ins _ _ => exact h.elim
  | non => exact ⟨_, rfl, by decide +kernel⟩
  | bl _ => exact ⟨_, rfl, by show kitB "bool" "str" = some false; decide +kernel⟩
  | int _ => exact ⟨_, rfl, by show kitB "int" "str" = some false; decide +kernel⟩
  | str _ => exact ⟨_, rfl, by show kitB "str" "str" = some true; decide +kernel⟩
  | tup _ => exact ⟨_, rfl, by show kitB "tuple" "str" = some false; decide +kernel⟩
  | lst _ => exact ⟨_, rfl, by show kitB "list" "str" = some false; decide +kernel⟩
  | dct _ => exact ⟨_, rfl, by show kitB "dict" "str" = some false; decide +kernel⟩
  | tok => exact ⟨_, rfl, by decide +kernel⟩
instance (a n : Int) : Decidable (CPowW a n) := by
  unfold CPowW
  exact inferInstance
theorem cmulL {i j : Int} (h : -(2 ^ 64) < i ∧ i < 2 ^ 64) : CMul i j := .inl h
theorem cmulR {i j : Int} (h : -(2 ^ 64) < j ∧ j < 2 ^ 64) : CMul i j := .inr h
end FP
/-! FP9: slices, two names at once, lists joined as one's own. -/
namespace FP
open PySem L2
variable [Tabl]
section
variable {ι : Type} {Xs : ι → Cx} {mg : Gm} {Wx : WX} {pos : Pos}
abbrev DTO := FP.Env → M (Option Int)
def CpP (mg : Gm) (Wx : WX) (t : TO) (f : DTO) : Prop := ∀ B ρ Q E, f ρ Q E → ∀ W σ H Q', Holds W H → EnvR mg B W H σ ρ → ExR mg Wx W H σ E → (∀ W' H' o, Step W H W' H' → Q o → Q' o H') → t σ H Q'
def DP (Xs : ι → Cx) (mg : Gm) (Wx : WX) (e : Option Expr) (f : DTO) : Prop := ∃ t, (∀ i, PO (Xs i) e t) ∧ CpP mg Wx t f
abbrev dONone : DTO := fun _ Q _ => Q none
abbrev dOSome (f : DTE) : DTO := fun ρ Q E => f ρ (fun x => match x with
  | .int i => Q (some i)
  | _ => False) E
theorem do_none : DP Xs mg Wx none dONone := ⟨_, fun _ => po_none, fun B ρ Q E hf W σ H Q' hh e x q => q W H none (Step.refl hh) hf⟩
theorem do_some {e : Expr} {f : DTE} (h : DE Xs mg Wx e f) : DP Xs mg Wx (some e) (dOSome f) := by
  obtain ⟨t, h1, h2⟩ := h
  refine ⟨_, fun i => po_some (h1 i), fun B ρ Q E hf W σ H Q' hh e x q => h2 B ρ _ E hf W σ H _ hh e x fun W1 H1 v d s1 r1 k1 => ?_⟩
  cases r1 with
  | int i => exact ⟨i, rfl, q W1 H1 _ s1 k1⟩
  | _ => exact k1.elim
def cutD (xs : List D) (lo hi : Option Int) : List D := (xs.drop (HT.sIx xs.length 0 lo)).take (HT.sIx xs.length xs.length hi - HT.sIx xs.length 0 lo)
theorem Reps.cut {W : Wd} {vs : List V} {ds : List D} (r : Reps mg W vs ds) (lo hi : Option Int) : Reps mg W (cutV vs lo hi) (cutD ds lo hi) := by
  unfold cutV cutD
  rw [r.length]
  exact (r.drop _).take _
def rdSl (x : D) (lo hi : Option Int) (Q : D → Prop) : Prop := match x with
  | .str z => z.length ≤ sizeLine ∧ Q (.str (cutS z lo hi))
  | .lst xs => Q (.lst (cutD xs lo hi))
  | .tup xs => Q (.tup (cutD xs lo hi))
  | _ => False
abbrev dSl (f : DTE) (l u : DTO) : DTE := fun ρ Q E => f ρ (fun x => l ρ (fun lo => u ρ (fun hi => rdSl x lo hi Q) E) E) E
theorem sl_listK {X : Cx} {K : PySem.W.Frag} (h : X.K = K) : L2.SlR X (rSlL K) := by
  subst h
  exact sl_list
theorem sl_tupK {X : Cx} {K : PySem.W.Frag} (h : X.K = K) : L2.SlR X (rSlA K) := by
  subst h
  exact sl_tupA
theorem de_slice {e : Expr} {lo hi : Option Expr} {f : DTE} {l u : DTO} {p2 : Pos} (h : DE Xs mg Wx e f) (hl : DP Xs mg Wx lo l) (hu : DP Xs mg Wx hi u) (hK : ∀ j, (Xs j).K = mg.K := by intro _; rfl) : DE Xs mg Wx (.Subscript e (.Slice lo hi none p2) pos) (dSl f l u) := by
  obtain ⟨t, h1, h2⟩ := h
  obtain ⟨tl, l1, l2⟩ := hl
  obtain ⟨tu, u1, u2⟩ := hu
  refine ⟨_, fun j => pe_slice (L2.SlR.or (sl_listK (hK j)) (L2.SlR.or sl_str (sl_tupK (hK j)))) (h1 j) (l1 j) (u1 j), fun B ρ Q E hf W σ H Q' hh e x q => ?_⟩
  refine h2 B ρ _ E hf W σ H _ hh e x fun W1 H1 v d s1 r1 k1 => ?_
  refine l2 B ρ _ E k1 W1 σ H1 _ s1.holds (e.step s1) (x.step s1) fun W2 H2 o1 s2 k2 => ?_
  have s12 := s1.trans s2
  refine u2 B ρ _ E k2 W2 σ H2 _ s2.holds (e.step s12) (x.step s12) fun W3 H3 o2 s3 k3 => ?_
  have s13 := s12.trans s3
  have r3 := (r1.mono s2.le).mono s3.le
  have q3 : ToV mg W3 H3 Q Q' := ToV.step q s13
  cases r3 with
  | str z => exact .inr (.inl ⟨z, rfl, k3.1, q3 W3 H3 _ _ (Step.refl s3.holds) (.str _) k3.2⟩)
  | lst ha ra => exact .inl ⟨_, _, rfl, SqL.of (s3.holds.same _ _ ha), to_lst q3 s3.holds (ra.cut o1 o2) k3⟩
  | @tup a vs ds ha ra =>
    refine .inr (.inr ⟨_, _, rfl, SqT.of (s3.holds.same _ _ ha), fun hw => ?_, fun _ => to_tup q3 s3.holds (ra.cut o1 o2) k3⟩)
    have k4 : Q (.tup (cutD ds o1 o2)) := k3
    have e4 : cutD ds o1 o2 = ds := by
      unfold cutD
      rw [← ra.length, hw.1, hw.2, List.drop_zero, Nat.sub_zero, ra.length, List.take_length]
    rw [e4] at k4
    exact q3 W3 H3 _ _ (Step.refl s3.holds) (.tup ha ra) k4
  | _ => exact k3.elim
/-- a, b = e1, e2 -/
abbrev dPar (i j : Nat) (g : DTA) : DTS := fun N ρ => g ρ (fun ds => match ds with
  | [x, y] => N.nx ((ρ.set i (.d x)).set j (.d y))
  | _ => False) (fun x => N.rs x ρ)
theorem ds_par {i j : Nat} {x y : Str} {a b : Expr} {g : DTA} {px py pt : Pos} {kt k2 : Nat} {pt2 : Pos} (h : DA Xs mg Wx [a, b] g) (hN : ∀ l, (Xs l).N.Nodup)
    (hw : ∀ l, swappedStores [.Tuple [.Name x px, .Name y py] kt pt] (.Tuple [a, b] k2 pt2) (Xs l).env = pure (some [x, y]) := by intro _; rfl) (hij : i ≠ j := by decide) (hi : ∀ l, (Xs l).N[i]? = some x := by intro _; rfl) (hj : ∀ l, (Xs l).N[j]? = some y := by intro _; rfl)
    (hx : ∀ l, (Xs l).env.scope.names.lookup x = some .local := by intro _; rfl) (hy : ∀ l, (Xs l).env.scope.names.lookup y = some .local := by intro _; rfl) (hc : ∀ l, (Xs l).calm = true := by intro _; rfl)
    (hs : ∀ l, swapsWithSole [.Tuple [.Name x px, .Name y py] kt pt] (.Tuple [a, b] k2 pt2) pos.line (Xs l).env = pure false := by intro _; rfl) : DS Xs mg Wx (.Assign [.Tuple [.Name x px, .Name y py] kt pt] (.Tuple [a, b] k2 pt2) pos) (dPar i j g) := by
  obtain ⟨t, h1, h2⟩ := h
  refine ⟨_, fun l => ps_par (i := i) (j := j) (hc l) (hN l) (hi l) (hj l) hij (hx l) (hy l) (h1 l) (hw l) (hs l), fun W0 B N ρ hf W σ H Ds s e n => ?_⟩
  refine h2 B ρ _ _ hf W σ H _ s.holds e (n.ex s e) fun W1 H1 vs ds s1 r1 k1 => ?_
  split at k1
  · cases r1 with
    | cons r rs =>
      cases rs with
      | cons r2 rs =>
        cases rs
        exact ⟨_, _, rfl, n.nx W1 H1 _ _ (s.trans s1) (((e.step s1).set r).set r2) k1⟩
  · exact k1.elim
end
/-! ### pure words -/
theorem lc_in (al z : Str) {Q : List D → Prop} (h : Q (z.cps.toList.map fun c => .bl (decide (c ∈ al.cps.toList)))) :
    lcD (fun d k => match inD d (.str al) with | some b => k (some (.bl b)) | none => False) (signsD z) Q := by
  refine lcD_map (fun d => match inD d (.str al) with | some b => .bl b | none => .non) _ _ (fun d hd k hk => ?_) ?_
  · obtain ⟨c, _, rfl⟩ := List.mem_map.mp hd
    exact hk
  · unfold signsD
    rw [List.map_map]
    exact h
theorem blsD_fn {α : Type} (f : α → Bool) (cs : List α) : blsD (cs.map fun c => D.bl (f c)) = some (cs.map f) := by
  have e := blsD_map (cs.map f)
  rw [List.map_map] at e
  exact e
theorem signs_ok {z : Str} (h : okStr z) : (signsD z).length ≤ sizeLine := by
  rw [signsD_len]
  exact Nat.le_trans h.1 (by decide)
theorem len_ok {z : Str} (h : okStr z) : z.length ≤ sizeLine := Nat.le_trans h.1 (by decide)
theorem kit_ss : kitB "str" "str" = some true := by decide +kernel
def isIntT : D → Bool
  | .int _ => true
  | .bl _ => true
  | _ => false
def isBlT : D → Bool
  | .bl _ => true
  | _ => false
theorem isi_ty {d : D} (h : okV d) : ∃ n, tyName d = some n ∧ kitB n "int" = some (isIntT d) ∧ kitB n "bool" = some (isBlT d) := by
  cases d with
  | fz _ => exact h.elim
  | ins _ _ => exact h.elim
  | cl _ => exact h.elim
  | fn _ _ => exact h.elim
  | non => exact ⟨_, rfl, by show kitB "NoneType" "int" = some false; decide +kernel, by show kitB "NoneType" "bool" = some false; decide +kernel⟩
  | bl _ => exact ⟨_, rfl, by show kitB "bool" "int" = some true; decide +kernel, by show kitB "bool" "bool" = some true; decide +kernel⟩
  | int _ => exact ⟨_, rfl, by show kitB "int" "int" = some true; decide +kernel, by show kitB "int" "bool" = some false; decide +kernel⟩
  | str _ => exact ⟨_, rfl, by show kitB "str" "int" = some false; decide +kernel, by show kitB "str" "bool" = some false; decide +kernel⟩
  | tup _ => exact ⟨_, rfl, by show kitB "tuple" "int" = some false; decide +kernel, by show kitB "tuple" "bool" = some false; decide +kernel⟩
  | lst _ => exact ⟨_, rfl, by show kitB "list" "int" = some false; decide +kernel, by show kitB "list" "bool" = some false; decide +kernel⟩
  | dct _ => exact ⟨_, rfl, by show kitB "dict" "int" = some false; decide +kernel, by show kitB "dict" "bool" = some false; decide +kernel⟩
  | tok => exact ⟨_, rfl, by show kitB "list" "int" = some false; decide +kernel, by show kitB "list" "bool" = some false; decide +kernel⟩
def digL : List Nat := ("0123456789" : Str).cps.toList
theorem dig1 : ∀ a ∈ digL, PySem.intText? ⟨#[a]⟩ = some ((a : Int) - 48) ∧ (Str.ofString (toString ((a : Int) - 48))) = ⟨#[a]⟩ := by decide +kernel
theorem dig2 : ∀ a ∈ digL, ∀ b ∈ digL, PySem.intText? ⟨#[a, b]⟩ = some (((a : Int) - 48) * 10 + ((b : Int) - 48)) ∧ decide ((Str.ofString (toString (((a : Int) - 48) * 10 + ((b : Int) - 48)))) = ⟨#[a, b]⟩) = decide (a ≠ 48) := by decide +kernel
theorem dig_small : ∀ a ∈ digL, 48 ≤ a ∧ a < 58 := by decide
theorem log_small {n : Int} (h0 : 0 ≤ n) (h1 : n < 1000) : n.natAbs.log2 < 1920 := by
  refine Nat.lt_of_le_of_lt (Nat.log2_le_self _) ?_
  omega
theorem in23 (n : Int) : inD (.int n) (.tup [.int 2, .int 3]) = some (decide (n = 2 ∨ n = 3)) := by
  show some (((2 : Int) == n) || (((3 : Int) == n) || false)) = _
  congr 1
  by_cases h2 : n = 2
  · subst h2
    rfl
  · by_cases h3 : n = 3
    · subst h3
      rfl
    · rw [decide_eq_false (by omega), beq_eq_false_iff_ne.mpr (Ne.symm h2), beq_eq_false_iff_ne.mpr (Ne.symm h3)]
      rfl
theorem notIn23 (n : Int) {Q : D → Prop} (h1 : ¬ (n = 2 ∨ n = 3) → Q (.bl true)) (h2 : (n = 2 ∨ n = 3) → Q (.bl false)) : rdNotIn (.int n) (.tup [.int 2, .int 3]) Q := by
  unfold rdNotIn
  rw [in23]
  by_cases h : n = 2 ∨ n = 3
  · rw [decide_eq_true h]
    exact h2 h
  · rw [decide_eq_false h]
    exact h1 h
/-- a text of two or three signs -/
theorem str23 {z : Str} (h : (z.length : Int) = 2 ∨ (z.length : Int) = 3) : (∃ x a, z = ⟨#[x, a]⟩) ∨ ∃ x a b, z = ⟨#[x, a, b]⟩ := by
  have key : ∀ l : List Nat, z.cps.toList = l → z = ⟨l.toArray⟩ := fun l e => by
    cases z with
    | mk cps =>
      have e2 : cps = l.toArray := by
        apply Array.ext'
        simpa using e
      rw [e2]
  rw [str_len] at h
  match hz : z.cps.toList with
  | [] =>
    rw [hz] at h
    simp at h
  | [x] =>
    rw [hz] at h
    simp at h
  | [x, a] => exact .inl ⟨x, a, key _ hz⟩
  | [x, a, b] => exact .inr ⟨x, a, b, key _ hz⟩
  | x :: a :: b :: c :: r =>
    rw [hz] at h
    simp at h
    omega
theorem line {n : Nat} (h : Nat.ble n 16777216 = true) : n ≤ sizeLine := Nat.le_of_ble_eq_true h
theorem ne_deep {x y : D} {p q : PyData} {Q : D → Prop} (hx : toPy x = some p) (hy : toPy y = some q) (hn : eqS x y = none) (sp : SeqAt.shaped p = true) (sq : SeqAt.shaped q = true) (e : PyData.eqv p q = true) (h : Q (.bl false)) : rdNe x y Q := by
  unfold rdNe
  rw [hn]
  refine ⟨p, q, hx, hy, sp, sq, ?_⟩
  rw [e]
  exact h
theorem eq_deep {x y : D} {p q : PyData} {Q : D → Prop} (hx : toPy x = some p) (hy : toPy y = some q) (hn : eqS x y = none) (sp : SeqAt.shaped p = true) (sq : SeqAt.shaped q = true) (e : PyData.eqv p q = true) (h : Q (.bl true)) : rdEq x y Q := by
  unfold rdEq
  rw [hn]
  refine ⟨p, q, hx, hy, sp, sq, ?_⟩
  rw [e]
  exact h
/-- x and a number from 0 to 99 -/
def levelS (z : Str) : Option Int := match z.cps.toList with
  | [x, a] => if x = 120 ∧ a ∈ digL then some ((a : Int) - 48) else none
  | [x, a, b] => if x = 120 ∧ a ∈ digL ∧ b ∈ digL ∧ a ≠ 48 then some (((a : Int) - 48) * 10 + ((b : Int) - 48)) else none
  | _ => none
theorem levelS_bad {z : Str} (h : ¬ ((z.length : Int) = 2 ∨ (z.length : Int) = 3)) : levelS z = none := by
  rw [str_len] at h
  unfold levelS
  split
  · rename_i x a e
    rw [e] at h
    exact absurd (.inl rfl) h
  · rename_i x a b e
    rw [e] at h
    exact absurd (.inr rfl) h
  · rfl
def ofO : Option Int → D
  | some n => .int n
  | none => .non
def levelD : D → D
  | .str z => ofO (levelS z)
  | _ => .non
def f_level : List D → M D := fun ds Q _ => match ds with
  | [d] => okV d ∧ Q (levelD d)
  | _ => False
theorem ne_x (x : Nat) {Q : D → Prop} (h1 : x ≠ 120 → Q (.bl true)) (h2 : x = 120 → Q (.bl false)) : rdNe (.str ⟨#[x]⟩) (.str "x") Q := by
  have e : eqS (.str ⟨#[x]⟩) (.str "x") = some (decide ((⟨#[x]⟩ : Str) = "x")) := rfl
  unfold rdNe
  rw [e]
  by_cases hx : x = 120
  · subst hx
    exact h2 rfl
  · have e2 : decide ((⟨#[x]⟩ : Str) = "x") = false := decide_eq_false fun q => by
      have q2 : (⟨#[x]⟩ : Str).cps.toList = ("x" : Str).cps.toList := by rw [q]
      have q3 : [x] = [120] := q2
      exact hx (List.cons.inj q3).1
    rw [e2]
    exact h1 hx
end FP
/-! FP10: classes of one's own: fields, making, methods, properties, isinstance. -/
namespace FP
open PySem L2
variable [Tabl]
theorem RmG.in1 {k : Nat} {A : Around} (m : RmG (k + 1) A) : RmG k A.in1 := ⟨m.r.in1, m.g⟩
/-- a class of the text -/
structure ClsF (mg : Gm) (c : Str) (C : Addr) : Prop where
  nm : mg.mg c = some (.ref C)
  cl : Cls mg.K C
  ha : PySem.W.findIn mg.K (.ref C) "__class__" = some (some (.builtin "object.__class__"))
  hn : PySem.W.specialIn mg.K (.builtin "object.__class__") "__get__" = some (some (.builtin "getset_descriptor.__get__"))
  htk : PySem.W.takesIn mg.K (.builtin "object.__class__") = some true
  hm : PySem.W.mroIn mg.K C (.type "object") = some true
theorem ClsF.eq {mg : Gm} {c : Str} {C C' : Addr} (f : ClsF mg c C) (h : mg.mg c = some (.ref C')) : C' = C := by
  have e := h.symm.trans f.nm
  cases e
  rfl
section
variable {ι : Type} {Xs : ι → Cx} {mg : Gm} {Wx : WX} {pos : Pos}
/-! ### fields -/
theorem lookup_reps {W : Wd} : ∀ {vs : List (Str × V)} {ds : List (Str × D)} {f : Str} {d : D}, vs.map (·.1) = ds.map (·.1) → Reps mg W (vs.map (·.2)) (ds.map (·.2)) → ds.lookup f = some d → ∃ v, vs.lookup f = some v ∧ Rep mg W v d
  | [], [], _, _, _, _, h => by cases h
  | [], _ :: _, _, _, h, _, _ => by cases h
  | _ :: _, [], _, _, h, _, _ => by cases h
  | (a, v) :: vs, (b, e) :: ds, f, d, hk, hr, hl => by
    simp only [List.map_cons, List.cons.injEq] at hk
    obtain ⟨rfl, hk⟩ := hk
    cases hr with
    | cons r rs =>
      rw [List.lookup_cons] at hl ⊢
      split at hl
      · cases hl
        exact ⟨v, rfl, r⟩
      · exact lookup_reps hk rs hl
abbrev dFld (c f : Str) (g : DTE) : DTE := fun ρ Q E => g ρ (fun x => match x with
  | .ins c' fs => c' = c ∧ ∃ d, fs.lookup f = some d ∧ Q d
  | _ => False) E
theorem de_fld {c f : Str} {C : Addr} {e : Expr} {g : DTE} (F : ClsF mg c C) (na : NoAttr mg.K C f) (h : DE Xs mg Wx e g) (hK : ∀ j, (Xs j).K = mg.K := by intro _; rfl) (hb : ∀ j, attributeBase e f (Xs j).env (eval e (Xs j).env) = eval e (Xs j).env := by intro _; rfl) : DE Xs mg Wx (.Attribute e f pos) (dFld c f g) := by
  obtain ⟨t, h1, h2⟩ := h
  refine ⟨tFld mg.K t f, fun j => by
    have z := pe_fld (pos := pos) (h1 j) (hb j)
    rw [hK j] at z
    exact z, fun B ρ Q E hf W σ H Q' hh e x q => ?_⟩
  refine h2 B ρ _ E hf W σ H _ hh e x fun W1 H1 v d s1 r1 k1 => ?_
  cases r1 with
  | @ins a C' dx fs c' ds hc ha hk rs =>
    obtain ⟨rfl, d', hd, hq⟩ := k1
    have ec := F.eq hc
    subst ec
    obtain ⟨v', hv, rv⟩ := lookup_reps hk rs hd
    exact ⟨a, C', dx, fs, v', rfl, s1.holds.same _ _ ha, F.cl, na, hv, q W1 H1 v' d' s1 rv hq⟩
  | _ => exact k1.elim
/-- a field of an object that is being made -/
abbrev dFldO (i : Nat) (c f : Str) : DTE := fun ρ Q _ => match ρ[i]? with
  | some (.ob c' _ fs) => c' = c ∧ ∃ d, fs.lookup f = some d ∧ Q d
  | _ => False
theorem de_fldO (i : Nat) {c x f : Str} {C : Addr} {p : Pos} (F : ClsF mg c C) (na : NoAttr mg.K C f) (hK : ∀ j, (Xs j).K = mg.K := by intro _; rfl) (hN : ∀ j, (Xs j).N[i]? = some x := by intro _; rfl)
    (hv : ∀ j, Vis (Xs j).env.scope x := by intro _; first | exact Or.inl rfl | exact Or.inr (Or.inl rfl) | exact Or.inr (Or.inr rfl)) (hd : (x == ("__debug__" : Str)) = false := by decide) (hcd : (x == ("__classdict__" : Str)) = false := by decide)
    (hb : ∀ j, attributeBase (.Name x p) f (Xs j).env (eval (.Name x p) (Xs j).env) = eval (.Name x p) (Xs j).env := by intro _; rfl) : DE Xs mg Wx (.Attribute (.Name x p) f pos) (dFldO i c f) := by
  refine ⟨tFld mg.K (tVar i) f, fun j => by
    have z := pe_fld (pos := pos) (pe_var (i := i) (pos := p) (hN j) (hv j) hd hcd) (hb j)
    rw [hK j] at z
    exact z, fun B ρ Q E hf W σ H Q' hh e x q => ?_⟩
  unfold dFldO at hf
  split at hf
  · rename_i c' a fs hs
    obtain ⟨rfl, d, hd, hq⟩ := hf
    obtain ⟨o, h1, vs, h2, ⟨C', dx, hc, h3⟩, _, _, _, hk, rs⟩ := e.sl i _ hs
    subst h2
    have ec := F.eq hc
    subst ec
    obtain ⟨v', hv, rv⟩ := lookup_reps hk rs hd
    exact ⟨.ref a, h1, a, C', dx, vs, v', rfl, h3, F.cl, na, hv, q W H v' d (Step.refl hh) rv hq⟩
  · exact hf.elim
/-- an attribute put -/
def putD (f : Str) (d : D) : List (Str × D) → List (Str × D)
  | [] => [(f, d)]
  | (g, e) :: r => if g = f then (f, d) :: r else (g, e) :: putD f d r
theorem putF_reps {W : Wd} {f : Str} {v : V} {d : D} (r : Rep mg W v d) : ∀ {vs : List (Str × V)} {ds : List (Str × D)}, vs.map (·.1) = ds.map (·.1) → Reps mg W (vs.map (·.2)) (ds.map (·.2)) → (putF f v vs).map (·.1) = (putD f d ds).map (·.1) ∧ Reps mg W ((putF f v vs).map (·.2)) ((putD f d ds).map (·.2))
  | [], [], _, _ => ⟨rfl, .cons r .nil⟩
  | [], _ :: _, h, _ => by cases h
  | _ :: _, [], h, _ => by cases h
  | (a, w) :: vs, (b, e) :: ds, hk, hr => by
    simp only [List.map_cons, List.cons.injEq] at hk
    obtain ⟨rfl, hk⟩ := hk
    cases hr with
    | cons r1 rs =>
      unfold putF putD
      by_cases ha : a = f
      · rw [if_pos ha, if_pos ha]
        exact ⟨by simp [hk, ha], .cons r rs⟩
      · rw [if_neg ha, if_neg ha]
        obtain ⟨h1, h2⟩ := putF_reps r hk rs
        exact ⟨by simp [h1], .cons r1 h2⟩
abbrev dSetF (i : Nat) (c f : Str) (g : DTE) : DTS := fun N ρ => g ρ (fun d => match ρ[i]? with
  | some (.ob c' a fs) => c' = c ∧ fs.length < 1000 ∧ N.nx (ρ.set i (.ob c a (putD f d fs)))
  | _ => False) (fun x => N.rs x ρ)
theorem ds_setF (i : Nat) {c x f : Str} {C : Addr} {p p' : Pos} {e : Expr} {g : DTE} (F : ClsF mg c C) (na : NoAttr mg.K C f) (h : DE Xs mg Wx e g) (hK : ∀ j, (Xs j).K = mg.K := by intro _; rfl) (hN : ∀ j, (Xs j).N[i]? = some x := by intro _; rfl)
    (hv : ∀ j, Vis (Xs j).env.scope x := by intro _; first | exact Or.inl rfl | exact Or.inr (Or.inl rfl) | exact Or.inr (Or.inr rfl)) (hd : (x == ("__debug__" : Str)) = false := by decide) (hcd : (x == ("__classdict__" : Str)) = false := by decide)
    (hs : ∀ j, swapsWith e (some (.Attribute (.Name x p) f p')) pos.line (Xs j).env = pure false := by intro _; rfl) : DS Xs mg Wx (.Assign [.Attribute (.Name x p) f p'] e pos) (dSetF i c f g) := by
  obtain ⟨t, h1, h2⟩ := h
  refine ⟨sFld mg.K (tVar i) t f, fun j => by
    have z := ps_fld (pe_var (i := i) (pos := p) (hN j) (hv j) hd hcd) (h1 j) (hs j)
    rw [hK j] at z
    exact z, fun W0 B N ρ hf W σ H Ds s e n => ?_⟩
  refine h2 B ρ _ _ hf W σ H _ s.holds e (n.ex s e) fun W1 H1 v d s1 r1 k1 => ?_
  have e1 := e.step s1
  dsimp only at k1
  split at k1
  · rename_i c' a fs hs'
    obtain ⟨rfl, hl, hq⟩ := k1
    obtain ⟨o, g1, vs, g2, ⟨C', dx, hc, g3⟩, g4, g5, g6, hk, rs⟩ := e1.sl i _ hs'
    subst g2
    have ec := F.eq hc
    subst ec
    have el : vs.length = fs.length := by
      have q := congrArg List.length hk
      simpa using q
    obtain ⟨k2, k3⟩ := putF_reps (f := f) r1 hk rs
    refine ⟨.ref a, g1, a, C', dx, vs, rfl, g3, F.cl, na, by omega, ?_⟩
    refine n.nx W1 _ σ _ ((s.trans s1).own g6 g3 g4 g5) (e1.turn (s' := .ob c' a (putD f d fs)) hs' g1 (List.mem_singleton.mpr rfl) (fun _ h => h) ⟨_, rfl, ⟨C', dx, hc, upd_same⟩, g4, g5, g6, k2, k3⟩) hq
  · exact k1.elim
/-! ### making an object -/
/-- an __init__'s promise: the fields that the object has behind it -/
def spI (mg : Gm) (c : Str) (C : Addr) (n : Nat) (f : List D → ((List (Str × D)) → Prop) → (XD → Prop) → Prop) : Sp := fun vs H Q E => ∃ W ds us H1 x dx Qd Ed, vs = .ref x :: us ∧ H1 x = none ∧ H1 dx = none ∧ dx ≠ x ∧ H = upd (upd H1 dx (.own x)) x (.ins C dx []) ∧ Holds W H1 ∧ Reps mg W us ds ∧ ds.length = n ∧ f ds Qd Ed ∧
  (∀ W' H' gs fs dy, Step W H1 W' H' → H' x = some (.ins C dy gs) → W'.H x = none → ¬ W'.T x → gs.map (·.1) = fs.map (·.1) → Reps mg W' (gs.map (·.2)) (fs.map (·.2)) → Qd fs → Q .non H') ∧ ∀ W' H' cls dd y, Step W H1 W' H' → RepX mg W' H' cls dd y → Ed y → E cls dd H'
structure InitOk (P : Program) (w : World) (mg : Gm) (base : Heap) (k : Nat) (c : Str) (C : Addr) (n : Nat) (f : List D → ((List (Str × D)) → Prop) → (XD → Prop) → Prop) : Prop where
  ex : ∃ fa fd ps, Mk mg.K C fa ∧ Binds mg.K fd ps [] ∧ ps.length = n + 1 ∧ FnG P w mg.K mg.mg base k fa fd ps (spI mg c C n f)
/-- the making, where no repr is under way -/
theorem makeG {X : Cx} {C f : Addr} {k : Nat} {fd : FuncData} {ps : List Str} {sp : Sp} {Ex : XK} {pins : List (Addr × Obj)} {σ : St} {H : Hp} {z : Shared} {Q : VK} {us : List Value} {vs : List V} (M : Mk X.K C f) (F : FnG X.prog X.w X.K X.mg X.base k f fd ps sp) (m : RmG (k + 1) X.A) (hb : Binds X.K fd ps [])
    (hx : PassesAt (L2.CX X.prog X.w) X σ Ex) (I : Inv X pins σ H z) (rv : Vals vs us)
    (h : ∀ x dx, H x = none → H dx = none → dx ≠ x → sp (.ref x :: vs) (upd (upd H dx (.own x)) x (.ins C dx [])) (fun v H2 => v = .non ∧ Q (.ref x) H2) Ex) : wpAny (model X.prog X.w) X.A (call (.ref C) us) (EP X pins σ Q) X.xe z := by
  have fr0 := I.hok.fresh (Nat.le_refl z.heap.objs.size)
  have fr1 := I.hok.fresh (Nat.le_succ z.heap.objs.size)
  have want := h (z.heap.objs.size + 1) z.heap.objs.size fr1 fr0 (Nat.ne_of_lt (Nat.lt_succ_self _))
  have J := Inv.made (C := C) I
  have rv2 : Vals (V.ref (z.heap.objs.size + 1) :: vs) (Value.ref (z.heap.objs.size + 1) :: us) := .cons rfl rv
  have ln : (Value.ref (z.heap.objs.size + 1) :: us ++ []).length = ps.length := by
    rw [List.append_nil, ← rv2.length]
    exact F.ln _ _ _ _ want
  have bd := hb _ (Value.ref (z.heap.objs.size + 1) :: us) J.kIn ln
  rw [List.append_nil] at bd
  have gd : (X.A.under (.builtin "type.__call__" ⟨.ref C :: us, []⟩)).guards = some [] := by
    simp [Around.under, Code.guards, Code.isGuard, guardIds, pushGuards, m.g]
  have cd := F.go _ X.stack _ _ ⟨Value.ref (z.heap.objs.size + 1) :: us, []⟩ _ _ _ Ex ⟨m.r.make C us [], gd⟩ (J.env0.make C us []) bd rv2 want
  refine wpAny_call (make_map (f := f) I.kIn M.makes M.init (beq_iff_eq.mp M.fn) (codeAny_mono cd ?_))
  intro res z' hq
  match res, hq with
  | .error e, hq => exact hx pins _ _ e z' J hq
  | .ok .next, hq => exact hq.elim
  | .ok .brk, hq => exact hq.elim
  | .ok .cont, hq => exact hq.elim
  | .ok (.ret u), hq =>
    obtain ⟨v, H', I3, ru, ev, q3⟩ := J.after hq
    subst ev
    exact ⟨ru, ⟨V.ref (z.heap.objs.size + 1), H', I3, rfl, q3⟩⟩
abbrev dMake (c : Str) (f : List D → ((List (Str × D)) → Prop) → (XD → Prop) → Prop) (n : Nat) (g : DTA) : DTE := fun ρ Q E => g ρ (fun ds => ds.length = n ∧ f ds (fun fs => Q (.ins c fs)) E) E
theorem de_make {P : Program} {w : World} {base : Heap} {k n : Nat} {c : Str} {C : Addr} {f : List D → ((List (Str × D)) → Prop) → (XD → Prop) → Prop} {p : Pos} {e : Expr} {es : List Expr} {g : DTA} (Fc : ClsF mg c C) (F : InitOk P w mg base k c C n f) (hr : ∀ i, RmG (k + 1) (Xs i).A) (tk : ∀ i, Pas (Xs i) Wx) (ha : DA Xs mg Wx (e :: es) g)
    (hP : ∀ j, (Xs j).prog = P ∧ (Xs j).w = w ∧ (Xs j).K = mg.K ∧ (Xs j).mg = mg.mg ∧ (Xs j).base = base := by intro _; exact ⟨rfl, rfl, rfl, rfl, rfl⟩) (hg : ∀ j, Gl (Xs j) c := by intro _; rfl) (hd : (c == ("__debug__" : Str)) = false := by decide)
    (he : ∀ i, starEach (e :: es) (Xs i).env = (false, eval e (Xs i).env) :: starEach es (Xs i).env := by intro _; rfl) (hpl : ∀ i, (backTo pos (starEach es (Xs i).env)).any (·.1) = false := by intro _; rfl) : DE Xs mg Wx (.Call (.Name c p) (e :: es) [] pos) (dMake c f n g) := by
  obtain ⟨fa, fd, ps, M, hb, hl, G⟩ := F.ex
  obtain ⟨t, h1, h2⟩ := ha
  refine ⟨fun σ H Q => t σ H fun vs H1 => ∀ x dx, H1 x = none → H1 dx = none → dx ≠ x → spI mg c C n f (.ref x :: vs) (upd (upd H1 dx (.own x)) x (.ins C dx [])) (fun v H2 => v = .non ∧ Q (.ref x) H2) (WE Wx σ), fun i => ?_, ?_⟩
  · obtain ⟨p1, p2, p3, p4, p5⟩ := hP i
    subst p1 p2 p5
    constructor
    intro pins z σ H Q I hw
    apply wpAny_Call_Name_kw
    apply ld_glob I (hg i) (by rw [p4]; exact Fc.nm) _ hd
    apply PySem.W.callWith_K (h₀ := (Xs i).base) I.ok.mod.kin (by rw [p3]; exact M.kp) _ (he i) (hpl i)
    refine thn ((h1 i).run pos pins z σ H _ I hw) ?_
    rintro us z1 ⟨vs, H1, I1, rv, q⟩
    exact ⟨I1.kIn, makeG (by rw [p3]; exact M) (by rw [p3, p4]; exact G) (hr i) (by rw [p3]; exact hb) (tk i σ) I1 rv q⟩
  · intro B ρ Q E hf W σ H Q' hh e x q
    refine h2 B ρ _ E hf W σ H _ hh e x fun W1 H1 vs ds s1 r1 k1 => ?_
    intro a dx na ndx ne
    refine ⟨W1, ds, vs, H1, a, dx, _, E, rfl, na, ndx, ne, rfl, s1.holds, r1, k1.1, k1.2, fun W' H' gs fs dy s' ha' nw nt hk rs hq => ⟨rfl, ?_⟩, fun W' H' cls dd y s' r h => x W' H' cls dd y (s1.trans s') r h⟩
    have st := s'.taken na ha' nw nt
    exact q _ _ _ _ (s1.trans st) (.ins Fc.nm (show upd W'.H a _ a = _ from upd_same) hk (rs.mono (Wd.le_put nw))) hq
/-- an __init__ by its body: the object stands in slot 0 -/
theorem mkInit {P : Program} {w : World} {base : Heap} {c : Str} {C : Addr} {qual : Str} {st : Stmt} {N ps : List Str} {k n : Nat} {f : List D → ((List (Str × D)) → Prop) → (XD → Prop) → Prop} (Fc : ClsF mg c C) (d : ∃ fa fd, Mk mg.K C fa ∧ Fun mg.K "__init__" qual st fa fd) (S : FnScope N ps (defScope st)) (hn : ps.length = n + 1)
    (hb : ∀ (kV doc pm : Value) (an : Option Addr) (cdv ct : Value) (us : List Value), us.length = ps.length → bindArgs (PySem.W.fnOf "__init__" qual (defArgs st) (defBody st) (defScope st) .none kV doc pm an cdv ct) ⟨us, []⟩ = pure (ps.zip us))
    (h : ∀ (fa : Addr) (cdv : Value) (A : Around) (outer : List PySem.Env) (s : Shared) (H : Hp) (E : XK), RmG k (A.deeper (PyProof.Rows.envOfC qual (defScope st) s.heap.objs.size fa cdv)) →
      ∃ g, DSs (fun _ : Unit => cxOf (L2.CX P w) P w mg.K mg.mg base N qual (defScope st) fa cdv A outer s H E) mg (fun cls d _ H' => E cls d H') (defBody st) g ∧
        ∀ x ds Q Ex, ds.length = n → f ds Q Ex → g ⟨fun ρ => ∃ fs r, ρ = .ob c x fs :: r ∧ Q fs, fun _ _ => False, fun _ => False, fun _ => False, fun x _ => Ex x⟩ (.ob c x [] :: startD (N.length - 1) ds)) :
    InitOk P w mg base (k + 1) c C n f := by
  obtain ⟨fa, fd, M, F⟩ := d
  refine ⟨fa, fd, ps, M, F.binds hb, hn, ?_⟩
  refine fnG_of F S (fun vs H Q E hs => ?_) (fun cdv A outer s H vs Q E hr hs => ?_)
  · obtain ⟨W, ds, us, H1, x, dx, Qd, Ed, rfl, _, _, _, _, _, r, l, _⟩ := hs
    rw [List.length_cons, r.length, l, hn]
  · obtain ⟨W, ds, us, H1, x, dx, Qd, Ed, rfl, nx, ndx, ne, rfl, hh, r, l, hf, q, ex⟩ := hs
    obtain ⟨g, ⟨t, h1, h2⟩, h3⟩ := h fa cdv A outer s _ E hr
    have lu : us.length = n := by rw [r.length, l]
    have sd : Step W H1 W (upd H1 dx (.own x)) := Step.lay hh ndx
    have nx2 : (upd H1 dx (.own x)) x = none := by
      rw [upd_ne (Ne.symm ne)]
      exact nx
    have sx : Step W H1 W (upd (upd H1 dx (.own x)) x (.ins C dx [])) := sd.trans (Step.lay sd.holds nx2)
    refine ⟨t, h1 (), ?_⟩
    have hN : N.length = (N.length - 1) + 1 := by
      have q1 := congrArg List.length S.pre
      rw [List.length_take, hn] at q1
      omega
    have e0 : EnvR mg H1 W (upd (upd H1 dx (.own x)) x (.ins C dx [])) (L2.start N (.ref x :: us)) (.ob c x [] :: startD (N.length - 1) ds) := by
      have base0 := EnvR.start (N := N.tail) (mg := mg) (H := H1) r
      have lt : N.tail.length = N.length - 1 := List.length_tail
      have es : L2.start N (.ref x :: us) = some (.ref x) :: L2.start N.tail us := by
        unfold L2.start
        rw [List.map_cons, List.cons_append, List.length_cons, lt, Nat.sub_sub, Nat.add_comm 1]
      rw [es, ← lt]
      refine ⟨congrArg (· + 1) base0.len, fun i sl hi => ?_, fun i j s1 s2 o1 o2 a hij q1 q2 q3 q4 m1 m2 => ?_⟩
      · cases i with
        | zero =>
          cases hi
          exact ⟨_, rfl, [], rfl, ⟨C, dx, Fc.nm, upd_same⟩, hh.same.free nx, hh.nT nx, nx, rfl, .nil⟩
        | succ i =>
          obtain ⟨o, g1, g2⟩ := base0.sl i sl hi
          refine ⟨o, g1, g2.keep (Le.refl W) fun a _ u h5 h6 h7 => sx.mine h5 h6 h7⟩
      · have none2 : ∀ (j : Nat) (s : Sl) (o : Option V), (startD N.tail.length ds)[j]? = some s → a ∉ s.fp o := fun j s o hj m => by
          unfold startD at hj
          rcases List.mem_append.mp (List.mem_of_getElem? hj) with z | z
          · obtain ⟨_, _, z⟩ := List.mem_map.mp z
            rw [← z] at m
            cases m
          · have z := List.eq_of_mem_replicate z
            rw [z] at m
            cases m
        cases i with
        | succ i => exact none2 i s1 o1 q1 m1
        | zero =>
          cases j with
          | zero => exact hij rfl
          | succ j => exact none2 j s2 o2 q2 m2
    refine h2 W H1 _ _ (h3 x ds Qd Ed l hf) W _ _ _ sx e0 ⟨fun W' H' σ' ρ' s' e' k => ?_, fun _ _ _ _ _ _ _ _ _ k => k.elim, fun _ _ _ _ _ _ k => k.elim, fun _ _ _ _ _ _ k => k.elim, fun W' H' σ' ρ' cls dd y s' e' r' k => ex W' H' cls dd y s' r' k⟩
    obtain ⟨fs, rr, rfl, hq⟩ := k
    obtain ⟨o, g1, vs, g2, ⟨C', dy, hc, g3⟩, g4, g5, g6, hk, rs⟩ := e'.sl 0 _ rfl
    have ec := Fc.eq hc
    subst ec
    exact q W' H' vs fs dy s' g3 g4 g5 hk rs hq
end
end FP
/-! FP11: methods, properties, isinstance with an own class, len, in, [], str of own objects. -/
namespace FP
open PySem L2
variable [Tabl]
section
variable {ι : Type} {Xs : ι → Cx} {mg : Gm} {Wx : WX} {pos : Pos}
/-! ### methods -/
structure MethOk (P : Program) (w : World) (mg : Gm) (base : Heap) (k : Nat) (C : Addr) (m : Str) (n : Nat) (f : List D → M D) : Prop where
  ex : ∃ fa fd ps, Meth mg.K C m fa ∧ Binds mg.K fd ps [] ∧ ps.length = n ∧ FnG P w mg.K mg.mg base k fa fd ps (spD mg n f)
theorem mkMeth {P : Program} {w : World} {base : Heap} {C : Addr} {m qual : Str} {st : Stmt} {N ps : List Str} {k : Nat} {f : List D → M D} (d : ∃ fa fd, Meth mg.K C m fa ∧ Fun mg.K m qual st fa fd) (S : FnScope N ps (defScope st))
    (hb : ∀ (kV doc pm : Value) (an : Option Addr) (cdv ct : Value) (us : List Value), us.length = ps.length → bindArgs (PySem.W.fnOf m qual (defArgs st) (defBody st) (defScope st) .none kV doc pm an cdv ct) ⟨us, []⟩ = pure (ps.zip us))
    (h : ∀ (fa : Addr) (cdv : Value) (A : Around) (outer : List PySem.Env) (s : Shared) (H : Hp) (E : XK), RmG k (A.deeper (PyProof.Rows.envOfC qual (defScope st) s.heap.objs.size fa cdv)) →
      ∃ g, DSs (fun _ : Unit => cxOf (L2.CX P w) P w mg.K mg.mg base N qual (defScope st) fa cdv A outer s H E) mg (fun cls d _ H' => E cls d H') (defBody st) g ∧
        ∀ ds Q Ex, ds.length = ps.length → f ds Q Ex → g ⟨fun _ => Q .non, fun d _ => Q d, fun _ => False, fun _ => False, fun x _ => Ex x⟩ (startD N.length ds)) :
    MethOk P w mg base (k + 1) C m ps.length f := by
  obtain ⟨fa, fd, hm, F⟩ := d
  exact ⟨fa, fd, ps, hm, F.binds hb, rfl, def_ok F S (h fa)⟩
abbrev dMeth (c : Str) (f : List D → M D) (n : Nat) (m : Str) (go : DTE) (g : DTA) : DTE := fun ρ Q E => go ρ (fun x => match x with
  | .ins c' fs => c' = c ∧ fs.lookup m = none ∧ g ρ (fun ds => ds.length + 1 = n ∧ f (.ins c' fs :: ds) Q E) E
  | _ => False) E
theorem lookup_none {α β : Type} : ∀ {vs : List (Str × α)} {ds : List (Str × β)} {f : Str}, vs.map (·.1) = ds.map (·.1) → ds.lookup f = none → vs.lookup f = none
  | [], [], _, _, _ => rfl
  | [], _ :: _, _, h, _ => by cases h
  | _ :: _, [], _, h, _ => by cases h
  | (a, v) :: vs, (b, e) :: ds, f, hk, hl => by
    simp only [List.map_cons, List.cons.injEq] at hk
    obtain ⟨rfl, hk⟩ := hk
    rw [List.lookup_cons] at hl ⊢
    split at hl
    · cases hl
    · exact lookup_none hk hl
theorem de_meth {P : Program} {w : World} {base : Heap} {k n : Nat} {c m : Str} {C : Addr} {f : List D → M D} {apos : Pos} {o e : Expr} {es : List Expr} {go : DTE} {g : DTA} {pl : ι → Sem Bool} (Fc : ClsF mg c C) (F : MethOk P w mg base k C m n f) (hr : ∀ i, RmG k (Xs i).A) (tk : ∀ i, Pas (Xs i) Wx) (ho : DE Xs mg Wx o go) (ha : DA Xs mg Wx (e :: es) g)
    (hP : ∀ j, (Xs j).prog = P ∧ (Xs j).w = w ∧ (Xs j).K = mg.K ∧ (Xs j).mg = mg.mg ∧ (Xs j).base = base := by intro _; exact ⟨rfl, rfl, rfl, rfl, rfl⟩)
    (he : ∀ i, starEach (e :: es) (Xs i).env = (false, eval e (Xs i).env) :: starEach es (Xs i).env := by intro _; rfl) (hpl : ∀ i, (backTo pos (starEach es (Xs i).env)).any (·.1) = false := by intro _; rfl)
    (ht : ∀ i, eval (.Call (.Attribute o m apos) (e :: es) [] pos) (Xs i).env = (do
      let ov ← eval o (Xs i).env
      standAt apos.atName
      let (fn, first) ← holding [ov] (getMethod ov m (pl i))
      callWith pos fn first (backTo pos (starEach (e :: es) (Xs i).env)) (backToKw pos (keywordEach [] (Xs i).env))) := by intro _; rfl) : DE Xs mg Wx (.Call (.Attribute o m apos) (e :: es) [] pos) (dMeth c f n m go g) := by
  obtain ⟨fa, fd, ps, hm, hb, hl, G⟩ := F.ex
  obtain ⟨to, o1, o2⟩ := ho
  obtain ⟨t, h1, h2⟩ := ha
  refine ⟨fun σ H Q => to σ H fun x H1 => ∃ a dx fs, x = .ref a ∧ H1 a = some (.ins C dx fs) ∧ fs.lookup m = none ∧ t σ H1 fun vs H2 => spD mg n f (x :: vs) H2 Q (WE Wx σ), fun i => ?_, ?_⟩
  · obtain ⟨p1, p2, p3, p4, p5⟩ := hP i
    subst p1 p2 p5
    constructor
    intro pins z σ H Q I hw
    refine PySem.W.methodCall_KW (pl := pl i) (thn ((o1 i).run pins z σ H _ I hw) ?_) (ht i)
    rintro u z1 ⟨x, H1, I1, rx, a, dx, fs, ex, ea, l, q⟩
    subst ex
    have eu : u = Value.ref a := rx
    subst eu
    apply getmeth_ok I1 ea (by rw [p3]; exact Fc.cl) (by rw [p3]; exact hm) l
    apply PySem.W.callWith_K (first := [.ref a]) (h₀ := (Xs i).base) I.ok.mod.kin (by rw [p3]; exact hm.kp) _ (he i) (hpl i)
    refine thn ((h1 i).run pos pins z1 σ H1 _ I1 q) ?_
    rintro us z2 ⟨vs, H2, I2, rv, q2⟩
    exact ⟨I2.kIn, goG (Ew := WE Wx) (us := .ref a :: us) (vs := .ref a :: vs) (by rw [p3, p4]; exact G) (hr i) (by rw [p3]; exact hb) (tk i σ) I2 (.cons rfl rv) q2⟩
  · intro B ρ Q E hf W σ H Q' hh e x q
    refine o2 B ρ _ E hf W σ H _ hh e x fun W1 H1 v d s1 r1 k1 => ?_
    cases r1 with
    | @ins a C' dx fs c' ds hc ha hk rs =>
      obtain ⟨rfl, hno, k2⟩ := k1
      have ec := Fc.eq hc
      subst ec
      refine ⟨a, dx, fs, rfl, s1.holds.same _ _ ha, lookup_none hk hno, ?_⟩
      refine h2 B ρ _ E k2 W1 σ H1 _ s1.holds (e.step s1) (x.step s1) fun W2 H2 vs ds2 s2 r2 k3 => ?_
      have s12 := s1.trans s2
      exact ⟨W2, _, Q, E, s2.holds, .cons ((Rep.ins hc ha hk rs).mono s2.le) r2, k3.1, k3.2, ToV.step q s12, fun W' H' cls dd y s' r h => x W' H' cls dd y (s12.trans s') r h⟩
    | _ => exact k1.elim
/-! ### properties -/
structure PropOk (P : Program) (w : World) (mg : Gm) (base : Heap) (k : Nat) (C : Addr) (m : Str) (f : List D → M D) : Prop where
  ex : ∃ p fa fd ps, PropOf mg.K C m p fa ∧ Binds mg.K fd ps [] ∧ ps.length = 1 ∧ FnG P w mg.K mg.mg base k fa fd ps (spD mg 1 f)
theorem mkProp {P : Program} {w : World} {base : Heap} {C : Addr} {m qual : Str} {st : Stmt} {N ps : List Str} {k : Nat} {f : List D → M D} (d : ∃ p fa fd, PropOf mg.K C m p fa ∧ Fun mg.K m qual st fa fd) (S : FnScope N ps (defScope st)) (h1 : ps.length = 1)
    (hb : ∀ (kV doc pm : Value) (an : Option Addr) (cdv ct : Value) (us : List Value), us.length = ps.length → bindArgs (PySem.W.fnOf m qual (defArgs st) (defBody st) (defScope st) .none kV doc pm an cdv ct) ⟨us, []⟩ = pure (ps.zip us))
    (h : ∀ (fa : Addr) (cdv : Value) (A : Around) (outer : List PySem.Env) (s : Shared) (H : Hp) (E : XK), RmG k (A.deeper (PyProof.Rows.envOfC qual (defScope st) s.heap.objs.size fa cdv)) →
      ∃ g, DSs (fun _ : Unit => cxOf (L2.CX P w) P w mg.K mg.mg base N qual (defScope st) fa cdv A outer s H E) mg (fun cls d _ H' => E cls d H') (defBody st) g ∧
        ∀ ds Q Ex, ds.length = ps.length → f ds Q Ex → g ⟨fun _ => Q .non, fun d _ => Q d, fun _ => False, fun _ => False, fun x _ => Ex x⟩ (startD N.length ds)) :
    PropOk P w mg base (k + 1) C m f := by
  obtain ⟨p, fa, fd, hm, F⟩ := d
  have G := def_ok F S (h fa)
  rw [h1] at G
  exact ⟨p, fa, fd, ps, hm, F.binds hb, h1, G⟩
/-- a property that raises nothing -/
abbrev dProp (c : Str) (f : List D → M D) (go : DTE) : DTE := fun ρ Q E => go ρ (fun x => match x with
  | .ins c' fs => c' = c ∧ f [.ins c' fs] Q F0
  | _ => False) E
theorem getpropG {X : Cx} {k : Nat} {C p g a dx : Addr} {fs : List (Str × V)} {f : Str} {fd : FuncData} {ps : List Str} {sp : Sp} {pins : List (Addr × Obj)} {σ : St} {H : Hp} {z : Shared} {Q : VK} {b : Bool} {E' : Value → Shared → Prop} (I : Inv X pins σ H z) (ea : H a = some (.ins C dx fs)) (c : Cls X.K C) (hp : PropOf X.K C f p g)
    (F : FnG X.prog X.w X.K X.mg X.base k g fd ps sp) (m : RmG (k + 1) X.A) (hb : Binds X.K fd ps []) (h : sp [.ref a] H Q E0) : wpAny (model X.prog X.w) X.A (getAttr (.ref a) f b) (EP X pins σ Q) E' z := by
  obtain ⟨mA, O, _⟩ := ins_get I.hok ea
  obtain ⟨od, J, _⟩ := O.look
  obtain ⟨rest, hrec⟩ := hp.rec_
  have I1 := I.tok (z.toks + 1)
  have hc : (PySem.W.clsIn X.K C).isSome = true := by
    obtain ⟨cd, q, _⟩ := PySem.W.any_some c.hd
    rw [q]
    rfl
  have plain := PySem.W.plainGet_of (c.get f)
  refine PySem.W.get_bind I.kIn J plain.1 (PySem.W.findObj_data hc hp.at_ hp.get hp.tak) plain.2 (wpAny_call (PySem.W.prop_get (s := { z with toks := z.toks + 1 }) I.kIn hrec ?_))
  have bd := hb { z with toks := z.toks + 1 } [.ref a] I1.kIn (F.ln _ _ _ _ h)
  rw [List.append_nil] at bd
  have cd := F.go X.A.in1 X.stack { z with toks := z.toks + 1 } H ⟨[.ref a], []⟩ [.ref a] [.ref a] Q E0 m.in1 I1.env0.in1 bd (.cons rfl .nil) h
  refine codeAny_mono cd ?_
  intro res z' hq
  match res, hq with
  | .error e, hq =>
    obtain ⟨_, _, _, _, _, _, _, _, _, _, _, _, w⟩ := hq
    exact w.elim
  | .ok .next, hq => exact hq.elim
  | .ok .brk, hq => exact hq.elim
  | .ok .cont, hq => exact hq.elim
  | .ok (.ret u), hq =>
    obtain ⟨v, H', I3, rv, q3⟩ := I1.after hq
    show wpAny _ _ (handedOut u) _ _ _
    rw [PySem.W.handedOut_of (handed_of rv)]
    exact wpAny_pure ⟨v, H', I3, rv, q3⟩
theorem de_prop {P : Program} {w : World} {base : Heap} {k : Nat} {c m : Str} {C : Addr} {f : List D → M D} {o : Expr} {go : DTE} (Fc : ClsF mg c C) (F : PropOk P w mg base k C m f) (hr : ∀ i, RmG (k + 1) (Xs i).A) (ho : DE Xs mg Wx o go)
    (hP : ∀ j, (Xs j).prog = P ∧ (Xs j).w = w ∧ (Xs j).K = mg.K ∧ (Xs j).mg = mg.mg ∧ (Xs j).base = base := by intro _; exact ⟨rfl, rfl, rfl, rfl, rfl⟩) (hab : ∀ j, attributeBase o m (Xs j).env (eval o (Xs j).env) = eval o (Xs j).env := by intro _; rfl) : DE Xs mg Wx (.Attribute o m pos) (dProp c f go) := by
  obtain ⟨p, fa, fd, ps, hm, hb, hl, G⟩ := F.ex
  obtain ⟨to, o1, o2⟩ := ho
  refine ⟨fun σ H Q => to σ H fun x H1 => ∃ a dx fs, x = .ref a ∧ H1 a = some (.ins C dx fs) ∧ spD mg 1 f [.ref a] H1 Q E0, fun i => ?_, ?_⟩
  · obtain ⟨p1, p2, p3, p4, p5⟩ := hP i
    subst p1 p2 p5
    constructor
    intro pins z σ H Q I hw
    refine attr_of (hab i) (thn ((o1 i).run pins z σ H _ I hw) ?_)
    rintro u z1 ⟨x, H1, I1, rx, a, dx, fs, ex, ea, q⟩
    subst ex
    have eu : u = Value.ref a := rx
    subst eu
    exact getpropG I1 ea (by rw [p3]; exact Fc.cl) (by rw [p3]; exact hm) (by rw [p3, p4]; exact G) (hr i) (by rw [p3]; exact hb) q
  · intro B ρ Q E hf W σ H Q' hh e x q
    refine o2 B ρ _ E hf W σ H _ hh e x fun W1 H1 v d s1 r1 k1 => ?_
    cases r1 with
    | @ins a C' dx fs c' ds hc ha hk rs =>
      obtain ⟨rfl, k2⟩ := k1
      have ec := Fc.eq hc
      subst ec
      exact ⟨a, dx, fs, rfl, s1.holds.same _ _ ha, W1, _, Q, F0, s1.holds, .cons (.ins hc ha hk rs) .nil, rfl, k2, ToV.step q s1, fun _ _ _ _ _ _ _ h => h⟩
    | _ => exact k1.elim
/-! ### isinstance with a class of the text -/
/-- what isinstance says of built-in kinds and of the classes cs -/
structure IsiF (mg : Gm) (C : Addr) (cs : List Str) (yes : Str → Bool) : Prop where
  bn : ∀ n ∈ ["NoneType", "bool", "int", "str", "tuple", "list", "dict"], PySem.W.kitOne mg.K (.type n) (.ref C) = some false
  cl : ∀ c ∈ cs, ∃ C', ClsF mg c C' ∧ PySem.W.kitOne mg.K (.ref C') (.ref C) = some (yes c)
def isiD (cs : List Str) (yes : Str → Bool) : D → Option Bool
  | .ins c _ => if c ∈ cs then some (yes c) else none
  | .fz _ => none
  | .cl _ => none
  | .fn _ _ => none
  | _ => some false
abbrev dIsiO (cs : List Str) (yes : Str → Bool) (f : DTE) : DTE := fun ρ Q E => f ρ (fun x => match isiD cs yes x with
  | some b => Q (.bl b)
  | none => False) E
theorem isiD_v {W : Wd} {H : Hp} {C : Addr} {cs : List Str} {yes : Str → Bool} {x : V} {d : D} {b : Bool} (K : IsiF mg C cs yes) (hh : Holds W H) (r : Rep mg W x d) (h : isiD cs yes d = some b) : ∃ t, TyX mg.K H x t ∧ PySem.W.kitOne mg.K t (.ref C) = some b := by
  cases r with
  | @ins a C0 dx fs c ds hc ha hk rs =>
    have h' : (if c ∈ cs then some (yes c) else none) = some b := h
    by_cases hm : c ∈ cs
    · rw [if_pos hm] at h'
      cases h'
      obtain ⟨C', F, hy⟩ := K.cl _ hm
      have ec := F.eq hc
      subst ec
      exact ⟨_, .base (.ins (hh.same _ _ ha) F.cl F.ha F.hn F.htk F.hm), hy⟩
    · rw [if_neg hm] at h'
      cases h'
  | fz _ _ => cases h
  | cl _ => cases h
  | fn _ => cases h
  | non => cases h; exact ⟨_, tyName_v (mg := mg) hh .non rfl, K.bn _ (by decide)⟩
  | bl k => cases h; exact ⟨_, tyName_v (mg := mg) hh (.bl k) rfl, K.bn _ (by decide)⟩
  | int k => cases h; exact ⟨_, tyName_v (mg := mg) hh (.int k) rfl, K.bn _ (by decide)⟩
  | str k => cases h; exact ⟨_, tyName_v (mg := mg) hh (.str k) rfl, K.bn _ (by decide)⟩
  | tup ha rs => cases h; exact ⟨_, tyName_v (mg := mg) hh (.tup ha rs) rfl, K.bn _ (by decide)⟩
  | lst ha rs => cases h; exact ⟨_, tyName_v (mg := mg) hh (.lst ha rs) rfl, K.bn _ (by decide)⟩
  | dct ha hk rs => cases h; exact ⟨_, tyName_v (mg := mg) hh (.dct ha hk rs) rfl, K.bn _ (by decide)⟩
  | tok t => cases h; exact ⟨_, tyName_v (mg := mg) hh (.tok t) rfl, K.bn _ (by decide)⟩
theorem de_isiO {e : Expr} {f : DTE} {c : Str} {C : Addr} {cs : List Str} {yes : Str → Bool} {p p2 : Pos} (h : DE Xs mg Wx e f) (hm : mg.mg "isinstance" = none) (Fc : mg.mg c = some (.ref C)) (K : IsiF mg C cs yes) (hv : bootBuiltins "isinstance" = some (.builtin "isinstance"))
    (hK : ∀ j, (Xs j).K = mg.K := by intro _; rfl) (hM : ∀ j, (Xs j).mg = mg.mg := by intro _; rfl) (hg : ∀ j, Gl (Xs j) "isinstance" := by intro _; rfl) (hgT : ∀ j, Gl (Xs j) c := by intro _; rfl) (hd : (c == ("__debug__" : Str)) = false := by decide)
    (he : ∀ j, starEach [e, .Name c p2] (Xs j).env = (false, eval e (Xs j).env) :: starEach [.Name c p2] (Xs j).env := by intro _; rfl) (he2 : ∀ j, starEach [.Name c p2] (Xs j).env = [(false, eval (.Name c p2) (Xs j).env)] := by intro _; rfl)
    (hpl : ∀ j, (backTo pos (starEach [.Name c p2] (Xs j).env)).any (·.1) = false := by intro _; rfl) : DE Xs mg Wx (.Call (.Name "isinstance" p) [e, .Name c p2] [] pos) (dIsiO cs yes f) := by
  obtain ⟨t, h1, h2⟩ := h
  refine ⟨tCB (rIsi mg.K) (tCons t (tCons (tC (.ref C)) tNil)), fun j => ?_, ?_⟩
  · exact pe_callB (call_isiK2 (hK j)) (hg j) (by rw [hM j]; exact hm) hv (pa_cons (h1 j) (pa_cons (pe_glob (v := .ref C) (hgT j) (by rw [hM j]; exact Fc) rfl hd) pa_nil (he2 j)) (he j)) (by decide) (by decide) (he j) (hpl j)
  · intro B ρ Q E hf W σ H Q' hh e x q
    refine h2 B ρ _ E hf W σ H _ hh e x fun W1 H1 v d s1 r1 k1 => ?_
    dsimp only at k1
    split at k1
    · rename_i b hb
      obtain ⟨ty, hy, hk⟩ := isiD_v K s1.holds r1 hb
      exact ⟨v, .ref C, ty, .ref C, b, rfl, .own C, hy, hk, q W1 H1 _ _ s1 (.bl b) k1⟩
    · exact k1.elim
end
end FP
/-! FP12: what Python asks of own objects by special methods: len, in, ==, str, []. -/
namespace FP
open PySem L2
variable [Tabl]
theorem CX.none {P : Program} {w : World} {out : List PySem.Env} {H : Hp} {z : Shared} {e : Value} {z' : Shared} (h : L2.CX P w out H z E0 e z') : False := by
  obtain ⟨_, _, _, _, _, _, _, _, _, _, _, _, w⟩ := h
  exact w
/-- a callee that raises nothing, at any place -/
theorem callAt0 {X : Cx} {k : Nat} {f : Addr} {fd : FuncData} {ps : List Str} {sp : Sp} {pins : List (Addr × Obj)} {σ : St} {H : Hp} {z : Shared} {Q : VK} {us : List Value} {vs : List V} {E' : Value → Shared → Prop} (F : FnG X.prog X.w X.K X.mg X.base k f fd ps sp) {A' : Around} (m : RmG k A') (hA : A'.frames = X.A.frames)
    (hb : Binds X.K fd ps []) (I : Inv X pins σ H z) (rv : Vals vs us) (h : sp vs H Q E0) : wpAny (model X.prog X.w) A' (call (.ref f) us) (EP X pins σ Q) E' z := by
  have hl : (us ++ []).length = ps.length := by
    rw [List.append_nil, ← rv.length]
    exact F.ln _ _ _ _ h
  have bd := hb z us I.kIn hl
  rw [List.append_nil] at bd
  have e0 := I.env0
  have cd := F.go A' X.stack z H ⟨us, []⟩ us vs Q E0 m ⟨by rw [hA]; exact e0.frames, e0.mod, e0.bs, e0.bsz, e0.funs, e0.frf, e0.hok, e0.bare⟩ bd rv h
  refine wpAny_call (codeAny_mono cd ?_)
  intro res z' hq
  match res, hq with
  | .error e, hq => exact (CX.none hq).elim
  | .ok (.ret u), hq => exact I.after hq
  | .ok .next, hq => exact hq.elim
  | .ok .brk, hq => exact hq.elim
  | .ok .cont, hq => exact hq.elim
/-- a special method of a class: found, a def of the text, with its promise -/
structure SpecOk (P : Program) (w : World) (mg : Gm) (base : Heap) (k : Nat) (C : Addr) (m : Str) (n : Nat) (f : List D → M D) : Prop where
  ex : ∃ fa fd ps, PySem.W.findIn mg.K (.ref C) m = some (some (.ref fa)) ∧ PySem.W.isFn mg.K (.ref fa) = true ∧ PySem.W.fnIn mg.K fa = true ∧ Binds mg.K fd ps [] ∧ ps.length = n ∧ FnG P w mg.K mg.mg base k fa fd ps (spD mg n f)
section
variable {ι : Type} {Xs : ι → Cx} {mg : Gm} {Wx : WX} {pos : Pos} {P : Program} {w : World} {base : Heap} {k : Nat} {c : Str} {C : Addr} {f : List D → M D}
/-- the contexts are those of the module -/
abbrev HPs (Xs : ι → Cx) (P : Program) (w : World) (mg : Gm) (base : Heap) : Prop := ∀ j, (Xs j).prog = P ∧ (Xs j).w = w ∧ (Xs j).K = mg.K ∧ (Xs j).mg = mg.mg ∧ (Xs j).base = base
theorem spD_of {W : Wd} {H : Hp} {Q : D → Prop} {Q' : VK} {vs : List V} {ds : List D} {n : Nat} (hh : Holds W H) (r : Reps mg W vs ds) (hl : ds.length = n) (h : f ds Q F0) (q : ToV mg W H Q Q') : spD mg n f vs H Q' E0 :=
  ⟨W, ds, Q, F0, hh, r, hl, h, q, fun _ _ _ _ _ _ _ h => h⟩
/-! ### len -/
def rdLenM (c : Str) (f : List D → M D) : RDL := fun ds Q => match ds with
  | [.ins c' fs] => c' = c ∧ f [.ins c' fs] (fun d => match d with
    | .int n => (0 ≤ n ∧ n < 2 ^ 63) ∧ Q (.int n)
    | _ => False) F0
  | _ => False
theorem ok_lenM (Fc : ClsF mg c C) (S : SpecOk P w mg base k C "__len__" 1 f) (hr : ∀ j, RmG (k + 1) (Xs j).A) (hP : HPs Xs P w mg base := by intro _; exact ⟨rfl, rfl, rfl, rfl, rfl⟩) : CallOk Xs mg (.builtin "len") (rdLenM c f) := by
  obtain ⟨fa, fd, ps, h1, h2, h3, hb, hl, G⟩ := S.ex
  refine ⟨fun xs H Q => ∃ a dx fs, xs = [.ref a] ∧ H a = some (.ins C dx fs) ∧ spD mg 1 f [.ref a] H (fun v H' => ∃ n : Int, v = .int n ∧ (0 ≤ n ∧ n < 2 ^ 63) ∧ Q (.int n) H') E0, fun j => ?_, ?_⟩
  · obtain ⟨p1, p2, p3, p4, p5⟩ := hP j
    subst p1 p2 p5
    intro pins z σ H xs us Q I rv h
    obtain ⟨a, dx, fs, rfl, ea, hs⟩ := h
    obtain ⟨u, rfl, ru⟩ := vals1 rv
    cases ru
    obtain ⟨mA, O, _⟩ := ins_get I.hok ea
    obtain ⟨od, J, _⟩ := O.look
    obtain ⟨m, hF⟩ := I.fr
    refine PySem.W.len_K hF I.ok.mod.kin J (by rw [p3]; exact h1) (by rw [p3]; exact h2) ?_
    refine wpAny_mono (callAt0 (X := Xs j) (by rw [p3, p4]; exact G) (hr j).in1 rfl (by rw [p3]; exact hb) I (vs := [.ref a]) (.cons (show RelV (.ref _) (.ref _) from rfl) .nil) hs) (fun v z' hv => ?_) fun _ _ q => q
    obtain ⟨x, H', I', rx, n, rfl, hn, hq⟩ := hv
    obtain ⟨t, rfl⟩ := (show ∃ t, v = Value.int n t from rx)
    exact ⟨hn, .int n, H', I'.tok _, ⟨_, rfl⟩, hq⟩
  · intro W H vs ds Q Q' hh r h q
    unfold rdLenM at h
    split at h
    · cases r with
      | cons r rs =>
        cases rs
        cases r with
        | @ins a C' dx fs c' ds hc ha hk rs =>
          obtain ⟨rfl, h⟩ := h
          have ec := Fc.eq hc
          subst ec
          refine ⟨a, dx, fs, rfl, hh.same _ _ ha, spD_of hh (.cons (.ins hc ha hk rs) .nil) rfl h fun W' H' v d s' r' hd => ?_⟩
          cases r' with
          | int n => exact ⟨n, rfl, hd.1, q W' H' _ _ s' (.int n) hd.2⟩
          | _ => exact hd.elim
    · exact h.elim
/-! ### in -/
def rdInM (neg : Bool) (c : Str) (f : List D → M D) : RD2 := fun x y Q => match y with
  | .ins c' fs => c' = c ∧ f [.ins c' fs, x] (fun d => blc d fun b => Q (.bl (if neg then !b else b))) F0
  | _ => False
theorem ok_inM (Fc : ClsF mg c C) (S : SpecOk P w mg base k C "__contains__" 2 f) (hr : ∀ j, RmG k (Xs j).A) (hP : HPs Xs P w mg base := by intro _; exact ⟨rfl, rfl, rfl, rfl, rfl⟩) : OpOk Xs mg (compareOp .In) (rdInM false c f) := by
  obtain ⟨fa, fd, ps, h1, h2, h3, hb, hl, G⟩ := S.ex
  refine ⟨fun x y H Q => ∃ a dx fs, y = .ref a ∧ H a = some (.ins C dx fs) ∧ spD mg 2 f [.ref a, x] H (fun v H' => ∃ b, v = .bl b ∧ Q (.bl b) H') E0, fun j => ?_, ?_⟩
  · obtain ⟨p1, p2, p3, p4, p5⟩ := hP j
    subst p1 p2 p5
    intro pins z σ H x y v u Q I rx ry h
    obtain ⟨a, dx, fs, rfl, ea, hs⟩ := h
    cases ry
    obtain ⟨mA, O, _⟩ := ins_get I.hok ea
    obtain ⟨od, J, _⟩ := O.look
    obtain ⟨m, hF⟩ := I.fr
    refine PySem.W.in_K hF I.ok.mod.kin J (by rw [p3]; exact h1) (by rw [p3]; exact h2) ?_
    refine wpAny_mono (callAt0 (X := Xs j) (by rw [p3, p4]; exact G) (hr j) rfl (by rw [p3]; exact hb) I (vs := [.ref a, x]) (.cons (show RelV (.ref _) (.ref _) from rfl) (.cons rx .nil)) hs) (fun r z' hv => ?_) fun _ _ q => q
    obtain ⟨y, H', I', ry, b, rfl, hq⟩ := hv
    cases ry
    exact wpAny_truthy_bool ⟨.bl b, H', I', rfl, hq⟩
  · intro W H x y dx dy Q Q' hh rx ry h q
    cases ry with
    | @ins a C' ax fs c' ds hc ha hk rs =>
      obtain ⟨rfl, h⟩ := h
      have ec := Fc.eq hc
      subst ec
      refine ⟨a, ax, fs, rfl, hh.same _ _ ha, spD_of hh (.cons (.ins hc ha hk rs) (.cons rx .nil)) rfl h fun W' H' v d s' r' hd => ?_⟩
      cases r' with
      | bl b => exact ⟨b, rfl, q W' H' _ _ s' (.bl b) hd⟩
      | _ => exact hd.elim
    | _ => exact h.elim
/-! ### str -/
def rdStrM (c : Str) (f : List D → M D) : RDL := fun ds Q => match ds with
  | [.ins c' fs] => c' = c ∧ f [.ins c' fs] (fun d => match d with
    | .str z => Q (.str z)
    | _ => False) F0
  | _ => False
theorem ok_strM (Fc : ClsF mg c C) (S : SpecOk P w mg base k C "__str__" 1 f) (hr : ∀ j, RmG (k + 2) (Xs j).A) (hP : HPs Xs P w mg base := by intro _; exact ⟨rfl, rfl, rfl, rfl, rfl⟩) : CallOk Xs mg (.type "str") (rdStrM c f) := by
  obtain ⟨fa, fd, ps, h1, h2, h3, hb, hl, G⟩ := S.ex
  refine ⟨fun xs H Q => ∃ a dx fs, xs = [.ref a] ∧ H a = some (.ins C dx fs) ∧ spD mg 1 f [.ref a] H (fun v H' => ∃ n : Str, v = .str n ∧ Q (.str n) H') E0, fun j => ?_, ?_⟩
  · obtain ⟨p1, p2, p3, p4, p5⟩ := hP j
    subst p1 p2 p5
    intro pins z σ H xs us Q I rv h
    obtain ⟨a, dx, fs, rfl, ea, hs⟩ := h
    obtain ⟨u, rfl, ru⟩ := vals1 rv
    cases ru
    obtain ⟨mA, O, _⟩ := ins_get I.hok ea
    obtain ⟨od, J, _⟩ := O.look
    have m2 : RmG k (Xs j).A.in1.in1 := (RmG.in1 (k := k + 1) (hr j)).in1
    refine PySem.W.kso_call m2.r.units0 I.kIn J (by rw [p3]; exact h1) (by rw [p3]; exact h2) ?_
    refine wpAny_mono (callAt0 (X := Xs j) (by rw [p3, p4]; exact G) m2 rfl (by rw [p3]; exact hb) I (vs := [.ref a]) (.cons (show RelV (.ref _) (.ref _) from rfl) .nil) hs) (fun v z' hv => ?_) fun _ _ q => q
    obtain ⟨x, H', I', rx, n, rfl, hq⟩ := hv
    obtain ⟨t, rfl⟩ := (show ∃ t, v = Value.str n t from rx)
    exact ⟨.str n, H', I', ⟨_, rfl⟩, hq⟩
  · intro W H vs ds Q Q' hh r h q
    unfold rdStrM at h
    split at h
    · cases r with
      | cons r rs =>
        cases rs
        cases r with
        | @ins a C' dx fs c' ds hc ha hk rs =>
          obtain ⟨rfl, h⟩ := h
          have ec := Fc.eq hc
          subst ec
          refine ⟨a, dx, fs, rfl, hh.same _ _ ha, spD_of hh (.cons (.ins hc ha hk rs) .nil) rfl h fun W' H' v d s' r' hd => ?_⟩
          cases r' with
          | str n => exact ⟨n, rfl, q W' H' _ _ s' (.str n) hd⟩
          | _ => exact hd.elim
    · exact h.elim
/-! ### == -/
/-- the class does not stand ahead of the other's, for the kinds of values at hand -/
structure EqF (mg : Gm) (C : Addr) (cs : List Str) : Prop where
  bn : ∀ n ∈ ["NoneType", "bool", "int", "str", "tuple", "list", "dict"], PySem.W.notFirst mg.K C (.type n) = true
  cl : ∀ c ∈ cs, ∃ C', ClsF mg c C' ∧ PySem.W.notFirst mg.K C (.ref C') = true
def eqKind (cs : List Str) : D → Prop
  | .ins c _ => c ∈ cs
  | .fz _ => False
  | .cl _ => False
  | .fn _ _ => False
  | _ => True
def rdEqM (cs : List Str) (c : Str) (f : List D → M D) : RD2 := fun x y Q => match x with
  | .ins c' fs => c' = c ∧ eqKind cs y ∧ f [.ins c' fs, y] (fun d => blc d fun b => Q (.bl b)) F0
  | _ => False
/-- the type of a value; frozen dicts too -/
def TyL (K : PySem.W.Frag) (H : Hp) (x : V) (t : Value) : Prop := TyOf K H x t ∨ ∃ a o kvs, x = .ref a ∧ H a = some (.frz o (.dK kvs)) ∧ t = .type "dict"
theorem type_looks0 {X : Cx} {pins : List (Addr × Obj)} {σ : St} {H : Hp} {z : Shared} {x : V} {u t : Value} {M : Model} (I : Inv X pins σ H z) (rx : RelV x u) (ty : TyOf X.K H x t) : PySem.W.Looks M z.heap (typeOf u) t := by
  have ref : ∀ {a : Addr} {o : Obj} {t : Value}, z.heap.get? a = some o → o.cls = t → PySem.W.Looks M z.heap (typeOf (.ref a)) t := fun h1 h2 => h2 ▸ (PySem.W.Looks.ld h1).andThen .now
  cases ty with
  | non => cases rx; exact PySem.W.Looks.of_pure rfl
  | bl b => cases rx; exact PySem.W.Looks.of_pure rfl
  | int i => obtain ⟨t, rfl⟩ := (show ∃ t, u = Value.int i t from rx); exact PySem.W.Looks.of_pure rfl
  | str y => obtain ⟨t, rfl⟩ := (show ∃ t, u = Value.str y t from rx); exact PySem.W.Looks.of_pure rfl
  | flt y => obtain ⟨t, rfl⟩ := (show ∃ t, u = Value.float y t from rx); exact PySem.W.Looks.of_pure rfl
  | @lst a xs ea =>
    cases rx
    obtain ⟨_, _, n, _, h1⟩ := (show ObjOk X.prog X.w H z.heap a (.lst xs) from I.hok a _ ea)
    exact ref h1 rfl
  | @frz a ob xs ea =>
    cases rx
    obtain ⟨_, _, _, n, _, h1⟩ := (show ObjOk X.prog X.w H z.heap a (.frz ob (.lst xs)) from I.hok a _ ea)
    exact ref h1 rfl
  | @tup a xs ea =>
    cases rx
    obtain ⟨_, _, _, o, h1, h2, _⟩ := (show ObjOk X.prog X.w H z.heap a (.tup xs) from I.hok a _ ea)
    exact ref h1 h2
  | @dK a kvs ea =>
    cases rx
    obtain ⟨_, _, vs, _, o, es, ep, h1, h2, _⟩ := (show ObjOk X.prog X.w H z.heap a (.dK kvs) from I.hok a _ ea)
    exact ref h1 h2.1
  | @dT a kvs ea =>
    cases rx
    obtain ⟨_, _, xs, _, o, es, ep, h1, h2, _⟩ := (show ObjOk X.prog X.w H z.heap a (.dT kvs) from I.hok a _ ea)
    exact ref h1 h2.1
  | @ins a C dx fs ea cl ha hn htk hm =>
    cases rx
    obtain ⟨mA, O, _⟩ := ins_get I.hok ea
    obtain ⟨od, J, _⟩ := O.look
    exact J.type
theorem type_looks {X : Cx} {pins : List (Addr × Obj)} {σ : St} {H : Hp} {z : Shared} {x : V} {u t : Value} {M : Model} (I : Inv X pins σ H z) (rx : RelV x u) (ty : TyL X.K H x t) : PySem.W.Looks M z.heap (typeOf u) t := by
  rcases ty with ty | ⟨a, o, kvs, rfl, ea, rfl⟩
  · exact type_looks0 I rx ty
  · cases rx
    obtain ⟨_, hx⟩ := (show ObjOk X.prog X.w H z.heap a (.frz o (.dK kvs)) from I.hok a _ ea)
    obtain ⟨_, _, vs, _, o', es, ep, h1, h2, _⟩ := hx
    exact h2.1 ▸ (PySem.W.Looks.ld h1).andThen .now
/-- the kinds of values that may stand on the other side, with their types -/
theorem eqKind_v {W : Wd} {H : Hp} {C : Addr} {cs : List Str} {x : V} {d : D} (K : EqF mg C cs) (hh : Holds W H) (r : Rep mg W x d) (h : eqKind cs d) : ∃ t, TyL mg.K H x t ∧ PySem.W.notFirst mg.K C t = true := by
  cases r with
  | @ins a C0 dx fs c ds hc ha hk rs =>
    obtain ⟨C', F, hy⟩ := K.cl _ h
    have ec := F.eq hc
    subst ec
    exact ⟨_, .inl (.ins (hh.same _ _ ha) F.cl F.ha F.hn F.htk F.hm), hy⟩
  | fz ha => exact h.elim
  | cl ha => exact h.elim
  | fn ha => exact h.elim
  | non => exact ⟨_, .inl .non, K.bn _ (by decide)⟩
  | bl b => exact ⟨_, .inl (.bl b), K.bn _ (by decide)⟩
  | int b => exact ⟨_, .inl (.int b), K.bn _ (by decide)⟩
  | str b => exact ⟨_, .inl (.str b), K.bn _ (by decide)⟩
  | lst ha rs => exact ⟨_, .inl (.lst (hh.same _ _ ha)), K.bn _ (by decide)⟩
  | tup ha rs => exact ⟨_, .inl (.tup (hh.same _ _ ha)), K.bn _ (by decide)⟩
  | dct ha hk rs => exact ⟨_, .inr ⟨_, _, _, rfl, hh.same _ _ ha, rfl⟩, K.bn _ (by decide)⟩
  | tok t =>
    obtain ⟨_, _, _, _, h2⟩ := hh.tok _ t
    exact ⟨_, .inl (.lst h2), K.bn _ (by decide)⟩
theorem ok_eqM {cs : List Str} (Fc : ClsF mg c C) (S : SpecOk P w mg base k C "__eq__" 2 f) (K : EqF mg C cs) (hr : ∀ j, RmG k (Xs j).A) (hP : HPs Xs P w mg base := by intro _; exact ⟨rfl, rfl, rfl, rfl, rfl⟩) : OpOk Xs mg (compareOp .Eq) (rdEqM cs c f) := by
  obtain ⟨fa, fd, ps, h1, h2, h3, hb, hl, G⟩ := S.ex
  refine ⟨fun x y H Q => ∃ a dx fs t, x = .ref a ∧ H a = some (.ins C dx fs) ∧ TyL mg.K H y t ∧ PySem.W.notFirst mg.K C t = true ∧ spD mg 2 f [.ref a, y] H (fun v H' => ∃ b, v = .bl b ∧ Q (.bl b) H') E0, fun j => ?_, ?_⟩
  · obtain ⟨p1, p2, p3, p4, p5⟩ := hP j
    subst p1 p2 p5
    intro pins z σ H x y v u Q I rx ry h
    obtain ⟨a, dx, fs, t, rfl, ea, ty, hn, hs⟩ := h
    cases rx
    obtain ⟨mA, O, _⟩ := ins_get I.hok ea
    obtain ⟨od, J, _⟩ := O.look
    obtain ⟨m, hF⟩ := I.fr
    refine PySem.W.cmp_K (op := .Eq) (by have := (hr j).r.un; omega) hF I.ok.mod.kin J (type_looks I ry (by rw [p3]; exact ty)) (by rw [p3]; exact hn) (by rw [p3]; exact h1) (by rw [p3]; exact h2) ?_
    refine wpAny_mono (callAt0 (X := Xs j) (by rw [p3, p4]; exact G) (hr j) rfl (by rw [p3]; exact hb) I (vs := [.ref a, y]) (.cons (show RelV (.ref _) (.ref _) from rfl) (.cons ry .nil)) hs) (fun r z' hv => ?_) fun _ _ q => q
    obtain ⟨y, H', I', ry, b, rfl, hq⟩ := hv
    cases ry
    exact ⟨.bl b, H', I', rfl, hq⟩
  · intro W H x y dx dy Q Q' hh rx ry h q
    cases rx with
    | @ins a C' ax fs c' ds hc ha hk rs =>
      obtain ⟨rfl, hy, h⟩ := h
      have ec := Fc.eq hc
      subst ec
      obtain ⟨t, ty, hn⟩ := eqKind_v K hh ry hy
      refine ⟨a, ax, fs, t, rfl, hh.same _ _ ha, ty, hn, spD_of hh (.cons (.ins hc ha hk rs) (.cons ry .nil)) rfl h fun W' H' v d s' r' hd => ?_⟩
      cases r' with
      | bl b => exact ⟨b, rfl, q W' H' _ _ s' (.bl b) hd⟩
      | _ => exact hd.elim
    | _ => exact h.elim
/-! ### != by an own == -/
theorem ifBoundS {M : Model} {A : Around} {E : Value → Shared → Prop} {s : Shared} {K : PySem.W.Frag} {x C : Addr} {ox : Obj} {od : Option Obj} {name : Str} {id : String} {args : List Value} {Q : Option Value → Shared → Prop} (X : K.In s.heap) (I : PySem.W.InstAt s.heap x ox C od)
    (hs : PySem.W.findIn K (.ref C) name = some (some (.builtin id))) (hb : ∀ self, bindSpecial (.builtin id) self = pure (.builtin id, [self])) (h : wpAny M A (call (.builtin id) (.ref x :: args)) (fun v => Q (some v)) E s) : wpAny M A (callSpecialIfBound? (.ref x) name args) Q E s := by
  simp only [callSpecialIfBound?, bindSpecialIfBound?]
  refine wpAny_holding (wpAny_bind (wpAny_bind (wpAny_bind (I.type.here ((PySem.W.looks_findIn X hs).here ?_)))))
  refine wpAny_bind (wpAny_askSetting (wpAny_ite ?_))
  have fin : wpAny M A (call (.builtin id) ([.ref x] ++ args) >>= fun v => pure (some v)) Q E s := wpAny_bind (wpAny_mono h (fun v s' h' => wpAny_pure h') fun _ _ h' => h')
  split
  · exact wpAny_bind ((PySem.W.Looks.of_pure (hb _)).here (wpAny_pure (by exact fin)))
  · exact wpAny_tryCatch (wpAny_bind ((PySem.W.Looks.of_pure (hb _)).here (wpAny_pure (by exact fin))))
theorem neK {prog : Program} {w : World} {A : Around} {E : Value → Shared → Prop} {s : Shared} {K : PySem.W.Frag} {x C f : Addr} {ox : Obj} {od : Option Obj} {b tb : Value} {Q : Value → Shared → Prop} (hu : A.units + 1 < cLine) (X : K.In s.heap) (I : PySem.W.InstAt s.heap x ox C od)
    (hb : PySem.W.Looks (model prog w) s.heap (typeOf b) tb) (hn : PySem.W.notFirst K C tb = true) (hne : PySem.W.findIn K (.ref C) "__ne__" = some (some (.builtin "object.__ne__"))) (hm : PySem.W.mroIn K C (.type "object") = some true)
    (hs : PySem.W.findIn K (.ref C) "__eq__" = some (some (.ref f))) (hf : PySem.W.isFn K (.ref f) = true)
    (h : wpAny (model prog w) A.in1 (call (.ref f) [.ref x, b]) (fun v s' => ∃ c, v = .bool c ∧ Q (.bool (!c)) s') E s) : wpAny (model prog w) A (richCompare .NotEq (.ref x) b) Q E s := by
  have one : wpAny (model prog w) A (tryCompare (.ref x) (cmpInfo .NotEq).2.1 b) (fun r s' => ∃ v, r = some v ∧ Q v s') E s := by
    unfold tryCompare
    refine wpAny_bind (ifBoundS X I hne PySem.F.cmp_object.ne.bind (wpAny_call (codeAny_call_builtin PySem.F.cmp_object.ne.plain PySem.F.cmpEntry_ne (PySem.W.check_slot (i := "object.__ne__") (owner := "object") (n := "__ne__") PySem.F.cmpKind_ne PySem.F.cmpSplit_ne (I.type.andThen (PySem.W.looks_mroIn X hm)) (PySem.F.cmpArgs_ne _ _) ?_))))
    unfold Builtin.«object.__ne__»
    refine wpAny_bind (m := slotArgs "__ne__" 1 _) (wpAny_pure ?_)
    refine wpAny_bind (m := cRoomFor _ _) (wpAny_cRoomFor hu ?_)
    refine wpAny_bind (m := callSpecialIfBound? (.ref x) (Str.ofString "__eq__") _) (PySem.W.ifBound_K X I hs hf (wpAny_mono h (fun r s' hq => ?_) fun _ _ y => y))
    obtain ⟨c, rfl, hq⟩ := hq
    exact wpAny_bind (wpAny_truthy_bool (wpAny_pure (wpAny_pure ⟨_, rfl, hq⟩)))
  unfold richCompare
  simp only [oneThing_ref]
  refine wpAny_holding (wpAny_bind (wpAny_cRoomFor (Nat.lt_of_succ_lt hu) ?_))
  refine wpAny_bind (I.type.here (wpAny_bind (hb.here ?_)))
  split
  · rename_i q
    have e : PySem.W.subIn K tb (.ref C) = some false := by
      rcases Bool.or_eq_true_iff.mp hn with e | e
      · rw [beq_iff_eq.mp e] at q; simp at q
      · exact beq_iff_eq.mp e
    refine wpAny_bind ((PySem.W.looks_subIn X e).here ?_)
    simp only [Bool.false_eq_true, if_false]
    refine wpAny_bind (wpAny_mono one (fun r s' z => ?_) fun _ _ e => e)
    obtain ⟨v, rfl, hq⟩ := z
    exact wpAny_pure hq
  · refine wpAny_bind (wpAny_pure ?_)
    simp only [Bool.false_eq_true, if_false]
    refine wpAny_bind (wpAny_mono one (fun r s' z => ?_) fun _ _ e => e)
    obtain ⟨v, rfl, hq⟩ := z
    exact wpAny_pure hq
def rdNeM (cs : List Str) (c : Str) (f : List D → M D) : RD2 := fun x y Q => match x with
  | .ins c' fs => c' = c ∧ eqKind cs y ∧ f [.ins c' fs, y] (fun d => blc d fun b => Q (.bl (!b))) F0
  | _ => False
theorem ok_neM {cs : List Str} (Fc : ClsF mg c C) (S : SpecOk P w mg base k C "__eq__" 2 f) (K : EqF mg C cs) (hne : PySem.W.findIn mg.K (.ref C) "__ne__" = some (some (.builtin "object.__ne__"))) (hr : ∀ j, RmG (k + 1) (Xs j).A) (hP : HPs Xs P w mg base := by intro _; exact ⟨rfl, rfl, rfl, rfl, rfl⟩) : OpOk Xs mg (compareOp .NotEq) (rdNeM cs c f) := by
  obtain ⟨fa, fd, ps, h1, h2, h3, hb, hl, G⟩ := S.ex
  refine ⟨fun x y H Q => ∃ a dx fs t, x = .ref a ∧ H a = some (.ins C dx fs) ∧ TyL mg.K H y t ∧ PySem.W.notFirst mg.K C t = true ∧ spD mg 2 f [.ref a, y] H (fun v H' => ∃ b, v = .bl b ∧ Q (.bl (!b)) H') E0, fun j => ?_, ?_⟩
  · obtain ⟨p1, p2, p3, p4, p5⟩ := hP j
    subst p1 p2 p5
    intro pins z σ H x y v u Q I rx ry h
    obtain ⟨a, dx, fs, t, rfl, ea, ty, hn, hs⟩ := h
    cases rx
    obtain ⟨mA, O, _⟩ := ins_get I.hok ea
    obtain ⟨od, J, _⟩ := O.look
    have kin := I.kIn
    rw [p3] at kin
    refine neK (by have := (hr j).r.un; omega) kin J (type_looks I ry (by rw [p3]; exact ty)) hn hne Fc.hm h1 h2 ?_
    refine wpAny_mono (callAt0 (X := Xs j) (by rw [p3, p4]; exact G) (hr j).in1 rfl (by rw [p3]; exact hb) I (vs := [.ref a, y]) (.cons (show RelV (.ref _) (.ref _) from rfl) (.cons ry .nil)) hs) (fun r z' hv => ?_) fun _ _ q => q
    obtain ⟨y, H', I', ry, b, rfl, hq⟩ := hv
    cases ry
    exact ⟨b, rfl, .bl (!b), H', I', rfl, hq⟩
  · intro W H x y dx dy Q Q' hh rx ry h q
    cases rx with
    | @ins a C' ax fs c' ds hc ha hk rs =>
      obtain ⟨rfl, hy, h⟩ := h
      have ec := Fc.eq hc
      subst ec
      obtain ⟨t, ty, hn⟩ := eqKind_v K hh ry hy
      refine ⟨a, ax, fs, t, rfl, hh.same _ _ ha, ty, hn, spD_of hh (.cons (.ins hc ha hk rs) (.cons ry .nil)) rfl h fun W' H' v d s' r' hd => ?_⟩
      cases r' with
      | bl b => exact ⟨b, rfl, q W' H' _ _ s' (.bl _) hd⟩
      | _ => exact hd.elim
    | _ => exact h.elim
end
end FP
/-! FP13: sets of texts: set(list of texts), sorted(set(..)), len(set(..)). -/
namespace FP
open PySem L2 PySem.Spec PyProof.Rows
variable [Tabl]
def keyS (e : Int × Value) : Str := match e.2 with
  | .str k _ => k
  | _ => Str.empty
def GoodS (w : World) (e : Int × Value) : Prop := ∃ k tk, e.2 = Value.str k tk ∧ e.1 = hashStr w k
/-- the set of texts at a has the members of M; its table can be walked -/
def SetS (w : World) (h : Heap) (a : Addr) (M : List Str) : Prop :=
  ∃ o es ep t, h.get? a = some o ∧ o.ExactSet ∧ o.data = .set es ep t ∧ (∀ e ∈ es.toList, GoodS w e) ∧ (es.toList.map keyS).Nodup ∧ (∀ k, k ∈ M ↔ k ∈ es.toList.map keyS) ∧
    es.size < scanBound ∧ t.fits es.size = true ∧ es.size ≤ M.length ∧ Ris t.place.toList ∧ (w.params.followText "set-order" = true ∨ t.led = true)
section
variable {P : Program} {w : World} {h h' : Heap} {a : Addr} {M : List Str}
theorem SetS.at (R : SetS w h a M) (k : ∀ o, h.get? a = some o → h'.get? a = some o) : SetS w h' a M := by
  obtain ⟨o, es, ep, t, ho, r⟩ := R
  exact ⟨o, es, ep, t, k o ho, r⟩
theorem goodS_elems {l : List (Int × Value)} (g : ∀ e ∈ l, GoodS w e) : ElemsOf (PySem.strKind P w) l := fun e he => by
  obtain ⟨k, tk, h1, h2⟩ := g e he
  exact ⟨⟨k, by rw [h1]; exact strKind_is P w k tk, h2⟩, by rw [h1] <;> rfl⟩
theorem goodS_is {e : Int × Value} (g : GoodS w e) (k : Str) : (PySem.strKind P w).is k e.2 = true ↔ keyS e = k := by
  obtain ⟨k0, tk, h1, _⟩ := g
  unfold keyS
  rw [h1]
  constructor
  · intro q
    obtain ⟨t, e⟩ := Value.isStrOf_shape (x := k) (v := .str k0 tk) q
    injection e
  · intro q
    have q' : k0 = k := q
    rw [q']
    exact strKind_is P w k tk
theorem goodS_mem {l : List (Int × Value)} (g : ∀ e ∈ l, GoodS w e) (k : Str) : k ∈ l.map keyS ↔ ∃ e ∈ l, (PySem.strKind P w).is k e.2 = true := by
  rw [List.mem_map]
  constructor
  · rintro ⟨e, he, q⟩
    exact ⟨e, he, (goodS_is (g e he) k).2 q⟩
  · rintro ⟨e, he, q⟩
    exact ⟨e, he, (goodS_is (g e he) k).1 q⟩
end
section
variable {P : Program} {w : World} {A : Around} {E : Value → Shared → Prop} {s : Shared} {a : Addr} {M : List Str}
theorem setS_tail {g : Bool → Sem Unit} (hg : ∀ (b : Bool) (s₁ : Shared) (Q' : Unit → Shared → Prop), Q' () s₁ → wpAny (model P w) A (g b) Q' E s₁)
    {o : Obj} {es : Array (Int × Value)} {ep : Nat} {t : SetTable} (ho : s.heap.get? a = some o) (hex : o.ExactSet) (hd : o.data = .set es ep t)
    {es1 : Array (Int × Value)} {t2 : SetTable} {M' : List Str} (g1 : ∀ e ∈ es1.toList, GoodS w e) (nd1 : (es1.toList.map keyS).Nodup) (m1 : ∀ k, k ∈ M' ↔ k ∈ es1.toList.map keyS)
    (hb1 : es1.size < scanBound) (hf2 : t2.fits es1.size = true) (hz : es1.size ≤ M'.length) (hr : Ris t2.place.toList) (hl : w.params.followText "set-order" = true ∨ t2.led = true) {wasDummy : Bool} {R : Option Bool → Shared → Prop}
    (hR : ∀ h', Heap.SameBut a s.heap h' → SetS w h' a M' → R (some true) { s with heap := h' }) :
    wpAny (model P w) A (do
        storeSet a es1 t2
        if (!wasDummy && t2.tooFull) = true then do
            g (relayAll t2 es1 (SetTable.grown es1.size)).2.2
            storeSet a (relayAll t2 es1 (SetTable.grown es1.size)).1 (relayAll t2 es1 (SetTable.grown es1.size)).2.1
            pure (some true)
          else pure (some true)) R E s := by
  refine wpAny_bind (wpAny_storeSet_of ho hd ?_ (fits_of_scanBound hb1))
  have ho1 := store_at (es' := es1) (t' := t2) ho hd
  have sb1 := Heap.SameBut.update s.heap a (Obj.putSet es1 t2)
  split
  · have pm := relayAll_perm t2 es1 (SetTable.grown es1.size)
    have hf3 := relayAll_fits t2 es1 (SetTable.grown es1.size)
    have hr3 := relayAll_ris t2 es1 (SetTable.grown es1.size)
    have hl3 := relayAll_led t2 es1 (SetTable.grown es1.size)
    generalize relayAll t2 es1 (SetTable.grown es1.size) = Z at pm hf3 hr3 hl3 ⊢
    obtain ⟨es2, t3, gave⟩ := Z
    dsimp only at pm hf3 hr3 hl3 ⊢
    have hsz : es2.size = es1.size := by rw [← Array.length_toList, pm.length_eq, Array.length_toList]
    have hb2 : es2.size < scanBound := by rw [hsz]; exact hb1
    refine wpAny_bind (hg _ _ _ ?_)
    refine wpAny_bind (wpAny_storeSet_of ho1 rfl ?_ (fits_of_scanBound hb2))
    have ho2 := store_at (es' := es2) (t' := t3) ho1 rfl
    refine wpAny_pure (hR _ (sb1.trans (Heap.SameBut.update _ a _)) ?_)
    exact ⟨_, es2, _, t3, ho2, hex, rfl, fun e he => g1 e (pm.mem_iff.mp he), (pm.map keyS).nodup_iff.mpr nd1, fun k => (m1 k).trans (pm.map keyS).mem_iff.symm, hb2, hf3, by rw [hsz]; exact hz, hr3,
      hl.imp id fun z => by rw [hl3]; exact z⟩
  · exact wpAny_pure (hR _ sb1 ⟨_, es1, _, t2, ho1, hex, rfl, g1, nd1, m1, hb1, hf2, hz, hr, hl⟩)
theorem setS_add_hashed {k : Str} {tk : Tok} {Q : Bool → Shared → Prop} (R : SetS w s.heap a M) (room : M.length + 1 < scanBound)
    (hQ : ∀ b h', Heap.SameBut a s.heap h' → SetS w h' a (M ++ [k]) → Q b { s with heap := h' }) :
    wpAny (model P w) A (setAddHashed a (.str k tk) ((PySem.strKind P w).hash k)) Q E s := by
  obtain ⟨o, es, ep, t, ho, hex, hd, g, nd, hm, hb, hf, hn, hr, hl⟩ := R
  have hkey : (PySem.strKind P w).is k (.str k tk) = true := strKind_is P w k tk
  have hsc : (Value.str k tk).scannable = true := rfl
  have hel : ElemsOf (PySem.strKind P w) es.toList := goodS_elems g
  unfold setAddHashed setAddHashedIn
  refine wpAny_holding (wpAny_bind (wpAny_setState_of ho hd hf ?_))
  dsimp only
  rw [byScan_of hsc hb hel]
  simp only [↓reduceIte]
  unfold setAddByScan
  refine wpAny_bind ?_
  refine wpAny_bind (wpAny_rule ?_)
  refine wpAny_bind (wpAny_setScan_of hkey ho hd hf hel ?_)
  cases hfi : List.findIdx? (fun e => (PySem.strKind P w).is k e.2) es.toList with
  | some j =>
    dsimp only
    obtain ⟨hj, pj, _⟩ := List.findIdx?_eq_some_iff_getElem.mp hfi
    have hSk : k ∈ M := (hm k).2 ((goodS_mem (P := P) (w := w) g k).2 ⟨es.toList[j], List.getElem_mem hj, pj⟩)
    refine wpAny_pure (wpAny_pure ?_)
    exact hQ _ s.heap (Heap.SameBut.refl a s.heap) ⟨o, es, ep, t, ho, hex, hd, g, nd, fun i => by
      rw [List.mem_append, List.mem_singleton, ← hm i]
      exact ⟨fun z => z.elim id (fun e => e ▸ hSk), .inl⟩, hb, hf, by rw [List.length_append]; omega, hr, hl⟩
  | none =>
    dsimp only
    have hnk : k ∉ es.toList.map keyS := fun z => by
      obtain ⟨e, he, q⟩ := (goodS_mem (P := P) (w := w) g k).1 z
      have c := List.findIdx?_eq_none_iff.mp hfi e he
      rw [q] at c
      cases c
    have hgw : ∀ (b : Bool) {s₁ : Shared} {Q' : Unit → Shared → Prop}, Q' () s₁ → wpAny (model P w) A (match b with | true => rule "set.scan.the-table-gave-way" | false => pure ()) Q' E s₁ :=
      fun b s₁ Q' q => by cases b <;> first | exact wpAny_pure q | exact wpAny_rule q
    have pm := layNew_perm t es ((PySem.strKind P w).hash k) (.str k tk)
    have hf1 := layNew_fits t es ((PySem.strKind P w).hash k) (.str k tk)
    have hr1 := layNew_ris t es ((PySem.strKind P w).hash k) (.str k tk) hr
    have hl1 := layNew_led t es ((PySem.strKind P w).hash k) (.str k tk)
    generalize layNew t es ((PySem.strKind P w).hash k) (.str k tk) = Z at pm hf1 hr1 hl1 ⊢
    obtain ⟨es1, t1, wasDummy, gave⟩ := Z
    dsimp only at pm hf1 hr1 hl1 ⊢
    rw [Array.toList_push] at pm
    have pc : es1.toList.Perm (((PySem.strKind P w).hash k, Value.str k tk) :: es.toList) := pm.trans (List.perm_append_singleton _ _)
    have pk : (es1.toList.map keyS).Perm (k :: es.toList.map keyS) := pc.map keyS
    have g1 : ∀ e ∈ es1.toList, GoodS w e := fun e he => by
      rcases List.mem_cons.mp (pc.mem_iff.mp he) with z | z
      · rw [z]; exact ⟨k, tk, rfl, rfl⟩
      · exact g e z
    have nd1 : (es1.toList.map keyS).Nodup := pk.nodup_iff.mpr (List.nodup_cons.mpr ⟨hnk, nd⟩)
    have m1 : ∀ i, i ∈ M ++ [k] ↔ i ∈ es1.toList.map keyS := fun i => by
      rw [List.mem_append, List.mem_singleton, hm i, pk.mem_iff, List.mem_cons]
      exact Or.comm
    have hsz : es1.size = es.size + 1 := by rw [← Array.length_toList, pc.length_eq, List.length_cons, Array.length_toList]
    have hb1 : es1.size < scanBound := by rw [hsz]; omega
    have hzz : es1.size ≤ (M ++ [k]).length := by rw [hsz, List.length_append]; simp; exact hn
    have hled : w.params.followText "set-order" = true ∨ t1.led = true := hl.imp id fun z => by rw [hl1]; exact z
    refine wpAny_bind (hgw _ ?_)
    split
    · refine wpAny_bind ?_
      rw [hashByValue_scannable 8 hsc]
      refine wpAny_pure ?_
      refine setS_tail (M' := M ++ [k]) ?_ ho hex hd g1 nd1 m1 hb1 ?_ hzz ?_ ?_ ?_
      · intro b s₁ Q' q; cases b <;> first | exact wpAny_pure q | exact wpAny_rule q
      · first | (split <;> first | exact hf1 | exact SetTable.fits_plain_off hf1) | exact hf1
      · first | (split <;> exact hr1) | exact hr1
      · first | (split <;> exact hled) | exact hled
      · intro h' sb r; dsimp only; exact wpAny_pure (hQ _ h' sb r)
    · refine wpAny_bind (wpAny_pure ?_)
      simp only [↓reduceIte]
      refine setS_tail (M' := M ++ [k]) ?_ ho hex hd g1 nd1 m1 hb1 hf1 hzz hr1 hled ?_
      · intro b s₁ Q' q; cases b <;> first | exact wpAny_pure q | exact wpAny_rule q
      · intro h' sb r; dsimp only; exact wpAny_pure (hQ _ h' sb r)
end
/-! ### set(list of texts) -/
theorem strsAt : ∀ {us : List Value} {xs : List Str}, StrsAre us xs → ∀ (i : Nat) (v : Value), us[i]? = some v → ∃ t, v = .str (xs.getD i Str.empty) t
  | _, _, .nil, i, v, h => by simp at h
  | _, _, .cons n t hr, 0, v, h => by simp at h; exact ⟨t, by rw [← h]; rfl⟩
  | _, _, .cons n t hr, i + 1, v, h => by
    simp only [List.getElem?_cons_succ] at h
    obtain ⟨t', e⟩ := strsAt hr i v h
    exact ⟨t', by rw [e]; rfl⟩
section
variable {prog : Program} {w : World} {A : Around} {R : Result → Shared → Prop} {I : Addr} {fp wr : List Addr} {G : Array GenState → Array GenState → Prop} {n : Nat} {P : Nat → Value → Prop} {St : Nat → Shared → Prop}
theorem loopS (W : WalksS prog w A.in1 I fp wr G n P St) (S : Addr) (hSf : S ∉ fp) (xs : List Str) (hsz : xs.length = n) (hb : n + 1 < scanBound)
    (hval : ∀ i v, P i v → ∃ t, v = .str (xs.getD i Str.empty) t) :
    ∀ (k i : Nat) (s : Shared), n - i = k → i ≤ n → St i s → SetS w s.heap S (xs.take i) →
      (∀ s', Moved (S :: wr) G s s' → SetS w s'.heap S xs → R (.ok (.ret .none)) s') →
      codeAny (model prog w) A (.builtin "set.update.loop" ⟨[.ref S, .ref I], []⟩) R s := by
  have hSw : S ∉ wr := fun h => hSf (W.sub _ h)
  have hsub : ∀ b ∈ wr, b ∈ S :: wr := fun b hb => List.mem_cons_of_mem _ hb
  intro k
  induction k with
  | zero =>
    intro i s hk hi hst hS hR
    have hin : i = n := by omega
    subst hin
    refine codeAny_builtin PyProof.Rows.F.entry_set_update_loop ?_
    rw [Around.under_plainId PyProof.Rows.F.plain_set_update_loop _]
    show wpAny _ A.in1 (pyNext (.ref I) >>= _) _ _ s
    refine wpAny_bind (W.done s _ _ hst fun s' hm => ?_)
    show wpAny _ A.in1 (ret Value.none) _ _ s'
    rw [List.take_of_length_le (by omega)] at hS
    exact wpAny_pure (hR s' (hm.mono hsub) (hS.at fun o e => hm.heap S o hSw e))
  | succ k ih =>
    intro i s hk hi hst hS hR
    have hlt : i < n := by omega
    refine codeAny_builtin PyProof.Rows.F.entry_set_update_loop ?_
    rw [Around.under_plainId PyProof.Rows.F.plain_set_update_loop _]
    show wpAny _ A.in1 (pyNext (.ref I) >>= _) _ _ s
    refine wpAny_bind (W.item i s _ _ hlt hst fun v s' hP hst' hm => ?_)
    obtain ⟨t, rfl⟩ := hval i v hP
    have hS' := hS.at (h' := s'.heap) fun o e => hm.heap S o hSw e
    show wpAny _ A.in1 (holding [Value.str (xs.getD i Str.empty) t] (setAdd S (.str (xs.getD i Str.empty) t)) >>= _) _ _ s'
    refine wpAny_bind (wpAny_holding ?_)
    unfold setAdd
    refine wpAny_holding ?_
    refine wpAny_bind ((PySem.strKind prog w).pyHash (k := xs.getD i Str.empty) (strKind_is _ _ _ _) ?_)
    refine setS_add_hashed (s := { s' with toks := s'.toks + 1 }) hS' (by rw [List.length_take]; omega) fun b h' hsb hS2 => ?_
    have e1 : xs.take i ++ [xs.getD i Str.empty] = xs.take (i + 1) := by
      rw [List.take_add_one, List.getElem?_eq_getElem (by omega), List.getD_eq_getElem?_getD, List.getElem?_eq_getElem (by omega)]
      rfl
    rw [e1] at hS2
    refine wpAny_pure ⟨plainId_quiet PyProof.Rows.F.plain_set_update_loop _, ih (i + 1) _ (by omega) hlt (W.frame _ s' _ _ hst' (Nat.le_succ _) fun b hb o e => ?_) hS2 fun s'' hm'' hS'' => ?_⟩
    · rw [hsb.2 b (fun h : b = S => hSf (by rw [← h]; exact hb))]; exact e
    · refine hR s'' (Moved.trans W.gtrans ((hm.mono hsub).then_heap (Nat.le_succ _) fun b o hb e => ?_) hm'') hS''
      rw [hsb.2 b (fun h : b = S => hb (by rw [h]; exact List.mem_cons_self))]; exact e
end
section
variable {prog : Program} {w : World} {A : Around} {E : Value → Shared → Prop} {s : Shared}
theorem setNew_led (a : Value) {Q₁ : Value → Shared → Prop}
    (h : Q₁ (.ref s.heap.objs.size) { s with heap := s.heap.push { cls := .type "set", dict := none, data := .set #[] 0 (.fresh 0 0 (!w.params.followText "set-order")) } }) :
    codeAny (model prog w) A (.call (.builtin "set.__new__") ⟨[.type "set", a], []⟩) (wants Q₁ E) s := by
  refine codeAny_of_tree ?_
  show wpAny _ A.in1 (do checkBuiltinCall "set.__new__" ⟨[.type "set", a], []⟩; again (.builtin "set.__new__" ⟨[.type "set", a], []⟩)) _ _ s
  refine wpAny_bind (wpAny_of_eq (PySem.F.newCall_set_1 a) (wpAny_pure ⟨plainId_quiet PySem.F.plain_set_new _, codeAny_builtin PySem.F.entry_set_new ?_⟩))
  rw [Around.under_plainId PySem.F.plain_set_new _]
  unfold Builtin.«set.__new__» Builtin.Frozenset.newClass
  have hsub := sub_set_self
  obtain ⟨hp, g, d, tk, os⟩ := s
  dsimp only
  wp_walk
  refine wpAny_askSetting (wpAny_pure ?_)
  dsimp only
  simp only [newObj]
  refine wpAny_bind (wpAny_alloc (wpAny_pure ?_))
  exact wpAny_pure h
theorem setS_fresh {h : Heap} (w : World) : SetS w (h.push { cls := .type "set", dict := none, data := .set #[] 0 (.fresh 0 0 (!w.params.followText "set-order")) }) h.objs.size [] :=
  ⟨_, #[], 0, _, Heap.get?_push_size _ rfl, ⟨rfl, rfl, rfl⟩, rfl, (fun e he => by simp at he), (by simp), (fun k => by simp), (by decide), (by rfl), Nat.le_refl _, List.Pairwise.nil, by
    show _ ∨ (!w.params.followText "set-order") = true
    cases w.params.followText "set-order"
    · exact .inr rfl
    · exact .inl rfl⟩
theorem setS_list {l : Addr} {items : Array Value} {xs : List Str} {Q : Value → Shared → Prop}
    (hh : A.handled = none) (hl : s.heap.IsList l items) (hi : PyProof.Rows.StrsAre items.toList xs) (hb : xs.length + 1 < scanBound)
    (h : ∀ (h' : Heap) (tk : Nat), SetS w h' s.heap.objs.size xs → (∀ b o, b < s.heap.objs.size → s.heap.get? b = some o → h'.get? b = some o) → Q (.ref s.heap.objs.size) { s with heap := h', toks := tk }) :
    wpAny (model prog w) A (call (.type "set") [.ref l]) Q E s := by
  obtain ⟨c, tl, hmro⟩ := PySem.F.called_set.mro
  have hmade := PySem.F.called_set.made
  have hsub := PySem.F.called_set.sub
  refine wpAny_call (codeAny_of_tree ?_)
  show wpAny _ _ (callAny (.type "set") _) _ _ _
  refine wpAny_pure ⟨Code.quiet_builtin _ (by decide +kernel), codeAny_builtin PySem.F.entry_type_call ?_⟩
  rw [Around.under_plain (weight_type_call_type "set" [.ref l] []) rfl]
  have h1 := PySem.F.called_set.notType
  have h2 := PySem.F.called_set.canCreate
  have hct := PySem.F.typeCall_set_1 (.ref l)
  repeat (any_goals (first | assumption | wp_step))
  generalize hled : (!w.params.followText "set-order") = led
  refine codeAny_mono (setNew_led (.ref l) (E := E) (Q₁ := fun obj s₁ => obj = .ref s.heap.objs.size ∧ s₁ = { s with heap := s.heap.push { cls := .type "set", dict := none, data := .set #[] 0 (.fresh 0 0 led) } }) (by rw [hled]; exact ⟨rfl, rfl⟩)) fun r s₁ hr => ?_
  cases r with
  | error e => exact hr
  | ok fl =>
    cases fl with
    | ret obj =>
      obtain ⟨rfl, rfl⟩ := hr
      have hS : (s.heap.push { cls := .type "set", dict := none, data := .set #[] 0 (.fresh 0 0 led) }).get? s.heap.objs.size = some { cls := .type "set", dict := none, data := .set #[] 0 (.fresh 0 0 led) } := Heap.get?_push_size _ rfl
      have hT : Shared.TypeIs { s with heap := s.heap.push { cls := .type "set", dict := none, data := .set #[] 0 (.fresh 0 0 led) } } (.ref s.heap.objs.size) "set" := ⟨_, hS, rfl⟩
      have hli := PySem.F.called_set.init.lookup
      have hbi := PySem.F.called_set.init.bind (.ref s.heap.objs.size)
      repeat (any_goals (first | assumption | wp_step))
      refine codeAny_mono (codeAny_call_builtin (R := wants (fun r s₂ => r = .none ∧ ∃ h' tk, s₂ = { s with heap := h', toks := tk } ∧
          SetS w h' s.heap.objs.size xs ∧ (∀ b o, b < s.heap.objs.size → s.heap.get? b = some o → h'.get? b = some o)) E) PySem.F.called_set.init.plain PySem.F.entry_set_init (check_set_init_1 hT ?_)) fun r₂ s₂ hr₂ => ?_
      · obtain ⟨ol, hol, hcl, nl, hdl⟩ := hl
        obtain ⟨ocls, odict, odata, oslots⟩ := ol
        simp only at hcl hdl
        subst hcl; subst hdl
        have hol' : (s.heap.push { cls := .type "set", dict := none, data := .set #[] 0 (.fresh 0 0 led) }).get? l = some { cls := .type "list", dict := odict, data := .seq items nl, slots := oslots } := Heap.get?_push_of_some _ hol
        have hsls := PySem.F.sub_list_set
        have hslf := PySem.F.sub_list_frozenset
        have hne : (Value.type "list" == Value.type "dict") = false := by decide
        have hl1 : (s.heap.push { cls := .type "set", dict := none, data := .set #[] 0 (.fresh 0 0 led) }).IsList l items := ⟨_, hol', rfl, nl, rfl⟩
        unfold Builtin.«set.__init__» noKeywords Builtin.Frozenset.updateFrom
        generalize hPI : pyIter = PI
        wp_walk
        subst hPI
        refine wpAny_pyIter_list hl1 ?_
        refine wpAny_bind (wpAny_runValue ?_)
        have hlS : l < s.heap.objs.size := Heap.lt_size hol
        have hh3 : A.in1.in1.in1.handled = none := by simp [hh]
        have hneI : l ≠ (s.heap.push { cls := .type "set", dict := none, data := .set #[] 0 (.fresh 0 0 led) }).objs.size := by
          rw [Heap.size_push]; exact Nat.ne_of_lt (Nat.lt_succ_of_lt hlS)
        have hSf : s.heap.objs.size ∉ [(s.heap.push { cls := .type "set", dict := none, data := .set #[] 0 (.fresh 0 0 led) }).objs.size, l] := by
          rw [Heap.size_push]; simp only [List.mem_cons, List.mem_singleton, List.not_mem_nil, or_false, not_or]
          exact ⟨Nat.ne_of_lt (Nat.lt_succ_self _), Nat.ne_of_gt hlS⟩
        have hsz : xs.length = items.size := by rw [← StrsAre.len_eq hi, Array.length_toList]
        have hval : ∀ (i : Nat) (v : Value), items[i]? = some v → ∃ t, v = .str (xs.getD i Str.empty) t := fun i v hv => strsAt hi i v (by rw [Array.getElem?_toList]; exact hv)
        refine loopS ((Walks.list hh3 _ l hneI items).toS) s.heap.objs.size
          hSf xs hsz (by rw [← hsz]; exact hb) hval (items.size - 0) 0 _ (by omega) (Nat.zero_le _)
          ⟨⟨_, Heap.get?_push_size _ rfl, rfl, rfl⟩, (hl1.push _)⟩ ?hS0 ?hR
        case hS0 =>
          rw [List.take_zero, ← hled]
          exact (setS_fresh w).at fun o e => Heap.get?_push_of_some _ e
        case hR =>
          intro s' hm hS'
          obtain ⟨h', g', d', tk', os'⟩ := s'
          have eg : g' = s.gens := hm.gens
          have ed : d' = s.drawn := hm.drawn
          have eo : os' = s.os := hm.os
          subst eg; subst ed; subst eo
          show wpAny _ _ _ _ _ _
          refine wpAny_pure ?_
          show wpAny _ _ (ret Value.none) _ _ _
          refine wpAny_pure ⟨rfl, h', tk', rfl, hS', fun b o hb e => ?_⟩
          have hb1 : b ≠ s.heap.objs.size := Nat.ne_of_lt hb
          have hb2 : b ≠ (s.heap.push { cls := .type "set", dict := none, data := .set #[] 0 (.fresh 0 0 led) }).objs.size := by
            rw [Heap.size_push]; exact Nat.ne_of_lt (Nat.lt_succ_of_lt hb)
          exact hm.heap b o (by simp only [List.mem_cons, List.mem_singleton, List.not_mem_nil, or_false, not_or]; exact ⟨hb1, hb2⟩) (Heap.get?_push_of_some _ (Heap.get?_push_of_some _ e))
      · cases r₂ with
        | error e => exact hr₂
        | ok fl₂ =>
          cases fl₂ with
          | ret r =>
            obtain ⟨rfl, h', tk, rfl, hS', hk'⟩ := hr₂
            repeat (any_goals (first | assumption | wp_step))
            exact h _ _ hS' hk'
          | _ => exact hr₂.elim
    | _ => exact hr.elim
end
end FP
/-! FP14: the order of texts; sorted(texts), sorted(set(texts)), len(set(texts)). -/
namespace FP
open PySem L2 PySem.Spec PyProof.Rows
variable [Tabl]
/-! ### the order of texts, pure -/
abbrev ltS (a b : Str) : Bool := ltCps a.cps.toList b.cps.toList
theorem ltS_iff {a b : Str} : ltS a b = true ↔ a.cps.toList < b.cps.toList := by
  unfold ltS
  rw [ltCps_eq]
  exact decide_eq_true_iff
theorem ltS_irrefl (a : Str) : ltS a a = false := by
  cases q : ltS a a with
  | false => rfl
  | true => exact (List.lt_irrefl _ (ltS_iff.mp q)).elim
theorem ltS_trans {a b c : Str} (h : ltS a b = true) (g : ltS b c = true) : ltS a c = true := ltS_iff.mpr (List.lt_trans (ltS_iff.mp h) (ltS_iff.mp g))
theorem str_of_list {a b : Str} (h : a.cps.toList = b.cps.toList) : a = b := by
  cases a; cases b
  simp only [Str.mk.injEq]
  exact Array.toList_inj.mp h
theorem ltS_tri {a b : Str} (h : ltS a b = false) (g : ltS b a = false) : a = b := by
  have h1 : ¬ a.cps.toList < b.cps.toList := fun z => by rw [ltS_iff.mpr z] at h; cases h
  have h2 : ¬ b.cps.toList < a.cps.toList := fun z => by rw [ltS_iff.mpr z] at g; cases g
  exact str_of_list (List.le_antisymm (List.not_lt.mp h2) (List.not_lt.mp h1))
theorem ltS_asym {a b : Str} (h : ltS a b = true) : ltS b a = false := by
  cases q : ltS b a with
  | false => rfl
  | true => have := ltS_trans h q; rw [ltS_irrefl] at this; cases this
theorem geS_trans {a b c : Str} (h : ltS b a = false) (g : ltS c b = false) : ltS c a = false := by
  cases q : ltS c a with
  | false => rfl
  | true =>
    by_cases e : a = b
    · rw [e] at q; rw [q] at g; cases g
    · have : ltS a b = true := by
        cases z : ltS a b with
        | true => rfl
        | false => exact (e (ltS_tri z h)).elim
      rw [ltS_trans q this] at g
      cases g
abbrev UpS (l : List Str) : Prop := l.Pairwise (fun a b => ltS b a = false)
theorem risingS_up : ∀ (l : List Str) (p : Str), risingS p l = true → (∀ x ∈ l, ltS x p = false) ∧ UpS l
  | [], p, _ => ⟨(fun x h => by cases h), List.Pairwise.nil⟩
  | y :: r, p, h => by
    have h' : (!ltS y p && risingS y r) = true := h
    rw [Bool.and_eq_true, Bool.not_eq_true'] at h'
    obtain ⟨i1, i2⟩ := risingS_up r y h'.2
    refine ⟨fun x hx => ?_, List.pairwise_cons.mpr ⟨i1, i2⟩⟩
    cases hx with
    | head => exact h'.1
    | tail _ hx => exact geS_trans h'.1 (i1 x hx)
theorem sortedS_up {l : List Str} (h : sortedS l = true) : UpS l := by
  cases l with
  | nil => exact .nil
  | cons x r =>
    obtain ⟨i1, i2⟩ := risingS_up r x h
    exact List.pairwise_cons.mpr ⟨i1, i2⟩
def insS (x : Str) : List Str → List Str
  | [] => [x]
  | y :: r => if ltS y x then y :: insS x r else x :: y :: r
def sortS : List Str → List Str
  | [] => []
  | x :: r => insS x (sortS r)
theorem insS_perm (x : Str) : ∀ l, (insS x l).Perm (x :: l)
  | [] => .refl _
  | y :: r => by
    unfold insS
    split
    · exact ((insS_perm x r).cons y).trans (.swap ..)
    · exact .refl _
theorem sortS_perm : ∀ l, (sortS l).Perm l
  | [] => .refl _
  | x :: r => (insS_perm x _).trans ((sortS_perm r).cons x)
theorem insS_up {x : Str} : ∀ {l}, UpS l → UpS (insS x l)
  | [], _ => List.pairwise_singleton _ _
  | y :: r, h => by
    obtain ⟨h1, h2⟩ := List.pairwise_cons.mp h
    unfold insS
    split
    · rename_i q
      refine List.pairwise_cons.mpr ⟨fun z hz => ?_, insS_up h2⟩
      rcases List.mem_cons.mp ((insS_perm x r).mem_iff.mp hz) with e | e
      · rw [e]; exact ltS_asym q
      · exact h1 z e
    · rename_i q
      have q' : ltS y x = false := by simpa using q
      refine List.pairwise_cons.mpr ⟨fun z hz => ?_, h⟩
      rcases List.mem_cons.mp hz with e | e
      · rw [e]; exact q'
      · exact geS_trans q' (h1 z e)
theorem sortS_up : ∀ l, UpS (sortS l)
  | [] => .nil
  | x :: r => insS_up (sortS_up r)
theorem upS_eq {l l' : List Str} (h : UpS l) (h' : UpS l') (p : l.Perm l') : l = l' := List.Perm.eq_of_pairwise (fun a b _ _ x y => ltS_tri y x) h h' p
/-- without what comes twice -/
def nubS : List Str → List Str
  | [] => []
  | x :: r => if x ∈ nubS r then nubS r else x :: nubS r
theorem nubS_mem {k : Str} : ∀ {l}, k ∈ nubS l ↔ k ∈ l
  | [] => Iff.rfl
  | x :: r => by
    unfold nubS
    split
    · rename_i h
      rw [nubS_mem, List.mem_cons]
      exact ⟨.inr, fun z => z.elim (fun e => by rw [e]; exact nubS_mem.mp h) id⟩
    · rw [List.mem_cons, List.mem_cons, nubS_mem]
theorem nubS_nodup : ∀ l, (nubS l).Nodup
  | [] => .nil
  | x :: r => by
    unfold nubS
    split
    · exact nubS_nodup r
    · rename_i h
      exact List.nodup_cons.mpr ⟨h, nubS_nodup r⟩
theorem nubS_len : ∀ l, (nubS l).length ≤ l.length
  | [] => Nat.le_refl _
  | x :: r => by
    unfold nubS
    have := nubS_len r
    split
    · rw [List.length_cons]; omega
    · rw [List.length_cons, List.length_cons]; omega
/-- sorted(set(l)) -/
def sortU (l : List Str) : List Str := sortS (nubS l)
theorem sortU_mem {k : Str} {l : List Str} : k ∈ sortU l ↔ k ∈ l := by
  unfold sortU
  rw [(sortS_perm _).mem_iff, nubS_mem]
theorem sortU_len (l : List Str) : (sortU l).length ≤ l.length := by
  unfold sortU
  rw [(sortS_perm _).length_eq]
  exact nubS_len l
theorem sortU_nodup (l : List Str) : (sortU l).Nodup := (sortS_perm _).nodup_iff.mpr (nubS_nodup l)
theorem nodup_perm {l l' : List Str} (h : l.Nodup) (h' : l'.Nodup) (m : ∀ k, k ∈ l ↔ k ∈ l') : l.Perm l' := by
  rw [List.perm_iff_count]
  intro a
  rw [h.count, h'.count]
  by_cases q : a ∈ l
  · rw [if_pos q, if_pos ((m a).mp q)]
  · rw [if_neg q, if_neg fun z => q ((m a).mpr z)]
/-! ### the rules -/
def SetSO (w : World) (a : Addr) (M : List Str) : HO := .ext fun h => SetS w h a M
section
variable {X : Cx}
theorem setSO_new {w : World} {P : Program} {H : Hp} {h : Heap} {a : Addr} {M : List Str} (R : SetS w h a M) : ObjOk P w H h a (SetSO w a M) := by
  have ⟨o, _, _, _, ho, _⟩ := R
  exact ⟨R, ⟨o, ho⟩, fun h1 h2 p k => SetS.at p k⟩
theorem setSO_get {pins : List (Addr × Obj)} {σ : L2.St} {H : Hp} {s : Shared} {a : Addr} {M : List Str} (I : Inv X pins σ H s) (ha : H a = some (SetSO X.w a M)) : SetS X.w s.heap a M := (I.hok a _ ha).1
def rSetL (K : PySem.W.Frag) (w : World) : List V → Hp → VK → Prop := fun vs H Q => ∃ (l : Addr) (xs : List Str), vs = [V.ref l] ∧ SqL K H l (xs.map V.str) ∧ xs.length + 1 < scanBound ∧ ∀ p, H p = none → Q (.ref p) (upd H p (SetSO w p xs))
theorem cr_setL (hc : X.calm = true) : CallR X (.type "set") (rSetL X.K X.w) := by
  intro pins s σ H vs us Q I r h
  obtain ⟨a, xs, rfl, hs, hb, q⟩ := h
  obtain ⟨its, rv, hl, _⟩ := I.list hs
  rw [Vals.ref1 r]
  refine setS_list (I.ok.hd hc) hl.isList rv.strs hb fun h' tk new k => ?_
  exact ⟨.ref _, upd H s.heap.objs.size (SetSO X.w s.heap.objs.size xs), I.laid (t' := tk) (fun b u e => k b u (Heap.lt_size e) e) (Nat.le_refl _) (setSO_new new), rfl, q _ (I.hok.fresh (Nat.le_refl _))⟩
theorem setS_perm {w : World} {es : Array (Int × Value)} {M : List Str} (nd : (es.toList.map keyS).Nodup) (hm : ∀ k, k ∈ M ↔ k ∈ es.toList.map keyS) : (es.toList.map keyS).Perm (sortU M) :=
  nodup_perm nd (sortU_nodup M) fun k => by rw [sortU_mem, hm k]
def rLenSS (w : World) : List V → Hp → VK → Prop := fun vs H Q => ∃ (a : Addr) (M : List Str), vs = [V.ref a] ∧ H a = some (SetSO w a M) ∧ Q (.int (sortU M).length) H
theorem cr_lenSS : CallR X (.builtin "len") (rLenSS X.w) := by
  intro pins s σ H vs us Q I r h
  obtain ⟨a, M, rfl, ha, q⟩ := h
  obtain ⟨o, es, ep, t, ho, hex, hd, g, nd, hm, hb, hf, hn, hr, hl⟩ := setSO_get I ha
  rw [Vals.ref1 r]
  have e := (setS_perm (w := X.w) nd hm).length_eq
  rw [List.length_map, Array.length_toList] at e
  refine call_len_set ho hex hd hf (by have : es.size < 4096 := hb; omega) ⟨.int (sortU M).length, H, I.tok _, ⟨_, by rw [← e]⟩, q⟩
theorem strsOf : ∀ (l : List Value), (∀ v ∈ l, ∃ k tk, v = Value.str k tk) → StrsAre l (l.map fun v => keyS (0, v))
  | [], _ => .nil
  | v :: l, h => by
    obtain ⟨k, tk, rfl⟩ := h v List.mem_cons_self
    exact .cons k tk (strsOf l fun u hu => h u (List.mem_cons_of_mem _ hu))
def rSortSS (w : World) : List V → Hp → VK → Prop := fun vs H Q => ∃ (a : Addr) (M : List Str), vs = [V.ref a] ∧ H a = some (SetSO w a M) ∧ ∀ p, H p = none → Q (.ref p) (upd H p (.lst ((sortU M).map V.str)))
theorem cr_sortSS (hc : X.calm = true) : CallR X (.builtin "sorted") (rSortSS X.w) := by
  intro pins s σ H vs us Q I r h
  obtain ⟨a, M, rfl, ha, q⟩ := h
  obtain ⟨o, es, ep, t, ho, hex, hd, g, nd, hm, hb, hf, hn, hr, hl⟩ := setSO_get I ha
  rw [Vals.ref1 r]
  have pe := setS_perm (w := X.w) nd hm
  refine Calls.call_function_entry kind_sorted plain_sorted entry_sorted (args_sorted1 _) ?_
  unfold Builtin.«sorted»
  refine wpAny_bind (m := checkCount "sorted" 1 1 _) (wpAny_pure ?_)
  refine wpAny_bind (collect_set (A := X.A.in1) (I.ok.hd hc) ⟨o, ho, hex.1, hd⟩ hf hb hr hl fun s1 vs k1 hz g1 o1 pm => ?_)
  have hvl : vs.length = es.size := by rw [pm.length_eq, List.length_map, Array.length_toList]
  have h4 : es.size < 4096 := hb
  have hs0 : vs.length ≤ sizeLine := by rw [hvl, sizeLine_eq]; omega
  have hI : StrsAre vs (vs.map fun v => keyS (0, v)) := strsOf vs fun v hv => by
    obtain ⟨e, he, q⟩ := List.mem_map.mp (pm.mem_iff.mp hv)
    obtain ⟨k, tk, h1, _⟩ := g e he
    exact ⟨k, tk, by rw [← q]; exact h1⟩
  have pk : (vs.map fun v => keyS (0, v)).Perm (es.toList.map keyS) := by
    have q := pm.map fun v => keyS (0, v)
    rw [List.map_map] at q
    exact q
  refine wpAny_bind (wpAny_newList ?_ hs0)
  have hoL : (s1.heap.push (seqObj "list" vs.toArray 0)).get? s1.heap.objs.size = some (seqObj "list" vs.toArray 0) := Heap.get?_push_size _ rfl
  refine wpAny_bind (wpAny_holding (wpAny_call_entry slot_list_sort ⟨_, hoL, rfl⟩ entry_list_sort (list_sort_treeKAny strKind_oneLt hoL hI.keysOf (fun v₁ v₂ rest e => keyKind_strs (by rw [← e]; exact hI)) hs0 fun st' hp hs => ⟨_, rfl, ?_⟩) (args_list_sort _)))
  obtain ⟨ys, q1, q2, q3⟩ := sorted_out_str hI hp hs
  obtain ⟨c, hc'⟩ := sortedHeap_at (vs := vs) (out := (arrOf st').map (·.2)) hoL
  have ey : ys = sortU M := upS_eq (sortedS_up q3) (sortS_up _) (q2.trans (pk.trans pe))
  subst ey
  have hlen : ((sortU M).map V.str).length ≤ sizeLine := by rw [List.length_map, q2.length_eq, List.length_map]; exact hs0
  have hn : H s1.heap.objs.size = none := I.hok.fresh hz
  have kk : ∀ b u, s.heap.get? b = some u → (sortedHeap (s1.heap.push (seqObj "list" vs.toArray 0)) s1.heap.objs.size vs ((arrOf st').map (·.2))).get? b = some u := fun b u e => by
    have q := k1 b u e
    have hlt := Heap.lt_size q
    rw [sortedHeap_old (Nat.ne_of_lt hlt) (by rw [size_push']; exact Nat.lt_succ_of_lt hlt)]
    exact Heap.get?_push_of_some _ q
  have J : Inv X pins σ (upd H s1.heap.objs.size (.lst ((sortU M).map V.str))) { s with heap := sortedHeap (s1.heap.push (seqObj "list" vs.toArray 0)) s1.heap.objs.size vs ((arrOf st').map (·.2)), gens := s1.gens, drawn := s1.drawn, toks := s1.toks } :=
    I.call (ch := []) (Un.laid kk hz hn) (I.hok.laid kk hz ⟨hlen, ((arrOf st').map (·.2)).toList, c, vals_of_strs q1, by rw [Array.toArray_toList]; exact hc'⟩) (by rw [g1]; exact I.bare) (fun _ z => nomatch z)
  have e : ({ s1 with heap := sortedHeap (s1.heap.push (seqObj "list" vs.toArray 0)) s1.heap.objs.size vs ((arrOf st').map (·.2)) } : Shared) = { s with heap := sortedHeap (s1.heap.push (seqObj "list" vs.toArray 0)) s1.heap.objs.size vs ((arrOf st').map (·.2)), gens := s1.gens, drawn := s1.drawn, toks := s1.toks } := by
    cases s1
    cases s
    cases o1
    rfl
  refine wpAny_pure ⟨_, rfl, ?_⟩
  rw [e]
  exact ⟨.ref s1.heap.objs.size, _, J, rfl, q s1.heap.objs.size hn⟩
end
end FP
/-! FP15: sorted(set(..)), len(set(..)), sorted(..) by data; o[i]; star displays; two-clause comprehensions. -/
namespace FP
open PySem L2
variable [Tabl]
section
variable {ι : Type} {Xs : ι → Cx} {mg : Gm} {Wx : WX} {pos : Pos}
theorem cr_setLK {X : Cx} {K : PySem.W.Frag} {w : World} (h : X.K = K) (hw : X.w = w) (hc : X.calm = true) : CallR X (.type "set") (rSetL K w) := by
  subst h hw
  exact cr_setL hc
theorem cr_sortSSK {X : Cx} {w : World} (hw : X.w = w) (hc : X.calm = true) : CallR X (.builtin "sorted") (rSortSS w) := by
  subst hw
  exact cr_sortSS hc
theorem cr_lenSSK {X : Cx} {w : World} (hw : X.w = w) : CallR X (.builtin "len") (rLenSS w) := by
  subst hw
  exact cr_lenSS
abbrev dSortSet (f : DTE) : DTE := fun ρ Q E => f ρ (fun x => match x with
  | .lst xs => ∃ ss, strsD xs = some ss ∧ ss.length < 4000 ∧ Q (.lst ((sortU ss).map .str))
  | _ => False) E
abbrev dLenSet (f : DTE) : DTE := fun ρ Q E => f ρ (fun x => match x with
  | .lst xs => ∃ ss, strsD xs = some ss ∧ ss.length < 4000 ∧ Q (.int (sortU ss).length)
  | _ => False) E
theorem de_sortSet {w : World} {e : Expr} {f : DTE} {p p2 q : Pos} (h : DE Xs mg Wx e f) (hm : mg.mg "sorted" = none) (hm2 : mg.mg "set" = none) (hv : bootBuiltins "sorted" = some (.builtin "sorted")) (hv2 : bootBuiltins "set" = some (.type "set"))
    (hw : ∀ j, (Xs j).w = w := by intro _; rfl) (hK : ∀ j, (Xs j).K = mg.K := by intro _; rfl) (hM : ∀ j, (Xs j).mg = mg.mg := by intro _; rfl) (hc : ∀ j, (Xs j).calm = true := by intro _; rfl) (hg : ∀ j, Gl (Xs j) "sorted" := by intro _; rfl) (hg2 : ∀ j, Gl (Xs j) "set" := by intro _; rfl)
    (he : ∀ j, starEach [e] (Xs j).env = [(false, eval e (Xs j).env)] := by intro _; rfl)
    (he2 : ∀ j, starEach [.Call (.Name "set" p2) [e] [] q] (Xs j).env = [(false, eval (.Call (.Name "set" p2) [e] [] q) (Xs j).env)] := by intro _; rfl) :
    DE Xs mg Wx (.Call (.Name "sorted" p) [.Call (.Name "set" p2) [e] [] q] [] pos) (dSortSet f) := by
  obtain ⟨t, h1, h2⟩ := h
  refine ⟨tCB (rSortSS w) (tCons (tCB (rSetL mg.K w) (tCons t tNil)) tNil), fun j => ?_, ?_⟩
  · exact pe_callB (cr_sortSSK (hw j) (hc j)) (hg j) (by rw [hM j]; exact hm) hv (pa_cons (pe_callTy (cr_setLK (hK j) (hw j) (hc j)) (hg2 j) (by rw [hM j]; exact hm2) hv2 (pa_cons (h1 j) pa_nil (he j)) (by decide) (by decide) (he j) rfl) pa_nil (he2 j)) (by decide) (by decide) (he2 j) rfl
  · intro B ρ Q E hf W σ H Q' hh e x q
    refine h2 B ρ _ E hf W σ H _ hh e x fun W1 H1 v d s1 r1 k1 => ?_
    dsimp only at k1
    split at k1
    · cases r1 with
      | lst ha ra =>
        obtain ⟨ss, g1, g2, g3⟩ := k1
        have ev := strs_v ra g1
        subst ev
        refine ⟨_, ss, rfl, SqL.of (s1.holds.same _ _ ha), (show ss.length + 1 < 4096 by omega), fun p1 n1 => ⟨p1, ss, rfl, upd_same, fun p2 n2 => ?_⟩⟩
        have s2 := s1.trans (Step.lay s1.holds (o := SetSO w p1 ss) n1)
        exact to_lst (ToV.step q s2) s2.holds (Reps.strs _) g3 p2 n2
    · exact k1.elim
theorem de_lenSet {w : World} {e : Expr} {f : DTE} {p p2 q : Pos} (h : DE Xs mg Wx e f) (hm : mg.mg "len" = none) (hm2 : mg.mg "set" = none) (hv : bootBuiltins "len" = some (.builtin "len")) (hv2 : bootBuiltins "set" = some (.type "set"))
    (hw : ∀ j, (Xs j).w = w := by intro _; rfl) (hK : ∀ j, (Xs j).K = mg.K := by intro _; rfl) (hM : ∀ j, (Xs j).mg = mg.mg := by intro _; rfl) (hc : ∀ j, (Xs j).calm = true := by intro _; rfl) (hg : ∀ j, Gl (Xs j) "len" := by intro _; rfl) (hg2 : ∀ j, Gl (Xs j) "set" := by intro _; rfl)
    (he : ∀ j, starEach [e] (Xs j).env = [(false, eval e (Xs j).env)] := by intro _; rfl)
    (he2 : ∀ j, starEach [.Call (.Name "set" p2) [e] [] q] (Xs j).env = [(false, eval (.Call (.Name "set" p2) [e] [] q) (Xs j).env)] := by intro _; rfl) :
    DE Xs mg Wx (.Call (.Name "len" p) [.Call (.Name "set" p2) [e] [] q] [] pos) (dLenSet f) := by
  obtain ⟨t, h1, h2⟩ := h
  refine ⟨tCB (rLenSS w) (tCons (tCB (rSetL mg.K w) (tCons t tNil)) tNil), fun j => ?_, ?_⟩
  · exact pe_callB (cr_lenSSK (hw j)) (hg j) (by rw [hM j]; exact hm) hv (pa_cons (pe_callTy (cr_setLK (hK j) (hw j) (hc j)) (hg2 j) (by rw [hM j]; exact hm2) hv2 (pa_cons (h1 j) pa_nil (he j)) (by decide) (by decide) (he j) rfl) pa_nil (he2 j)) (by decide) (by decide) (he2 j) rfl
  · intro B ρ Q E hf W σ H Q' hh e x q
    refine h2 B ρ _ E hf W σ H _ hh e x fun W1 H1 v d s1 r1 k1 => ?_
    dsimp only at k1
    split at k1
    · cases r1 with
      | lst ha ra =>
        obtain ⟨ss, g1, g2, g3⟩ := k1
        have ev := strs_v ra g1
        subst ev
        refine ⟨_, ss, rfl, SqL.of (s1.holds.same _ _ ha), (show ss.length + 1 < 4096 by omega), fun p1 n1 => ⟨p1, ss, rfl, upd_same, ?_⟩⟩
        have s2 := s1.trans (Step.lay s1.holds (o := SetSO w p1 ss) n1)
        exact q _ _ _ _ s2 (.int _) g3
    · exact k1.elim
/-! ### *e among arguments and in displays -/
abbrev dStar (f : DTE) (g : DTA) : DTA := fun ρ Q E => f ρ (fun x => match x with
  | .lst xs => g ρ (fun ys => Q (xs ++ ys)) E
  | .fz xs => g ρ (fun ys => Q (xs ++ ys)) E
  | .tup xs => g ρ (fun ys => Q (xs ++ ys)) E
  | _ => False) E
theorem pa_starK {X : Cx} {K : PySem.W.Frag} {e : Expr} {es : List Expr} {te : TE} {t : TA} {p : Pos} (h : X.K = K) (he : PE X e te) (hr : PA X es t) (hs : starEach (.Starred e p :: es) X.env = (true, eval e X.env) :: starEach es X.env) : PA X (.Starred e p :: es) (StX.tStar K te t) := by
  subst h
  exact StX.pa_star he hr hs
theorem da_star {e : Expr} {es : List Expr} {f : DTE} {g : DTA} {p : Pos} (h : DE Xs mg Wx e f) (h' : DA Xs mg Wx es g) (hK : ∀ j, (Xs j).K = mg.K := by intro _; rfl) (hs : ∀ i, starEach (.Starred e p :: es) (Xs i).env = (true, eval e (Xs i).env) :: starEach es (Xs i).env := by intro _; rfl) :
    DA Xs mg Wx (.Starred e p :: es) (dStar f g) := by
  obtain ⟨t, h1, h2⟩ := h
  obtain ⟨u, g1, g2⟩ := h'
  refine ⟨_, fun i => pa_starK (hK i) (h1 i) (g1 i) (hs i), ?_⟩
  intro B ρ Q E hf W σ H Q' hh e x q
  refine h2 B ρ _ E hf W σ H _ hh e x fun W1 H1 v d s1 r1 k1 => ?_
  have fin : ∀ {xs : List V} {ds : List D}, Reps mg W1 xs ds → g ρ (fun ys => Q (ds ++ ys)) E → u σ H1 fun ys H2 => Q' (xs ++ ys) H2 := fun {xs ds} ra k => g2 B ρ _ E k W1 σ H1 _ s1.holds (e.step s1) (x.step s1) fun W2 H2 vs ds2 s2 r2 k2 => q W2 H2 _ _ (s1.trans s2) ((ra.mono s2.le).append r2) k2
  dsimp only at k1
  split at k1
  · cases r1 with
    | lst ha ra => exact ⟨_, _, rfl, .inr (SqL.of (s1.holds.same _ _ ha)), fin ra k1⟩
  · cases r1 with
    | fz ha ra => exact ⟨_, _, rfl, .inr (s1.holds.same.seq ha), fin ra k1⟩
  · cases r1 with
    | tup ha ra => exact ⟨_, _, rfl, .inl (SqT.of (s1.holds.same _ _ ha)), fin ra k1⟩
  · exact k1.elim
/-! ### o[i] of an own class -/
def rIxO (P : Program) (w : World) (mg : Gm) (base : Heap) (C : Addr) (f : List D → M D) : R2 := fun x y H Q => ∃ a dx fs, x = .ref a ∧ H a = some (.ins C dx fs) ∧ spD mg 2 f [.ref a, y] H Q E0
def rdIxM (c : Str) (f : List D → M D) : RD2 := fun x y Q => match x with
  | .ins c' fs => c' = c ∧ f [.ins c' fs, y] Q F0
  | _ => False
abbrev IxOwn (b : Expr) : Prop := ∀ a i, subscripted b true (.ref a) i = runValue (.builtin "lifetime.subscript" ⟨[.ref a, i], []⟩)
theorem de_ixM {P : Program} {w : World} {base : Heap} {k : Nat} {c : Str} {C : Addr} {f : List D → M D} {a b : Expr} {fa fb : DTE} (Fc : ClsF mg c C) (S : SpecOk P w mg base k C "__getitem__" 2 f) (hr : ∀ j, RmG (k + 1) (Xs j).A) (ha : DE Xs mg Wx a fa) (hb : DE Xs mg Wx b fb)
    (hs : IxOwn b := by exact fun _ _ => rfl) (hP : HPs Xs P w mg base := by intro _; exact ⟨rfl, rfl, rfl, rfl, rfl⟩) : DE Xs mg Wx (.Subscript a b pos) (dOp (rdIxM c f) fa fb) := by
  obtain ⟨fa', fd, ps, h1, h2, h3, hbd, hl, G⟩ := S.ex
  obtain ⟨ta, a1, a2⟩ := ha
  obtain ⟨tb, b1, b2⟩ := hb
  refine ⟨tOp (rIxO P w mg base C f) ta tb, fun j => ?_, Cp.op ?_ a2 b2⟩
  · obtain ⟨p1, p2, p3, p4, p5⟩ := hP j
    subst p1 p2 p5
    refine ⟨fun pins s σ H Q I h => PyProof.Rows.Subscript_ (binT (a1 j) (b1 j) I h fun v u s2 x y H2 I2 rx ry q => ?_)⟩
    obtain ⟨r, dx, fs, rfl, ea, hsp⟩ := q
    cases rx
    obtain ⟨mA, O, _⟩ := ins_get I2.hok ea
    obtain ⟨od, J, _⟩ := O.look
    obtain ⟨m, hF⟩ := I2.fr
    refine PySem.W.sub_K hF I2.ok.mod.kin J (by rw [p3]; exact h1) (by rw [p3]; exact h3) (by rw [p3]; exact h2) ?_ (hs _ _)
    exact callAt0 (X := Xs j) (by rw [p3, p4]; exact G) (hr j).in1 rfl (by rw [p3]; exact hbd) I2 (vs := [.ref r, y]) (.cons (show RelV (.ref _) (.ref _) from rfl) (.cons ry .nil)) hsp
  · intro W H x y dx dy Q Q' hh rx ry h q
    cases rx with
    | @ins a C' ax fs c' ds hc ha hk rs =>
      obtain ⟨rfl, h⟩ := h
      have ec := Fc.eq hc
      subst ec
      exact ⟨a, ax, fs, rfl, hh.same _ _ ha, spD_of hh (.cons (.ins hc ha hk rs) (.cons ry .nil)) rfl h q⟩
    | _ => exact h.elim
end
end FP
/-! FP16: comprehensions with two clauses. -/
namespace FP
open PySem L2
end FP
/-! FP17: f-strings; dicts: d[k], k in d, dict comprehensions. -/
namespace FP
open PySem L2
variable [Tabl]
section
variable {ι : Type} {Xs : ι → Cx} {mg : Gm} {Wx : WX} {pos : Pos}
/-! ### f-strings -/
def fmtD : D → (Str → Prop) → Prop := fun x Q => match x with
  | .str y => y.length ≤ sizeLine ∧ Q y
  | .int i => i.natAbs.log2 < 1920 ∧ Q (toString i)
  | _ => False
abbrev dFmt (f : DTE) : DTE := fun ρ Q E => f ρ (fun x => fmtD x fun y => Q (.str y)) E
theorem de_fmt {e : Expr} {f : DTE} (h : DE Xs mg Wx e f) : DE Xs mg Wx (.FormattedValue e (-1) none pos) (dFmt f) := by
  obtain ⟨t, h1, h2⟩ := h
  refine ⟨_, fun i => pe_fmt (h1 i), fun B ρ Q E hf W σ H Q' hh e x q => h2 B ρ _ E hf W σ H _ hh e x fun W1 H1 v d s1 r1 k1 => ?_⟩
  unfold fmtD at k1
  dsimp only at k1
  split at k1
  · cases r1
    exact .inl ⟨_, rfl, k1.1, q W1 H1 _ _ s1 (.str _) k1.2⟩
  · cases r1
    exact .inr ⟨_, rfl, k1.1, q W1 H1 _ _ s1 (.str _) k1.2⟩
  · exact k1.elim
/-- the parts of an f-string -/
abbrev DJT := Env → Str → (Str → Prop) → (XD → Prop) → Prop
def CpJ (mg : Gm) (Wx : WX) (ts : List TE) (f : DJT) : Prop := ∀ B ρ acc Q E, f ρ acc Q E → ∀ W σ H Q', Holds W H → EnvR mg B W H σ ρ → ExR mg Wx W H σ E → (∀ W' H' z, Step W H W' H' → Q z → Q' z H') → tJs ts acc σ H Q'
def DJ (Xs : ι → Cx) (mg : Gm) (Wx : WX) (es : List Expr) (f : DJT) : Prop := ∃ ts, (∀ i, PJ (Xs i) es ts) ∧ CpJ mg Wx ts f
abbrev dJNil : DJT := fun _ acc Q _ => Q acc
abbrev dJCons (f : DTE) (g : DJT) : DJT := fun ρ acc Q E => f ρ (fun x => match x with
  | .str y => (acc ++ y).length ≤ sizeLine ∧ g ρ (acc ++ y) Q E
  | _ => False) E
theorem dj_nil : DJ Xs mg Wx [] dJNil := ⟨[], fun _ => .nil, fun B ρ acc Q E hf W σ H Q' hh e x q => q W H acc (Step.refl hh) hf⟩
theorem dj_cons {e : Expr} {es : List Expr} {f : DTE} {g : DJT} (h : DE Xs mg Wx e f) (h' : DJ Xs mg Wx es g) : DJ Xs mg Wx (e :: es) (dJCons f g) := by
  obtain ⟨t, h1, h2⟩ := h
  obtain ⟨ts, g1, g2⟩ := h'
  refine ⟨t :: ts, fun i => .cons (h1 i) (g1 i), fun B ρ acc Q E hf W σ H Q' hh e x q => ?_⟩
  refine h2 B ρ _ E hf W σ H _ hh e x fun W1 H1 v d s1 r1 k1 => ?_
  dsimp only at k1
  split at k1
  · cases r1
    exact ⟨_, rfl, k1.1, g2 B ρ _ Q E k1.2 W1 σ H1 _ s1.holds (e.step s1) (x.step s1) fun W2 H2 z s2 k2 => q W2 H2 z (s1.trans s2) k2⟩
  · exact k1.elim
abbrev dJoined (g : DJT) : DTE := fun ρ Q E => g ρ Str.empty (fun z => Q (.str z)) E
theorem de_joined {v1 v2 : Expr} {rest : List Expr} {g : DJT} (h : DJ Xs mg Wx (v1 :: v2 :: rest) g) : DE Xs mg Wx (.JoinedStr (v1 :: v2 :: rest) pos) (dJoined g) := by
  obtain ⟨ts, h1, h2⟩ := h
  exact ⟨_, fun i => pe_joined (h1 i), fun B ρ Q E hf W σ H Q' hh e x q => h2 B ρ _ _ E hf W σ H _ hh e x fun W1 H1 z s1 k1 => q W1 H1 _ _ s1 (.str z) k1⟩
/-! ### dicts -/
def keyD : D → Option Key
  | .int i => some (.inl i)
  | .str z => some (.inr z)
  | _ => none
def valD (kvs : List (Key × D)) (k : Key) : Option D := (kvs.find? fun kv => decide (kv.1 = k)).map (·.2)
def putKD (kvs : List (Key × D)) (k : Key) (v : D) : List (Key × D) :=
  if (kvs.any fun kv => decide (kv.1 = k)) = true then kvs.map (fun kv => if kv.1 = k then (kv.1, v) else kv) else kvs ++ [(k, v)]
theorem keyD_v {W : Wd} {x : V} {d : D} {k : Key} (r : Rep mg W x d) (h : keyD d = some k) : x = kV k := by
  cases r with
  | int i => cases h; rfl
  | str i => cases h; rfl
  | _ => cases h
theorem valD_cons (p : Key × D) (r : List (Key × D)) (k : Key) : valD (p :: r) k = if p.1 = k then some p.2 else valD r k := by
  unfold valD
  rw [List.find?_cons]
  by_cases q : p.1 = k <;> simp [q]
theorem valV_cons (p : Key × V) (r : List (Key × V)) (k : Key) : valV (p :: r) k = if p.1 = k then some p.2 else valV r k := by
  unfold valV
  rw [List.find?_cons]
  by_cases q : p.1 = k <;> simp [q]
theorem val_rep {W : Wd} {k : Key} : ∀ {kvs : List (Key × V)} {ds : List (Key × D)}, kvs.map (·.1) = ds.map (·.1) → Reps mg W (kvs.map (·.2)) (ds.map (·.2)) →
    (valD ds k = none ∧ valV kvs k = none) ∨ ∃ v d, valD ds k = some d ∧ valV kvs k = some v ∧ Rep mg W v d
  | [], [], _, _ => .inl ⟨rfl, rfl⟩
  | p :: kvs, q :: ds, hk, hr => by
    obtain ⟨h1, h2⟩ := List.cons.inj hk
    cases hr with
    | cons r rs =>
      rw [valD_cons, valV_cons]
      by_cases e : q.1 = k
      · rw [if_pos e, if_pos (h1.trans e)]
        exact .inr ⟨_, _, rfl, rfl, r⟩
      · rw [if_neg e, if_neg (fun z => e (h1.symm.trans z))]
        exact val_rep h2 rs
  | [], _ :: _, hk, _ => by cases hk
  | _ :: _, [], hk, _ => by cases hk
theorem any_key {k : Key} : ∀ {kvs : List (Key × V)} {ds : List (Key × D)}, kvs.map (·.1) = ds.map (·.1) → (kvs.any fun kv => decide (kv.1 = k)) = (ds.any fun kv => decide (kv.1 = k))
  | [], [], _ => rfl
  | p :: kvs, q :: ds, hk => by
    obtain ⟨h1, h2⟩ := List.cons.inj hk
    have h1 : p.1 = q.1 := h1
    rw [List.any_cons, List.any_cons, h1, any_key h2]
  | [], _ :: _, hk => by cases hk
  | _ :: _, [], hk => by cases hk
theorem put_rep {W : Wd} {k : Key} {v : V} {d : D} {kvs : List (Key × V)} {ds : List (Key × D)} (hk : kvs.map (·.1) = ds.map (·.1)) (hr : Reps mg W (kvs.map (·.2)) (ds.map (·.2))) (r : Rep mg W v d) :
    (putK kvs k v).map (·.1) = (putKD ds k d).map (·.1) ∧ Reps mg W ((putK kvs k v).map (·.2)) ((putKD ds k d).map (·.2)) := by
  unfold putK putKD
  rw [any_key hk]
  split
  · rename_i hq
    clear hq
    induction kvs generalizing ds with
    | nil =>
      cases ds with
      | nil => exact ⟨rfl, .nil⟩
      | cons q ds => cases hk
    | cons p kvs ih =>
      cases ds with
      | nil => cases hk
      | cons q ds =>
        obtain ⟨h1, h2⟩ := List.cons.inj hk
        cases hr with
        | cons r1 rs =>
          obtain ⟨i1, i2⟩ := ih h2 rs
          simp only [List.map_cons]
          by_cases e : q.1 = k
          · have e' : p.1 = k := h1.trans e
            rw [if_pos e, if_pos e']
            exact ⟨by rw [i1]; exact congrArg (· :: _) h1, .cons r i2⟩
          · have e' : ¬ p.1 = k := fun z => e (h1.symm.trans z)
            rw [if_neg e, if_neg e']
            exact ⟨by rw [i1]; exact congrArg (· :: _) h1, .cons r1 i2⟩
  · rw [List.map_append, List.map_append, List.map_append, List.map_append]
    exact ⟨by rw [hk]; rfl, hr.append (.cons r .nil)⟩
theorem DGet.kf {H : Hp} {a : Addr} {o : Obj} {kvs : List (Key × V)} {k : Key} (e : H a = some (.frz o (.dK kvs))) : DGet H a (kV k) (valV kvs k) := .inl ⟨kvs, k, .inr ⟨o, e⟩, rfl, rfl⟩
def rdDIn (neg : Bool) : RD2 := fun x y Q => match y with
  | .dct kvs => ∃ k, keyD x = some k ∧ Q (.bl (if neg then !(valD kvs k).isSome else (valD kvs k).isSome))
  | _ => False
theorem ok_inD {k : Nat} (hr : ∀ j, RmG k (Xs j).A) : OpOk Xs mg (compareOp .In) (rdDIn false) := by
  refine ⟨fun y x H Q => ∃ a o, x = .ref a ∧ DGet H a y o ∧ Q (.bl o.isSome) H, fun j => ?_, ?_⟩
  · intro pins s σ H y x v u Q I ry rx h
    obtain ⟨a, o, rfl, g, q⟩ := h
    cases rx
    exact d_in (by have := (hr j).r.un; omega) I g ry fun s3 I3 => ⟨.bl o.isSome, H, I3, rfl, q⟩
  · intro W H x y dx dy Q Q' hh rx ry h q
    unfold rdDIn at h
    split at h
    · obtain ⟨k, h1, h3⟩ := h
      cases ry with
      | dct ha hk rs =>
        have ey := keyD_v rx h1
        subst ey
        rcases val_rep (k := k) hk rs with ⟨z, z2⟩ | ⟨v, d', z1, z2, z3⟩
        · rw [z] at h3
          exact ⟨_, none, rfl, by rw [← z2]; exact DGet.kf (hh.same _ _ ha), q W H _ _ (Step.refl hh) (.bl _) h3⟩
        · rw [z1] at h3
          exact ⟨_, some v, rfl, by rw [← z2]; exact DGet.kf (hh.same _ _ ha), q W H _ _ (Step.refl hh) (.bl _) h3⟩
    · exact h.elim
end
end FP
/-! FP18: dict comprehensions. -/
namespace FP
open PySem L2
variable [Tabl]
section
variable {ι : Type} {Xs : ι → Cx} {mg : Gm} {Wx : WX} {pos : Pos}
def dcD (body : D → (Option (Key × D) → Prop) → Prop) : List D → List (Key × D) → (List (Key × D) → Prop) → Prop
  | [], acc, Q => Q acc
  | d :: ds, acc, Q => body d fun o => match o with
    | some kv => dcD body ds (putKD acc kv.1 kv.2) Q
    | none => dcD body ds acc Q
abbrev dDc (w : DTI) (T : Tg) (ft : DTT) (fk fv : DTE) (vs : List Nat) : DTE := fun ρ Q E => w ρ (fun ds => ds.length ≤ sizeLine ∧ dcD (fun d k => ∃ ρ2, T.put d (wipeD ρ vs) = some ρ2 ∧ ft ρ2 (fun b => bit b
  (fk ρ2 (fun y => fv ρ2 (fun z => ∃ kk, keyD y = some kk ∧ k (some (kk, z))) F0) F0) (k none)) F0) ds [] fun kvs => Q (.dct kvs)) E
theorem putKD_len (kvs : List (Key × D)) (k : Key) (v : D) : (putKD kvs k v).length ≤ kvs.length + 1 := by
  unfold putKD
  split
  · rw [List.length_map]; omega
  · rw [List.length_append]; exact Nat.le_refl _
theorem Rep.newDct {W : Wd} {kvs : List (Key × V)} {ds : List (Key × D)} {p : Addr} {o : Obj} (hk : kvs.map (·.1) = ds.map (·.1)) (r : Reps mg W (kvs.map (·.2)) (ds.map (·.2))) (n : W.H p = none) : Rep mg (W.put p (.frz o (.dK kvs))) (.ref p) (.dct ds) :=
  .dct (show upd W.H p _ p = _ from upd_same) hk (r.mono (Wd.le_put n))
theorem len_keys {kvs : List (Key × V)} {ds : List (Key × D)} (h : kvs.map (·.1) = ds.map (·.1)) : kvs.length = ds.length := by
  have := congrArg List.length h
  simpa using this
theorem Cp.dc {wi : TI} {g : TG} {tt : TT} {tk tv : TE} {w : DTI} {T : Tg} {ft : DTT} {fk fv : DTE} {vs : List Nat} (hi : CpI mg Wx wi w) (hg : CpG mg g T) (hv : ∀ i ∈ T.slots, i ∈ vs) (ht : CpT mg Wx0 tt ft) (hk : Cp mg Wx0 tk fk) (he : Cp mg Wx0 tv fv) : Cp mg Wx (tLk (tDc wi g tt tk tv vs)) (dDc w T ft fk fv vs) := by
  intro B ρ Q E hf W σ H Q' hh e x q
  refine hi B ρ _ E hf W σ H _ hh e x fun W1 H1 J ds s1 wk k1 => ?_
  obtain ⟨hsz, k1⟩ := k1
  intro A hA
  have e1 := e.step s1
  refine ⟨fun i m H' => m = ds.length - i ∧ i ≤ ds.length ∧ ∃ W' us acc, Step W1 H1 W' H' ∧ H' A = some (.dK us) ∧ W'.H A = none ∧ ¬ W'.T A ∧ us.map (·.1) = acc.map (·.1) ∧ Reps mg W' (us.map (·.2)) (acc.map (·.2)) ∧ acc.length ≤ i ∧ dcD _ (ds.drop i) acc (fun kvs => Q (.dct kvs)),
    ⟨ds.length, by simp, Nat.zero_le _, W1, [], [], Step.lay s1.holds hA, upd_same, s1.holds.same.free hA, s1.holds.nT hA, rfl, .nil, Nat.le_refl _, k1⟩, ?_⟩
  rintro i m H' ⟨rfl, hi, W', us, acc, s', hL, nw, nt, ks, rs, la, k'⟩
  obtain ⟨go, stop, yld⟩ := wk W' H' s'.le s'.holds
  by_cases hlt : i < ds.length
  · refine .inr ⟨go i hlt, fun H2 => ∃ W2 us2 acc2, Step W1 H1 W2 H2 ∧ H2 A = some (.dK us2) ∧ W2.H A = none ∧ ¬ W2.T A ∧ us2.map (·.1) = acc2.map (·.1) ∧ Reps mg W2 (us2.map (·.2)) (acc2.map (·.2)) ∧ acc2.length ≤ i + 1 ∧ dcD _ (ds.drop (i + 1)) acc2 (fun kvs => Q (.dct kvs)), fun H2 q => ⟨ds.length - (i + 1), by omega, rfl, hlt, q⟩, fun y H2 hy => ?_⟩
    obtain ⟨W2, d, s2, hd, r⟩ := yld i y H2 hlt hy
    have ed : ds.drop i = d :: ds.drop (i + 1) := by
      rw [List.drop_eq_getElem_cons hlt]
      have := (List.getElem?_eq_some_iff.mp hd).2
      rw [this]
    rw [ed] at k'
    obtain ⟨ρ1, p1, k2⟩ := k'
    have sA : ∀ {Wa Wb : Wd} {Ha Hb : Hp} {ws : List (Key × V)}, Step Wa Ha Wb Hb → Ha A = some (.dK ws) → Wa.H A = none → ¬ Wa.T A → Hb A = some (.dK ws) ∧ Wb.H A = none ∧ ¬ Wb.T A := fun st a1 a2 a3 => ⟨st.keep A _ a1 a3, by rw [st.fresh A _ a1]; exact a2, fun t => by
      rcases st.freshT A t with t | t
      · exact a3 t
      · rw [a1] at t
        cases t⟩
    refine hg B W2 H2 y d _ _ ρ1 _ s2.holds r ((e1.step s').step s2 |>.wipe vs) p1 fun σ3 e3 w3 => ?_
    refine ⟨(w3 vs hv).trans (wipe_wipe σ vs), ?_⟩
    refine ht B ρ1 _ _ k2 W2 σ3 H2 _ s2.holds e3 ExR.f0 fun W3 H3 b s3 k3 => ?_
    obtain ⟨b1, b2, b3⟩ := sA (s2.trans s3) hL nw nt
    cases b with
    | true =>
      rw [if_pos rfl]
      refine hk B ρ1 _ _ k3 W3 σ3 H3 _ s3.holds (e3.step s3) ExR.f0 fun W4 H4 y dy s4 r4 k4 => ?_
      refine he B ρ1 _ _ k4 W4 σ3 H4 _ s4.holds ((e3.step s3).step s4) ExR.f0 fun W5 H5 z dz s5 r5 k5 => ?_
      obtain ⟨kk, h1, k6⟩ := k5
      have ey := keyD_v r4 h1
      subst ey
      obtain ⟨c1, c2, c3⟩ := sA (s4.trans s5) b1 b2 b3
      have s15 := (s'.trans s2).trans (s3.trans (s4.trans s5))
      have rs5 := rs.mono ((s2.trans s3).trans (s4.trans s5)).le
      obtain ⟨u1, u2⟩ := put_rep (k := kk) ks rs5 r5
      refine ⟨us, kk, rfl, c1, ?_, W5, putK us kk z, putKD acc kk dz, s15.own hA c1 c2 c3, upd_same, c2, c3, u1, u2, ?_, k6⟩
      · rw [len_keys ks]
        omega
      · have := putKD_len acc kk dz
        omega
    | false =>
      rw [if_neg Bool.false_ne_true]
      exact ⟨W3, us, acc, (s'.trans s2).trans s3, b1, b2, b3, ks, rs.mono (s2.trans s3).le, by omega, k3⟩
  · have ei : i = ds.length := by omega
    subst ei
    rw [List.drop_length] at k'
    exact .inl ⟨stop, A, _, rfl, hL, True.intro, fun od => q (W'.put A (.frz od (.dK us))) _ _ _ (s1.trans ((s'.own hA hL nw nt).taken hA upd_same nw nt)) (Rep.newDct ks rs nw) k'⟩
theorem de_dc {kx vx tg iter : Expr} {ifs : List Expr} {scope : Scope} {own : List (Str × Nat)} {w : DTI} {T : Tg} {ft : DTT} {fk fv : DTE} (hN : ∀ j, (Xs j).N.Nodup) (hi : DI Xs mg Wx tg iter w) (ok : ∀ j, BlkOk (Xs j).N (Xs j).env.scope scope own) (hg : DG (blkF Xs scope) mg tg T) (ht : DTs (blkF Xs scope) mg Wx0 ifs ft) (hk : DE (blkF Xs scope) mg Wx0 kx fk) (he : DE (blkF Xs scope) mg Wx0 vx fv)
    (hv : ∀ i ∈ T.slots, i ∈ own.map (·.2) := by decide) (hc : ∀ j, (Xs j).calm = true := by intro _; rfl) (hs : ∀ j x, foldedSetIterable iter (Xs j).env x = pure x := by intro _ _; rfl) : DE Xs mg Wx (.DictComp kx vx [⟨tg, iter, ifs, 0⟩] scope pos) (dDc w T ft fk fv (own.map (·.2))) := by
  obtain ⟨wi, i1, i2⟩ := hi
  obtain ⟨g, g1, g2⟩ := hg
  obtain ⟨tt, t1, t2⟩ := ht
  obtain ⟨tk, q1, q2⟩ := hk
  obtain ⟨te, e1, e2⟩ := he
  exact ⟨_, fun j => pe_lk (pe_dc (hc j) (hN j) (i1 j) (ok j) (fun s H C cl fp => g1 (j, s, H, C, cl, fp)) (fun s H C cl fp => t1 (j, s, H, C, cl, fp)) (fun s H C cl fp => q1 (j, s, H, C, cl, fp)) (fun s H C cl fp => e1 (j, s, H, C, cl, fp)) (hs j)), Cp.dc i2 g2 hv t2 q2 e2⟩
end
end FP
/-! FP19: for x in o, where o's class has an __iter__ that returns iter(self.f), f a tuple. -/
namespace FP
open PySem L2
end FP
/-! FP20: classes as values, classmethods, cls(..). -/
namespace FP
open PySem L2
end FP
/-! FP21: raise X('..'); try .. except X. -/
namespace FP
open PySem L2
variable [Tabl]
section
variable {ι : Type} {Xs : ι → Cx} {mg : Gm} {Wx : WX} {pos : Pos}
/-- a statement that is not reached -/
theorem ds_never {st : Stmt} : DS Xs mg Wx st (fun _ _ => False) := ⟨fun _ _ _ => False, fun _ => ⟨fun _ _ _ _ _ _ h => h.elim⟩, fun _ _ _ _ hf => hf.elim⟩
abbrev dRaise (x : Str) : DTS := fun N ρ => N.rs ⟨x, []⟩ ρ
/-- an own exception without own __init__ -/
structure ExcF (mg : Gm) (x : Str) (C : Addr) (bmB : List Value) (newId : String) : Prop where
  nm : mg.mg x = some (.ref C)
  ei : PySem.W.excIn mg.K C bmB newId = true
  kp : PySem.W.keepIn mg.K (.ref C) = true
  sb : PySem.W.subIn mg.K (.ref C) (.type "BaseException") = some true
  ty : PySem.W.typeIn mg.K (.ref C) = some (.type "type")
theorem ds_raise {x m : Str} {C : Addr} {bmB : List Value} {B newId initId : String} {j : Nat} {p p2 q : Pos} (F : ExcBaseFacts B newId initId bmB) (X : ExcF mg x C bmB newId) (tk : ∀ i, Takes (Xs i) Wx) (hK : ∀ j, (Xs j).K = mg.K := by intro _; rfl) (hM : ∀ j, (Xs j).mg = mg.mg := by intro _; rfl)
    (hc : ∀ j, (Xs j).calm = true := by intro _; rfl) (hg : ∀ j, Gl (Xs j) x := by intro _; rfl) (hdb : (x == ("__debug__" : Str)) = false := by decide) : DS Xs mg Wx (.Raise (some (.Call (.Name x p) [.Constant (.str m) j p2] [] q)) none pos) (dRaise x) := by
  refine ⟨fun _ σ H => Wx (.ref C) none σ H, fun i => ?_, fun W0 B N ρ hf W σ H Ds s e n => ?_⟩
  · have z := ps_raise (pos := pos) (hc i) (tk i) (pmk_own (m := m) (j := j) (p := p) (p2 := p2) (pos := q) (X := Xs i) F (by rw [hK i]; exact X.ei) (by rw [hM i]; exact X.nm) (by rw [hK i]; exact X.kp) (raises_own (by rw [hK i]; exact X.sb) (by rw [hK i]; exact X.ty)) (hg i) hdb)
    exact z
  · exact n.rs W H σ ρ _ _ _ s e ⟨C, X.nm, rfl, .inl ⟨rfl, rfl⟩⟩ hf
/-- which of the errors cs the clause takes -/
structure CatF (mg : Gm) (c : Value) (cs : List Str) (yes : Str → Bool) : Prop where
  cl : ∀ x ∈ cs, ∃ C, mg.mg x = some (.ref C) ∧ PySem.W.exmOne mg.K (.ref C) c = some (yes x)
end
end FP
/-! FP22: owned objects: a pure expression reads one as data (view). -/
namespace FP
open PySem L2
variable [Tabl]
def OF.toD : OF → D
  | .d x => x
  | .l xs => .lst xs
  | .ll xss => .lst (xss.map .lst)
def toDs (fs : List (Str × OF)) : List (Str × D) := fs.map fun p => (p.1, p.2.toD)
def plainD : D → Bool
  | .non => true
  | .bl _ => true
  | .int _ => true
  | .str _ => true
  | _ => false
theorem Rep.flat {mg : Gm} {W W' : Wd} {v : V} {d : D} (r : Rep mg W v d) (h : plainD d = true) : Rep mg W' v d := by
  cases r with
  | non => exact .non
  | bl b => exact .bl b
  | int b => exact .int b
  | str b => exact .str b
  | _ => cases h
/-- the world with some addresses as they stand -/
def Wd.seen (W : Wd) (H : Hp) (as : List Addr) : Wd := { W with H := fun b => if b ∈ as then H b else W.H b }
def Wd.cut (W : Wd) (as : List Addr) : Wd := { W with H := fun b => if b ∈ as then none else W.H b }
section
variable {mg : Gm} {B : Hp} {W W' : Wd} {H H' : Hp} {σ : St} {ρ : Env} {as : List Addr}
theorem seen_le (k : ∀ b ∈ as, W.H b = none) : Le W (W.seen H as) := ⟨fun b o e => by
  show (if b ∈ as then H b else W.H b) = some o
  by_cases q : b ∈ as
  · rw [k b q] at e
    cases e
  · rw [if_neg q]
    exact e, fun _ t => t, fun _ t => t⟩
theorem seen_holds (h : Holds W H) (k : ∀ b ∈ as, ¬ W.T b) : Holds (W.seen H as) H := ⟨fun b o e => by
  have e : (if b ∈ as then H b else W.H b) = some o := e
  by_cases q : b ∈ as
  · rw [if_pos q] at e
    exact e
  · rw [if_neg q] at e
    exact h.same b o e, fun a t => by
  obtain ⟨h1, h2⟩ := h.exm a t
  refine ⟨?_, h2⟩
  show (if a ∈ as then H a else W.H a) = none
  rw [if_neg fun q => k a q t]
  exact h1, h.tok, h.tab, h.all⟩
theorem seen_step {W1 : Wd} {H1 : Hp} (s : Step (W.seen H as) H W1 H1) (k : ∀ b ∈ as, W.H b = none) : Step W H (W1.cut as) H1 := by
  refine ⟨⟨fun b o e => ?_, s.le.t, s.le.dc⟩, ⟨fun b o e => ?_, fun a t => ?_, s.holds.tok, s.holds.tab, s.holds.all⟩, s.keep, fun b o e => ?_, s.freshT, s.live⟩
  · show (if b ∈ as then none else W1.H b) = some o
    have q : b ∉ as := fun q => by rw [k b q] at e; cases e
    rw [if_neg q]
    exact s.le.h b o ((seen_le k).h b o e)
  · have e : (if b ∈ as then none else W1.H b) = some o := e
    by_cases q : b ∈ as
    · rw [if_pos q] at e
      cases e
    · rw [if_neg q] at e
      exact s.holds.same b o e
  · obtain ⟨h1, h2⟩ := s.holds.exm a t
    refine ⟨?_, h2⟩
    show (if a ∈ as then none else W1.H a) = none
    by_cases q : a ∈ as
    · rw [if_pos q]
    · rw [if_neg q]
      exact h1
  · show (if b ∈ as then none else W1.H b) = W.H b
    by_cases q : b ∈ as
    · rw [if_pos q, k b q]
    · rw [if_neg q, s.fresh b o e]
      show (if b ∈ as then H b else W.H b) = W.H b
      rw [if_neg q]
theorem seen_in {b : Addr} (h : b ∈ as) : (W.seen H as).H b = H b := if_pos h
theorem Reps.lsts {W : Wd} : ∀ {Ls : List Addr} {xss : List (List D)}, Ls.length = xss.length → (∀ (i : Nat) (l : Addr) (xs : List D), Ls[i]? = some l → xss[i]? = some xs → ∃ vs, W.H l = some (.lst vs) ∧ Reps mg W vs xs) → Reps mg W (Ls.map V.ref) (xss.map D.lst)
  | [], [], _, _ => .nil
  | L :: Ls, xs :: xss, hl, h => by
    obtain ⟨vs, h1, h2⟩ := h 0 L xs rfl rfl
    exact .cons (.lst h1 h2) (Reps.lsts (by simpa using hl) fun i l ys q1 q2 => h (i + 1) l ys q1 q2)
  | [], _ :: _, hl, _ => by cases hl
  | _ :: _, [], hl, _ => by cases hl
theorem OFR.rep {v : V} {x : OF} {bs : List Addr} (h : OFR mg W H v x bs) (l : Le W (W.seen H as)) (k : ∀ b ∈ bs, b ∈ as) : Rep mg (W.seen H as) v x.toD := by
  cases x with
  | d x => exact h.2.mono l
  | l xs =>
    obtain ⟨L, vs, rfl, rfl, h3, h4⟩ := h
    exact .lst (by rw [seen_in (k L (by simp))]; exact h3) (h4.mono l)
  | ll xss =>
    obtain ⟨L, Ls, rfl, rfl, h3, h4, h5⟩ := h
    refine .lst (by rw [seen_in (k L (by simp))]; exact h3) (Reps.lsts h4 fun i b xs q1 q2 => ?_)
    obtain ⟨vs, g1, g2⟩ := h5 i b xs q1 q2
    exact ⟨vs, by rw [seen_in (k b (List.mem_cons_of_mem _ (List.mem_of_getElem? q1)))]; exact g1, g2.mono l⟩
theorem OFs.rep (l : Le W (W.seen H as)) : ∀ {vs : List (Str × V)} {fs : List (Str × OF)} {bs : List Addr}, OFs mg W H vs fs bs → (∀ b ∈ bs, b ∈ as) → vs.map (·.1) = (toDs fs).map (·.1) ∧ Reps mg (W.seen H as) (vs.map (·.2)) ((toDs fs).map (·.2))
  | [], [], _, _, _ => ⟨rfl, .nil⟩
  | (f, v) :: vs, (g, x) :: fs, _, ⟨e, as1, as2, rfl, h1, h2⟩, k => by
    obtain ⟨i1, i2⟩ := OFs.rep l h2 fun b hb => k b (List.mem_append_right _ hb)
    refine ⟨?_, .cons (h1.rep l fun b hb => k b (List.mem_append_left _ hb)) i2⟩
    show f :: vs.map (·.1) = g :: (toDs fs).map (·.1)
    rw [e, i1]
  | [], _ :: _, _, h, _ => h.elim
  | _ :: _, [], _, h, _ => h.elim
/-- the environment seen -/
theorem EnvR.seen (e : EnvR mg B W H σ ρ) {i : Nat} {c : Str} {fs : List (Str × OF)} (hi : ρ[i]? = some (.ow c as fs)) :
    (∀ b ∈ as, W.H b = none ∧ ¬ W.T b) ∧ EnvR mg B (W.seen H as) H σ (ρ.set i (.d (.ins c (toDs fs)))) := by
  obtain ⟨o, h1, a, as', vs, ea, ho, ⟨C, dx, hc, h2⟩, h3, h4, h5⟩ := e.sl i _ hi
  have k : ∀ b ∈ as, W.H b = none ∧ ¬ W.T b := fun b hb => ⟨(h5 b hb).2.1, (h5 b hb).2.2.1⟩
  have l := seen_le (W := W) (H := H) fun b hb => (k b hb).1
  refine ⟨k, by simpa using e.len, fun j sl hj => ?_, fun j m s1 s2 o1 o2 b hjk q1 q2 q3 q4 m1 m2 => ?_⟩
  · rcases get_set hj with ⟨rfl, rfl⟩ | ⟨nj, hj⟩
    · obtain ⟨g1, g2⟩ := OFs.rep (as := as) l h3 fun b hb => by rw [ea]; exact List.mem_cons_of_mem _ hb
      exact ⟨o, h1, _, ho, .ins hc (by rw [seen_in (by rw [ea]; exact List.mem_cons_self)]; exact h2) g1 g2⟩
    · obtain ⟨o', g1, g2⟩ := e.sl j sl hj
      refine ⟨o', g1, g2.keep l fun b hb u h5 h6 h7 => ⟨h5, ?_, h7⟩⟩
      show (if b ∈ as then H b else W.H b) = none
      have nb : b ∉ as := fun q => e.dis i j _ sl o o' b nj hi hj h1 g1 q hb
      rw [if_neg nb]
      exact h6
  · rcases get_set q1 with ⟨_, z⟩ | ⟨n1, q1⟩
    · rw [← z] at m1
      cases m1
    · rcases get_set q2 with ⟨_, z⟩ | ⟨n2, q2⟩
      · rw [← z] at m2
        cases m2
      · exact e.dis j m s1 s2 o1 o2 b hjk q1 q2 q3 q4 m1 m2
end
end FP
/-! FP23: owned objects: what changes them. -/
namespace FP
open PySem L2
variable [Tabl]
def putO (f : Str) (x : OF) : List (Str × OF) → List (Str × OF)
  | [] => []
  | (g, y) :: r => if f == g then (g, x) :: r else (g, y) :: putO f x r
section
variable {mg : Gm} {B : Hp} {W : Wd} {H : Hp} {σ : St} {ρ : Env} {as : List Addr}
/-- a field is found; another thing is put in its place, its address kept -/
theorem OFs.get {f : Str} {x : OF} : ∀ {vs : List (Str × V)} {fs : List (Str × OF)} {as : List Addr}, OFs mg W H vs fs as → fs.lookup f = some x → as.Nodup →
    ∃ v pre bs post, vs.lookup f = some v ∧ as = pre ++ (bs ++ post) ∧ OFR mg W H v x bs ∧
      ∀ x' bs' H', (∀ b u, H b = some u → b ∉ bs → H' b = some u) → OFR mg W H' v x' bs' → OFs mg W H' vs (putO f x' fs) (pre ++ (bs' ++ post))
  | [], [], _, _, hl, _ => by cases hl
  | (g, v) :: vs, (g', y) :: fs, as, ⟨e, as1, as2, ea, h1, h2⟩, hl, nd => by
    subst e
    rw [List.lookup_cons] at hl
    rw [List.lookup_cons]
    rw [ea] at nd
    by_cases q : (f == g) = true
    · rw [q] at hl ⊢
      cases hl
      refine ⟨v, [], as1, as2, rfl, ea, h1, fun x' bs' H' hH r => ?_⟩
      have ep : putO f x' ((g, x) :: fs) = (g, x') :: fs := by
        show (if (f == g) = true then _ else _) = _
        rw [if_pos q]
      rw [ep]
      refine ⟨rfl, bs', as2, rfl, r, h2.keep (Le.refl W) fun b hb u hu => hH b u hu fun z => ?_⟩
      exact (List.nodup_append.mp nd).2.2 b z b hb rfl
    · have q : (f == g) = false := by simpa using q
      rw [q] at hl ⊢
      obtain ⟨w, pre, bs, post, g1, g2, g3, g4⟩ := OFs.get h2 hl (List.nodup_append.mp nd).2.1
      refine ⟨w, as1 ++ pre, bs, post, g1, by rw [ea, g2, List.append_assoc], g3, fun x' bs' H' hH r => ?_⟩
      have ep : putO f x' ((g, y) :: fs) = (g, y) :: putO f x' fs := by
        show (if (f == g) = true then _ else _) = _
        rw [q, if_neg Bool.false_ne_true]
      rw [ep, List.append_assoc]
      refine ⟨rfl, as1, _, rfl, h1.keep (Le.refl W) fun b hb u hu => hH b u hu fun z => ?_, g4 x' bs' H' hH r⟩
      exact (List.nodup_append.mp nd).2.2 b hb b (by rw [g2]; exact List.mem_append_right _ (List.mem_append_left _ z)) rfl
  | [], _ :: _, _, h, _, _ => h.elim
  | _ :: _, [], _, h, _, _ => h.elim
end
end FP
/-! FP24: owned objects: fields stored. -/
namespace FP
open PySem L2
variable [Tabl]
/-- a field is put, at the end if it is new -/
def setO (f : Str) (x : OF) : List (Str × OF) → List (Str × OF)
  | [] => [(f, x)]
  | (g, y) :: r => if g = f then (f, x) :: r else (g, y) :: setO f x r
section
variable {mg : Gm} {B : Hp} {W : Wd} {H : Hp} {σ : St} {ρ : Env} {as : List Addr}
theorem OFs.length : ∀ {vs : List (Str × V)} {fs : List (Str × OF)} {as : List Addr}, OFs mg W H vs fs as → vs.length = fs.length
  | [], [], _, _ => rfl
  | _ :: _, _ :: _, _, ⟨_, _, _, _, _, h⟩ => congrArg (· + 1) (OFs.length h)
  | [], _ :: _, _, h => h.elim
  | _ :: _, [], _, h => h.elim
/-- a datum's field may be stored -/
def datF (f : Str) (fs : List (Str × OF)) : Bool := match fs.lookup f with
  | none => true
  | some (.d _) => true
  | _ => false
theorem OFs.put {f : Str} {v : V} {d : D} (r : Rep mg W v d) : ∀ {vs : List (Str × V)} {fs : List (Str × OF)} {as : List Addr}, OFs mg W H vs fs as → datF f fs = true → OFs mg W H (putF f v vs) (setO f (.d d) fs) as
  | [], [], as, h, _ => by
    have h : as = [] := h
    subst h
    exact ⟨rfl, [], [], rfl, ⟨rfl, r⟩, rfl⟩
  | (g, w) :: vs, (g', y) :: fs, as, ⟨e, as1, as2, ea, h1, h2⟩, hd => by
    subst e
    unfold putF setO
    by_cases q : g = f
    · rw [if_pos q, if_pos q]
      have hy : ∃ d0, y = .d d0 := by
        unfold datF at hd
        rw [List.lookup_cons, show (f == g) = true from by rw [q]; exact beq_self_eq_true f] at hd
        cases y with
        | d d0 => exact ⟨d0, rfl⟩
        | l _ => cases hd
        | ll _ => cases hd
      obtain ⟨d0, rfl⟩ := hy
      obtain ⟨z, _⟩ := h1
      subst z
      exact ⟨q, [], as2, ea, ⟨rfl, r⟩, h2⟩
    · rw [if_neg q, if_neg q]
      refine ⟨rfl, as1, as2, ea, h1, OFs.put r h2 ?_⟩
      unfold datF at hd ⊢
      rw [List.lookup_cons, show (f == g) = false from by simpa using fun z => q z.symm] at hd
      exact hd
  | [], _ :: _, _, h, _ => h.elim
  | _ :: _, [], _, h, _ => h.elim
end
end FP
/-! FP25: owned objects: a new field that holds a new list (x.f = []), or a new list of new lists (x.f = [[]]). -/
namespace FP
open PySem L2
variable [Tabl]
section
variable {mg : Gm} {B : Hp} {W : Wd} {H : Hp} {σ : St} {ρ : Env}
theorem OFs.snoc {f : Str} {v : V} {x : OF} {bs : List Addr} (r : OFR mg W H v x bs) : ∀ {vs : List (Str × V)} {fs : List (Str × OF)} {as : List Addr}, OFs mg W H vs fs as → fs.lookup f = none → OFs mg W H (putF f v vs) (fs ++ [(f, x)]) (as ++ bs)
  | [], [], as, h, _ => by
    have h : as = [] := h
    subst h
    exact ⟨rfl, bs, [], by simp, r, rfl⟩
  | (g, w) :: vs, (g', y) :: fs, as, ⟨e, as1, as2, ea, h1, h2⟩, hl => by
    subst e
    rw [List.lookup_cons] at hl
    have q : (f == g) = false := by
      cases z : f == g with
      | false => rfl
      | true => rw [z] at hl; cases hl
    rw [q] at hl
    unfold putF
    rw [if_neg fun z => by rw [z, beq_self_eq_true] at q; cases q]
    exact ⟨rfl, as1, as2 ++ bs, by rw [ea, List.append_assoc], h1, OFs.snoc r h2 hl⟩
  | [], _ :: _, _, h, _ => h.elim
  | _ :: _, [], _, h, _ => h.elim
end
section
variable {ι : Type} {Xs : ι → Cx} {mg : Gm} {Wx : WX} {pos : Pos}
theorem Step.noB {W0 W : Wd} {B H : Hp} (s : Step W0 B W H) {p : Addr} (h : H p = none) : B p = none := by
  cases q : B p with
  | none => rfl
  | some o =>
    obtain ⟨o', e'⟩ := s.live p o q
    rw [e'] at h
    cases h
end
end FP
/-! FP26: owned lists of owned lists: x.f.append([]), x.f[-1].append(e), y = x.f.pop(). -/
namespace FP
open PySem L2
end FP
/-! FP27: x.f[-1].append(e). -/
namespace FP
open PySem L2
end FP
/-! FP28: y = x.f.pop() of an owned list of owned lists. -/
namespace FP
open PySem L2
variable [Tabl]
section
variable {mg : Gm} {B : Hp} {W : Wd} {H : Hp} {σ : St} {ρ : Env}
/-- a place gets what no place has -/
theorem EnvR.move (e : EnvR mg B W H σ ρ) {k : Nat} {o : Option V} {s : Sl} (n : ∀ (j : Nat) (t : Sl) (o' : Option V) (b : Addr), j ≠ k → ρ[j]? = some t → σ[j]? = some o' → b ∈ t.fp o' → b ∈ s.fp o → False) (r : SlR mg B W H o s) : EnvR mg B W H (σ.set k o) (ρ.set k s) := by
  refine ⟨by simpa using e.len, fun j sl hj => ?_, fun j m s1 s2 o1 o2 a hjk h1 h2 h3 h4 m1 m2 => ?_⟩
  · rcases get_set hj with ⟨rfl, rfl⟩ | ⟨nj, hj⟩
    · have hl : k < ρ.length := by simpa using (List.getElem?_eq_some_iff.mp hj).1
      exact ⟨o, by rw [List.getElem?_set_self (by rw [e.len]; exact hl)], r⟩
    · obtain ⟨o', h1, h2⟩ := e.sl j sl hj
      exact ⟨o', by rw [List.getElem?_set_ne nj]; exact h1, h2⟩
  · rcases get_set h1 with ⟨e1, z1⟩ | ⟨n1, h1⟩
    · rcases get_set h2 with ⟨q, _⟩ | ⟨n2, h2⟩
      · exact hjk (e1.symm.trans q)
      · rw [List.getElem?_set_ne n2] at h4
        rcases get_set h3 with ⟨_, q⟩ | ⟨q, _⟩
        · rw [← z1, ← q] at m1
          exact n m s2 o2 a (Ne.symm n2) h2 h4 m2 m1
        · exact q e1
    · rcases get_set h2 with ⟨e2, z2⟩ | ⟨n2, h2⟩
      · rw [List.getElem?_set_ne n1] at h3
        rcases get_set h4 with ⟨_, q⟩ | ⟨q, _⟩
        · rw [← z2, ← q] at m2
          exact n j s1 o1 a (Ne.symm n1) h1 h3 m1 m2
        · exact q e2
      · rw [List.getElem?_set_ne n1] at h3
        rw [List.getElem?_set_ne n2] at h4
        exact e.dis j m s1 s2 o1 o2 a hjk h1 h2 h3 h4 m1 m2
end
end FP
/-! FP29: methods that change an owned object; making an owned object; handing it to the world. -/
namespace FP
open PySem L2
variable [Tabl]
section
variable {mg : Gm} {B B' : Hp} {W W' : Wd} {H H' : Hp} {σ : St} {ρ : Env} {as : List Addr}
theorem SlR.rebase {o : Option V} {s : Sl} (h : SlR mg B W H o s) (k : ∀ a ∈ s.fp o, B a = none → B' a = none) : SlR mg B' W H o s := by
  cases s with
  | no => exact h
  | exc => exact h
  | d x => exact h
  | own xs =>
    obtain ⟨a, vs, h1, h2, h3, h4, h5, r⟩ := h
    subst h1
    exact ⟨a, vs, rfl, h2, h3, h4, k a (List.mem_singleton.mpr rfl) h5, r⟩
  | od xs =>
    obtain ⟨a, vs, h1, h2, h3, h4, h5, r⟩ := h
    subst h1
    exact ⟨a, vs, rfl, h2, h3, h4, k a (List.mem_singleton.mpr rfl) h5, r⟩
  | ob c a fs =>
    obtain ⟨vs, h1, h2, h3, h4, h5, r⟩ := h
    exact ⟨vs, h1, h2, h3, h4, k a (List.mem_singleton.mpr rfl) h5, r⟩
  | ow c as fs =>
    obtain ⟨a, as', vs, h1, h2, h3, h4, h5, h6⟩ := h
    exact ⟨a, as', vs, h1, h2, h3, h4, h5, fun b hb => ⟨(h6 b hb).1, (h6 b hb).2.1, (h6 b hb).2.2.1, k b hb (h6 b hb).2.2.2⟩⟩
end
/-! ### the promise of a method that changes its object -/
end FP
/-! FP30: t == (), t != (); max of a list; x, y = [], e; a def that is not called. -/
namespace FP
open PySem L2
variable [Tabl]
section
variable {ι : Type} {Xs : ι → Cx} {mg : Gm} {Wx : WX} {pos : Pos}
def rT0 (K : PySem.W.Frag) (neg : Bool) : R2 := fun x y H Q => ∃ a b xs, x = .ref a ∧ y = .ref b ∧ SqT K H a xs ∧ SqT K H b [] ∧ Q (.bl (if neg then !xs.isEmpty else xs.isEmpty)) H
theorem op_eqT0 {X : Cx} (hu : X.A.units + 64 < cLine) : OpR X (compareOp .Eq) (rT0 X.K false) := by
  intro pins s σ H x y v u Q I rx ry h
  obtain ⟨a, b, xs, rfl, rfl, h1, h2, q⟩ := h
  cases rx
  cases ry
  obtain ⟨its, rv, pl, hz⟩ := I.tuple h1
  obtain ⟨its2, rv2, pl2, hz2⟩ := I.tuple h2
  have e2 : its2 = [] := by
    have := rv2.length
    cases its2 with
    | nil => rfl
    | cons => cases this
  subst e2
  refine SeqAt.rcIn_tuples (e := fun _ => true) (show s.heap.IsTuple a its.toArray from pl) (show s.heap.IsTuple b #[] from pl2) (by omega) (fun j _ h2 => absurd h2 (Nat.not_lt_zero j)) ⟨.bl xs.isEmpty, H, I, ?_, q⟩
  show Value.bool _ = Value.bool _
  congr 1
  have el := rv.length
  cases xs with
  | nil =>
    cases its with
    | nil => rfl
    | cons => cases el
  | cons =>
    cases its with
    | nil => cases el
    | cons => rfl
theorem op_neT0 {X : Cx} (hu : X.A.units + 64 < cLine) : OpR X (compareOp .NotEq) (rT0 X.K true) := by
  intro pins s σ H x y v u Q I rx ry h
  obtain ⟨a, b, xs, rfl, rfl, h1, h2, q⟩ := h
  cases rx
  cases ry
  obtain ⟨its, rv, pl, hz⟩ := I.tuple h1
  obtain ⟨its2, rv2, pl2, hz2⟩ := I.tuple h2
  have e2 : its2 = [] := by
    have := rv2.length
    cases its2 with
    | nil => rfl
    | cons => cases this
  subst e2
  have hl : s.heap.IsTuple a its.toArray := pl
  have hb : s.heap.IsTuple b #[] := pl2
  obtain ⟨⟨cls, dd, data, sl⟩, ho, hc, n, hd⟩ := id hl
  obtain ⟨⟨cls2, dd2, data2, sl2⟩, ho2, hc2, n2, hd2⟩ := id hb
  simp only at hc hd hc2 hd2
  subst hc hd hc2 hd2
  refine wpAny_richCompare_same_room (T := "tuple") (op := .NotEq) ⟨_, ho, rfl⟩ ⟨_, ho2, rfl⟩ F.slot_tuple_ne (call_meets F.slot_tuple_ne ⟨_, ho, rfl⟩ F.entry_tuple_ne (F.args_tuple_ne_2 _ _) (SeqAt.tuple_neAt a b its.toArray #[] n n2 dd dd2 sl sl2 (fun _ => true))
    ⟨ho, ho2, fun j _ h2 => absurd h2 (Nat.not_lt_zero j), (fun x => nomatch x), .bl (!xs.isEmpty), H, I, ?_, q⟩) (by omega)
  show Value.bool _ = Value.bool _
  congr 1
  have el := rv.length
  cases xs with
  | nil =>
    cases its with
    | nil => rfl
    | cons => cases el
  | cons =>
    cases its with
    | nil => cases el
    | cons => rfl
/-- a tuple of anything beside () -/
def rdT0 (neg : Bool) : RD2 := fun x y Q => match x, y with
  | .tup xs, .tup [] => Q (.bl (if neg then !xs.isEmpty else xs.isEmpty))
  | _, _ => False
theorem ok_T0 {neg : Bool} {W : Wd} {H : Hp} {x y : V} {dx dy : D} {Q : D → Prop} {Q' : VK} (hh : Holds W H) (rx : Rep mg W x dx) (ry : Rep mg W y dy) (h : rdT0 neg dx dy Q) (q : ToV mg W H Q Q') : rT0 mg.K neg x y H Q' := by
  unfold rdT0 at h
  split at h
  · rename_i xs
    cases rx with
    | @tup a vs ds ha rs =>
      cases ry with
      | @tup b vs2 ds2 hb rs2 =>
        cases rs2
        have e : vs.isEmpty = xs.isEmpty := by
          cases rs <;> rfl
        refine ⟨a, b, vs, rfl, rfl, SqT.of (hh.same _ _ ha), SqT.of (hh.same _ _ hb), ?_⟩
        rw [e]
        exact q W H _ _ (Step.refl hh) (.bl _) h
  · exact h.elim
theorem ok_eqT0 (hu : ∀ j, (Xs j).A.units + 64 < cLine) (hK : ∀ j, (Xs j).K = mg.K := by intro _; rfl) : OpOk Xs mg (compareOp .Eq) (rdT0 false) :=
  ⟨_, fun j => by rw [← hK j]; exact op_eqT0 (hu j), fun W H x y dx dy Q Q' hh rx ry h q => ok_T0 hh rx ry h q⟩
theorem ok_neT0 (hu : ∀ j, (Xs j).A.units + 64 < cLine) (hK : ∀ j, (Xs j).K = mg.K := by intro _; rfl) : OpOk Xs mg (compareOp .NotEq) (rdT0 true) :=
  ⟨_, fun j => by rw [← hK j]; exact op_neT0 (hu j), fun W H x y dx dy Q Q' hh rx ry h q => ok_T0 hh rx ry h q⟩
/-! ### max of a list of ints -/
def intsD : List D → Option (List Int)
  | [] => some []
  | .int i :: r => (intsD r).map (i :: ·)
  | _ :: _ => none
theorem intsD_map : ∀ ns : List Int, intsD (ns.map D.int) = some ns
  | [] => rfl
  | n :: r => by
    show (intsD (r.map D.int)).map (n :: ·) = _
    rw [intsD_map r]
    rfl
theorem intsD_v {W : Wd} : ∀ {vs : List V} {xs : List D} {ns : List Int}, Reps mg W vs xs → intsD xs = some ns → vs = ns.map V.int
  | [], [], _, _, h => by cases h; rfl
  | _ :: _, .int i :: r', ns, .cons r rs, h => by
    have h : (intsD r').map (i :: ·) = some ns := h
    cases r
    cases q : intsD r' with
    | none => rw [q] at h; cases h
    | some ms =>
      rw [q] at h
      cases h
      rw [intsD_v rs q]
      rfl
  | _ :: _, .non :: _, _, _, h | _ :: _, .bl _ :: _, _, _, h | _ :: _, .str _ :: _, _, _, h | _ :: _, .tup _ :: _, _, _, h | _ :: _, .lst _ :: _, _, _, h | _ :: _, .fz _ :: _, _, _, h | _ :: _, .dct _ :: _, _, _, h | _ :: _, .ins _ _ :: _, _, _, h | _ :: _, .tok :: _, _, _, h | _ :: _, .cl _ :: _, _, _, h | _ :: _, .fn _ _ :: _, _, _, h => by cases h
/-! ### x, y = [..], e -/
abbrev dParO (i j : Nat) (g : DTA) (f : DTE) : DTS := fun N ρ => g ρ (fun xs => f ρ (fun d => N.nx ((ρ.set i (.own xs)).set j (.d d))) (fun x => N.rs x ρ)) (fun x => N.rs x ρ)
theorem ds_parO {i j : Nat} {x y : Str} {a b : Expr} {g : DTA} {f : DTE} {px py pt : Pos} {kt k2 : Nat} {pt2 : Pos} (h : DO Xs mg Wx a g) (h' : DE Xs mg Wx b f) (hN : ∀ l, (Xs l).N.Nodup)
    (hw : ∀ l, swappedStores [.Tuple [.Name x px, .Name y py] kt pt] (.Tuple [a, b] k2 pt2) (Xs l).env = pure (some [x, y]) := by intro _; rfl) (hij : i ≠ j := by decide) (hi : ∀ l, (Xs l).N[i]? = some x := by intro _; rfl) (hj : ∀ l, (Xs l).N[j]? = some y := by intro _; rfl)
    (hx : ∀ l, (Xs l).env.scope.names.lookup x = some .local := by intro _; rfl) (hy : ∀ l, (Xs l).env.scope.names.lookup y = some .local := by intro _; rfl) (hc : ∀ l, (Xs l).calm = true := by intro _; rfl)
    (hs : ∀ l, swapsWithSole [.Tuple [.Name x px, .Name y py] kt pt] (.Tuple [a, b] k2 pt2) pos.line (Xs l).env = pure false := by intro _; rfl)
    (he : ∀ i, starEach [a, b] (Xs i).env = (false, eval a (Xs i).env) :: starEach [b] (Xs i).env := by intro _; rfl) (he2 : ∀ i, starEach [b] (Xs i).env = [(false, eval b (Xs i).env)] := by intro _; rfl) : DS Xs mg Wx (.Assign [.Tuple [.Name x px, .Name y py] kt pt] (.Tuple [a, b] k2 pt2) pos) (dParO i j g f) := by
  obtain ⟨t, h1, h2⟩ := h
  obtain ⟨u, g1, g2⟩ := h'
  refine ⟨_, fun l => ps_par (i := i) (j := j) (hc l) (hN l) (hi l) (hj l) hij (hx l) (hy l) (pa_cons (h1 l) (pa_cons (g1 l) pa_nil (he2 l)) (he l)) (hw l) (hs l), fun W0 B N ρ hf W σ H Ds s e n => ?_⟩
  refine h2 B ρ _ _ hf W σ H _ s.holds e (n.ex s e) fun W1 H1 p vs ds s1 hp r1 k1 => ?_
  have e1 := e.step s1
  have s01 := s.trans s1
  have sl := Step.lay (o := .lst vs) s1.holds hp
  have e2 := e1.setOwn (i := i) s1.holds hp (s01.noB hp) r1
  refine g2 B ρ _ _ k1 W1 σ _ _ sl.holds (e1.step sl) (n.ex (s01.trans sl) (e1.step sl)) fun W2 H2 v d s2 r2 k2 => ?_
  exact ⟨_, _, rfl, n.nx W2 H2 _ _ ((s01.trans sl).trans s2) ((e2.step s2).set r2) k2⟩
/-- a def that is not called -/
theorem DefOk.never {P : Program} {w : World} {mg : Gm} {base : Heap} {x qual : Str} {st : Stmt} {ps : List Str} {k : Nat} (d : ∃ fa fd, mg.mg x = some (.ref fa) ∧ Fun mg.K x qual st fa fd)
    (hb : ∀ (kV doc pm : Value) (an : Option Addr) (cdv ct : Value) (us : List Value), us.length = ps.length → bindArgs (PySem.W.fnOf x qual (defArgs st) (defBody st) (defScope st) .none kV doc pm an cdv ct) ⟨us, []⟩ = pure (ps.zip us)) : DefOk P w mg base k x ps.length (fun _ _ _ => False) := by
  obtain ⟨fa, fd, h1, F⟩ := d
  refine ⟨fa, fd, ps, h1, F.kp, F.binds hb, rfl, fun vs H Q E hs => ?_, fun A out z H ag us vs Q E _ _ _ _ hs => ?_⟩
  · obtain ⟨W, ds, Qd, Ed, _, _, _, h, _⟩ := hs
    exact h.elim
  · obtain ⟨W, ds, Qd, Ed, _, _, _, h, _⟩ := hs
    exact h.elim
end
end FP
/-! FP31: class facts put together; special methods by their bodies. -/
namespace FP
open PySem L2
variable [Tabl]
section
variable {mg : Gm}
theorem kit_no {n : String} {C : Addr} (ic : PySem.W.isClsIn mg.K C = true) (ty : PySem.W.typeIn mg.K (.ref C) = some (.type "type")) (h : PySem.W.subIn mg.K (.type n) (.ref C) = some false) : PySem.W.kitOne mg.K (.type n) (.ref C) = some false := by
  have e : (Value.type n == Value.ref C) = false := rfl
  unfold PySem.W.kitOne
  rw [e, if_neg Bool.false_ne_true]
  show (if ((PySem.W.clsIn mg.K C).isSome && PySem.W.typeIn mg.K (.ref C) == some (.type "type")) = true then PySem.W.subIn mg.K (.type n) (.ref C) else none) = _
  have ic : (PySem.W.clsIn mg.K C).isSome = true := ic
  rw [ic, ty, h]
  rfl
theorem isi_mk {c : Str} {C : Addr} (F : ClsF mg c C) (ic : PySem.W.isClsIn mg.K C = true) (ty : PySem.W.typeIn mg.K (.ref C) = some (.type "type")) (h0 : PySem.W.subIn mg.K (.type "NoneType") (.ref C) = some false) (h1 : PySem.W.subIn mg.K (.type "bool") (.ref C) = some false) (h2 : PySem.W.subIn mg.K (.type "int") (.ref C) = some false) (h3 : PySem.W.subIn mg.K (.type "str") (.ref C) = some false)
    (h4 : PySem.W.subIn mg.K (.type "tuple") (.ref C) = some false) (h5 : PySem.W.subIn mg.K (.type "list") (.ref C) = some false) (h6 : PySem.W.subIn mg.K (.type "dict") (.ref C) = some false) : IsiF mg C [c] (fun _ => true) := by
  refine ⟨fun n hn => kit_no ic ty ?_, fun x hx => ?_⟩
  · simp only [List.mem_cons, List.not_mem_nil, or_false] at hn
    rcases hn with rfl | rfl | rfl | rfl | rfl | rfl | rfl <;> assumption
  · rw [List.mem_singleton.mp hx]
    exact ⟨C, F, if_pos (beq_self_eq_true _)⟩
theorem eqF_mk {c : Str} {C : Addr} (F : ClsF mg c C) (h0 : PySem.W.notFirst mg.K C (.type "NoneType") = true) (h1 : PySem.W.notFirst mg.K C (.type "bool") = true) (h2 : PySem.W.notFirst mg.K C (.type "int") = true) (h3 : PySem.W.notFirst mg.K C (.type "str") = true)
    (h4 : PySem.W.notFirst mg.K C (.type "tuple") = true) (h5 : PySem.W.notFirst mg.K C (.type "list") = true) (h6 : PySem.W.notFirst mg.K C (.type "dict") = true) (h7 : PySem.W.notFirst mg.K C (.ref C) = true) : EqF mg C [c] := by
  refine ⟨fun n hn => ?_, fun x hx => ?_⟩
  · simp only [List.mem_cons, List.not_mem_nil, or_false] at hn
    rcases hn with rfl | rfl | rfl | rfl | rfl | rfl | rfl <;> assumption
  · rw [List.mem_singleton.mp hx]
    exact ⟨C, F, h7⟩
theorem mkSpec {P : Program} {w : World} {base : Heap} {C : Addr} {m qual : Str} {st : Stmt} {N ps : List Str} {k : Nat} {f : List D → M D} (d : ∃ fa fd, (Meth mg.K C m fa ∧ PySem.W.fnIn mg.K fa = true) ∧ Fun mg.K m qual st fa fd) (S : FnScope N ps (defScope st))
    (hb : ∀ (kV doc pm : Value) (an : Option Addr) (cdv ct : Value) (us : List Value), us.length = ps.length → bindArgs (PySem.W.fnOf m qual (defArgs st) (defBody st) (defScope st) .none kV doc pm an cdv ct) ⟨us, []⟩ = pure (ps.zip us))
    (h : ∀ (fa : Addr) (cdv : Value) (A : Around) (outer : List PySem.Env) (s : Shared) (H : Hp) (E : XK), RmG k (A.deeper (PyProof.Rows.envOfC qual (defScope st) s.heap.objs.size fa cdv)) →
      ∃ g, DSs (fun _ : Unit => cxOf (L2.CX P w) P w mg.K mg.mg base N qual (defScope st) fa cdv A outer s H E) mg (fun cls d _ H' => E cls d H') (defBody st) g ∧
        ∀ ds Q Ex, ds.length = ps.length → f ds Q Ex → g ⟨fun _ => Q .non, fun d _ => Q d, fun _ => False, fun _ => False, fun x _ => Ex x⟩ (startD N.length ds)) :
    SpecOk P w mg base (k + 1) C m ps.length f := by
  obtain ⟨fa, fd, ⟨hm, hf⟩, F⟩ := d
  exact ⟨fa, fd, ps, hm.at_, hm.fn, hf, F.binds hb, rfl, def_ok F S (h fa)⟩
theorem FnG.imp {P : Program} {w : World} {K : PySem.W.Frag} {mg : Str → Option Value} {base : Heap} {k : Nat} {f : Addr} {fd : FuncData} {ps : List Str} {sp sp' : Sp} (F : FnG P w K mg base k f fd ps sp) (h : ∀ vs H Q E, sp' vs H Q E → sp vs H Q E) : FnG P w K mg base k f fd ps sp' :=
  ⟨fun vs H Q E hs => F.ln vs H Q E (h vs H Q E hs), fun A out z H ag us vs Q E m e0 bd rv hs => F.go A out z H ag us vs Q E m e0 bd rv (h vs H Q E hs)⟩
theorem spD_imp {n : Nat} {f f' : List D → M D} (h : ∀ ds Q E, f' ds Q E → f ds Q E) : ∀ vs H Q E, spD mg n f' vs H Q E → spD mg n f vs H Q E := by
  rintro vs H Q E ⟨W, ds, Qd, Ed, h1, h2, h3, h4, h5⟩
  exact ⟨W, ds, Qd, Ed, h1, h2, h3, h ds Qd Ed h4, h5⟩
theorem DefOk.mono {P : Program} {w : World} {base : Heap} {k k' n : Nat} {x : Str} {f f' : List D → M D} (F : DefOk P w mg base k x n f) (hk : k ≤ k') (h : ∀ ds Q E, f' ds Q E → f ds Q E) : DefOk P w mg base k' x n f' := by
  obtain ⟨fa, fd, ps, h1, h2, h3, h4, G⟩ := F.ex
  exact ⟨fa, fd, ps, h1, h2, h3, h4, (G.up hk).imp (spD_imp h)⟩
/-- nothing is caught -/
theorem CatF.nil {c : Value} {yes : Str → Bool} : CatF mg c [] yes := ⟨fun _ h => absurd h List.not_mem_nil⟩
end
end FP
/-! FP32: max(e, default=d) of whole numbers. -/
namespace FP
open PySem PyProof.Rows L2
end FP
/-! FP33: binary operators of own objects. -/
namespace FP
open PySem PyProof.Rows L2
end FP
/-! FP34: dicts walked (keys, values, items), d.get(k, x), dict(rows of pairs). -/
namespace FP
open PySem L2
variable [Tabl]
section
variable {ι : Type} {Xs : ι → Cx} {mg : Gm} {Wx : WX} {pos : Pos}
/-- a key as a datum -/
def kD : Key → D
  | .inl i => .int i
  | .inr x => .str x
theorem kD_rep {W : Wd} : ∀ k : Key, Rep mg W (kV k) (kD k)
  | .inl i => .int i
  | .inr x => .str x
/-! ### d.get(k, x) -/
abbrev dDGet2 (fo fk fx : DTE) : DTE := fun ρ Q E => fo ρ (fun x => match x with
  | .dct kvs => fk ρ (fun y => fx ρ (fun z => ∃ k, keyD y = some k ∧ Q ((valD kvs k).getD z)) E) E
  | _ => False) E
theorem de_dget2 {k : Nat} {o e e2 : Expr} {fo fk fx : DTE} {apos cpos : Pos} (hr : ∀ j, RmG k (Xs j).A) (ho : DE Xs mg Wx o fo) (hk : DE Xs mg Wx e fk) (hx : DE Xs mg Wx e2 fx) (m : ∀ j, M2 (Xs j) o "get" apos e e2 cpos := by intro _; exact ⟨rfl, rfl, rfl, rfl⟩) : DE Xs mg Wx (.Call (.Attribute o "get" apos) [e, e2] [] cpos) (dDGet2 fo fk fx) := by
  obtain ⟨t, o1, o2⟩ := ho
  obtain ⟨tk, k1, k2⟩ := hk
  obtain ⟨tx, x1, x2⟩ := hx
  refine ⟨_, fun j => pe_dget2 (by have := (hr j).r.un; omega) (o1 j) (k1 j) (x1 j) (m j), fun B ρ Q E hf W σ H Q' hh e x q => o2 B ρ _ E hf W σ H _ hh e x fun W1 H1 v d s1 r1 q1 => ?_⟩
  cases r1 with
  | @dct a o kvs ds ha hk rs =>
    refine ⟨a, rfl, .inl ⟨kvs, .inr ⟨o, s1.holds.same _ _ ha⟩⟩, ?_⟩
    refine k2 B ρ _ E q1 W1 σ H1 _ s1.holds (e.step s1) (x.step s1) fun W2 H2 v2 d2 s2 r2 q2 => ?_
    have s12 := s1.trans s2
    refine x2 B ρ _ E q2 W2 σ H2 _ s2.holds (e.step s12) (x.step s12) fun W3 H3 v3 d3 s3 r3 q3 => ?_
    obtain ⟨kk, h1, h2⟩ := q3
    have ey := keyD_v (r2.mono s3.le) h1
    subst ey
    have s13 := s12.trans s3
    have ha3 : W3.H a = some (.frz o (.dK kvs)) := (s2.trans s3).le.h _ _ ha
    have rs3 := rs.mono (s2.trans s3).le
    rcases val_rep (k := kk) hk rs3 with ⟨z, z2⟩ | ⟨u, d', z1, z2, z3⟩
    · rw [z] at h2
      exact ⟨none, by rw [← z2]; exact DGet.kf (s3.holds.same _ _ ha3), q W3 H3 _ _ s13 r3 h2⟩
    · rw [z1] at h2
      exact ⟨some u, by rw [← z2]; exact DGet.kf (s3.holds.same _ _ ha3), q W3 H3 _ _ s13 z3 h2⟩
  | _ => exact q1.elim
end
end FP
/-! FP35: a list comprehension whose element raises. -/
namespace FP
open PySem L2
/-! ### the comprehension: what is wanted of an error, with the frame known -/
/-! ### the block's context, with a wish about errors -/
end FP
/-! FP36: the list comprehension whose element raises, by data. -/
namespace FP
open PySem L2
end FP
/-! FP37: a lambda without parameters is made: the heap behind it, told exactly. -/
namespace FP
open PySem L2 LamX
variable [Tabl]
/-- the heap behind the making: the same, or with one entry more in the table and a new code object -/
def Made (H : Hp) (P : Addr) (q : Str) (H1 : Hp) : Prop := H1 = H ∨ ∃ ps more c, H P = some (.tbl ps) ∧ H c = none ∧ H1 = upd (upd H P (.tbl (ps ++ more))) c (CodeO c q)
/-- the world is borne behind the making -/
theorem Made.step {W : Wd} {H H1 : Hp} {P : Addr} {q : Str} (hh : Holds W H) (mem : (P, q) ∈ Tabl.B) (m : Made H P q H1) (tabs : Tabs Tabl.B H1) : Step W H W H1 := by
  rcases m with rfl | ⟨ps, more, c, hP, nC, rfl⟩
  · exact Step.refl hh
  have tP : W.T P := (hh.tab _ mem).1
  have at' : ∀ b, b ≠ P → b ≠ c → upd (upd H P (.tbl (ps ++ more))) c (CodeO c q) b = H b := fun b h1 h2 => by rw [upd_ne h2, upd_ne h1]
  have atP : upd (upd H P (.tbl (ps ++ more))) c (CodeO c q) P = some (.tbl (ps ++ more)) := by rw [upd_ne (ne_of_none hP nC), upd_same]
  have nc : ∀ {b u}, H b = some u → b ≠ c := fun e => ne_of_none e nC
  have live : ∀ b o, H b = some o → ∃ o', upd (upd H P (.tbl (ps ++ more))) c (CodeO c q) b = some o' := fun b o e => by
    by_cases hb : b = P
    · rw [hb, atP]
      exact ⟨_, rfl⟩
    · rw [at' b hb (nc e)]
      exact ⟨o, e⟩
  have nP : ∀ b o, W.H b = some o → b ≠ P := fun b o e k => by
    rw [k, (hh.exm P tP).1] at e
    cases e
  refine ⟨Le.refl W, ⟨fun b o e => ?_, fun a t => ?_, fun a t => ?_, fun p hp => ⟨(hh.tab p hp).1, tabs p hp⟩, fun b qs e => ?_⟩, fun b o e nt => ?_, fun _ _ _ => rfl, fun _ t => .inl t, live⟩
  · rw [at' b (nP b o e) (nc (hh.same b o e))]
    exact hh.same b o e
  · obtain ⟨h1, o, h2⟩ := hh.exm a t
    exact ⟨h1, live a o h2⟩
  · obtain ⟨h1, x, y, z, h2⟩ := hh.tok a t
    have ne : a ≠ P := fun k => by
      rw [k, hP] at h2
      cases h2
    exact ⟨h1, x, y, z, by rw [at' a ne (nc h2)]; exact h2⟩
  · by_cases hb : b = P
    · exact ⟨q, by rw [hb]; exact mem⟩
    · by_cases hc : b = c
      · rw [hc, upd_same] at e
        exact absurd (Option.some.inj e) (codeO_ne _)
      · rw [at' b hb hc] at e
        exact hh.all b qs e
  · have ne : b ≠ P := fun k => nt (by rw [k]; exact tP)
    rw [at' b ne (nc e)]
    exact e
end FP
/-! FP38: x(lambda: e), where x calls what it got. -/
namespace FP
open PySem L2 LamX
variable [Tabl]
/-- the data of an environment alone -/
def Sl.only : Sl → Sl
  | .d x => .d x
  | _ => .no
abbrev dataE (ρ : Env) : Env := ρ.map Sl.only
theorem EnvR.data {mg : Gm} {B B' : Hp} {W W' : Wd} {H H' : Hp} {σ : St} {ρ : Env} (e : EnvR mg B W H σ ρ) (l : Le W W') : EnvR mg B' W' H' σ (dataE ρ) := by
  refine ⟨by simpa using e.len, fun i s h => ?_, fun i j xs ys o1 o2 a _ h1 _ _ _ m1 _ => ?_⟩
  · rw [List.getElem?_map] at h
    cases q : ρ[i]? with
    | none =>
      rw [q] at h
      cases h
    | some s0 =>
      rw [q] at h
      cases h
      obtain ⟨o, h1, h2⟩ := e.sl _ _ q
      refine ⟨o, h1, ?_⟩
      cases s0 with
      | d x =>
        obtain ⟨v, h3, h4⟩ := h2
        exact ⟨v, h3, h4.mono l⟩
      | _ => exact True.intro
  · rw [List.getElem?_map] at h1
    cases q : ρ[i]? with
    | none =>
      rw [q] at h1
      cases h1
    | some s0 =>
      rw [q] at h1
      cases h1
      cases s0 <;> cases m1
/-! ### what was got is called -/
/-! ### a def that calls what it got -/
end FP
/-! FP39: the end of a law whose defs make lambdas. -/
namespace FP
open PySem PySem.Spec PyProof.Rows L2 LamX
end FP
/-! FP40: dict(list of pairs); facts of operators and of exceptions. -/
namespace FP
open PySem L2
variable [Tabl]
section
variable {ι : Type} {Xs : ι → Cx} {mg : Gm} {Wx : WX} {pos : Pos}
def pairsD : List D → Option (List (Key × D))
  | [] => some []
  | .tup [k, v] :: xs => match keyD k, pairsD xs with
    | some k, some r => some ((k, v) :: r)
    | _, _ => none
  | _ => none
def mergeD (kvs more : List (Key × D)) : List (Key × D) := more.foldl (fun acc kv => putKD acc kv.1 kv.2) kvs
def rdDictP : RDL := fun ds Q => match ds with
  | [.lst xs] => ∃ kvs, pairsD xs = some kvs ∧ Q (.dct (mergeD [] kvs))
  | _ => False
theorem pairs_v {W : Wd} {H : Hp} (hh : Holds W H) : ∀ {vs : List V} {xs : List D} {kvs : List (Key × D)}, Reps mg W vs xs → pairsD xs = some kvs → ∃ (ps : List Addr) (us : List (Key × V)), vs = ps.map V.ref ∧ Paired (fun p kv => SqT mg.K H p [kV kv.1, kv.2]) ps us ∧ us.map (·.1) = kvs.map (·.1) ∧ Reps mg W (us.map (·.2)) (kvs.map (·.2))
  | _, _, _, .nil, e => by
    cases e
    exact ⟨[], [], rfl, .nil, rfl, .nil⟩
  | _, _, kvs, .cons (d := d) (ds := ds) r t, e => by
    cases r with
    | @tup a vs' ds' ha rs =>
      match ds', rs with
      | [k, v], .cons (v := x) rk (.cons (v := y) rv .nil) =>
        unfold pairsD at e
        cases hk : keyD k with
        | none =>
          rw [hk] at e
          cases e
        | some kk =>
          cases hp : pairsD ds with
          | none =>
            rw [hk, hp] at e
            cases e
          | some kr =>
            rw [hk, hp] at e
            cases e
            obtain ⟨ps, us, h1, h2, h3, h4⟩ := pairs_v hh t hp
            have ek := keyD_v rk hk
            subst ek
            exact ⟨a :: ps, (kk, y) :: us, by rw [h1]; rfl, .cons (SqT.of (hh.same _ _ ha)) h2, by rw [List.map_cons, List.map_cons, h3], .cons rv h4⟩
    | _ => cases e
theorem merge_v {W : Wd} : ∀ {us : List (Key × V)} {kvs : List (Key × D)} {us0 : List (Key × V)} {kvs0 : List (Key × D)}, us.map (·.1) = kvs.map (·.1) → Reps mg W (us.map (·.2)) (kvs.map (·.2)) → us0.map (·.1) = kvs0.map (·.1) → Reps mg W (us0.map (·.2)) (kvs0.map (·.2)) →
    (mergeK us0 us).map (·.1) = (mergeD kvs0 kvs).map (·.1) ∧ Reps mg W ((mergeK us0 us).map (·.2)) ((mergeD kvs0 kvs).map (·.2))
  | [], [], _, _, _, _, h3, h4 => ⟨h3, h4⟩
  | (k, v) :: us, (k', d) :: kvs, _, _, h1, h2, h3, h4 => by
    rw [List.map_cons, List.map_cons] at h1
    injection h1 with e1 e2
    have e1 : k = k' := e1
    subst e1
    cases h2 with
    | cons r t =>
      obtain ⟨g1, g2⟩ := put_rep (k := k) h3 h4 r
      exact merge_v (us := us) (kvs := kvs) (us0 := putK _ k v) (kvs0 := putKD _ k d) e2 t g1 g2
  | [], _ :: _, _, _, h1, _, _, _ => by cases h1
  | _ :: _, [], _, _, h1, _, _, _ => by cases h1
theorem cr_dictP {X : Cx} {K : PySem.W.Frag} (h : X.K = K) (hc : X.calm = true) : CallR X (.type "dict") (fun xs H Q => ∃ (a : Addr) (ps : List Addr) (kvs : List (Key × V)), xs = [.ref a] ∧ SqL K H a (ps.map V.ref) ∧ Paired (fun p kv => SqT K H p [kV kv.1, kv.2]) ps kvs ∧
    ∀ p, H p = none → Q (.ref p) (upd H p (.dK (mergeK [] kvs)))) := by
  subst h
  exact call_dictP hc
theorem de_dictP {p : Pos} {e : Expr} {f : DTE} (h : DE Xs mg Wx e f) (hm : mg.mg "dict" = none) (hv : bootBuiltins "dict" = some (.type "dict")) (hK : ∀ j, (Xs j).K = mg.K := by intro _; rfl) (hM : ∀ j, (Xs j).mg = mg.mg := by intro _; rfl) (hc : ∀ j, (Xs j).calm = true := by intro _; rfl) (hg : ∀ j, Gl (Xs j) "dict" := by intro _; rfl)
    (he : ∀ i, starEach [e] (Xs i).env = (false, eval e (Xs i).env) :: starEach [] (Xs i).env := by intro _; rfl) : DE Xs mg Wx (.Call (.Name "dict" p) [e] [] pos) (dCB rdDictP (dCons f dNil)) := by
  obtain ⟨t, h1, h2⟩ := da_cons h da_nil he
  refine ⟨_, fun i => pe_lk (pe_callTy (cr_dictP (hK i) (hc i)) (hg i) (by rw [hM i]; exact hm) hv (h1 i) (by decide) (by decide) (he i) rfl), ?_⟩
  intro B ρ Q E hf W σ H Q' hh en x q
  refine h2 B ρ _ E hf W σ H _ hh en x fun W1 H1 vs ds s1 r1 k1 => ?_
  match ds, r1, k1 with
  | [.lst xs], .cons (v := v) r .nil, ⟨kvs, hk, k2⟩ =>
    cases r with
    | @lst a us _ ha rs =>
      obtain ⟨ps, ws, g1, g2, g3, g4⟩ := pairs_v s1.holds rs hk
      refine ⟨a, ps, ws, rfl, by rw [← g1]; exact SqL.of (s1.holds.same _ _ ha), g2, fun p n => ⟨p, _, rfl, upd_same, True.intro, fun od => ?_⟩⟩
      rw [upd_upd]
      obtain ⟨m1, m2⟩ := merge_v (us0 := []) (kvs0 := []) g3 g4 rfl .nil
      exact q _ _ _ _ (s1.trans (Step.alloc s1.holds n)) (Rep.newDct m1 m2 (s1.holds.same.free n)) k2
/-- one of two readings of an operator -/
theorem OpOk.or {f : Value → Value → Sem Value} {rd rd' : RD2} (a : OpOk Xs mg f rd) (b : OpOk Xs mg f rd') : OpOk Xs mg f (fun x y Q => rd x y Q ∨ rd' x y Q) := by
  obtain ⟨r, a1, a2⟩ := a
  obtain ⟨r', b1, b2⟩ := b
  refine ⟨fun x y H Q => r x y H Q ∨ r' x y H Q, fun i pins s σ H x y v u Q I rx ry h => ?_, fun W H x y dx dy Q Q' hh rx ry h q => ?_⟩
  · rcases h with h | h
    · exact a1 i pins s σ H x y v u Q I rx ry h
    · exact b1 i pins s σ H x y v u Q I rx ry h
  · rcases h with h | h
    · exact .inl (a2 W H x y dx dy Q Q' hh rx ry h q)
    · exact .inr (b2 W H x y dx dy Q Q' hh rx ry h q)
/-! ### facts of operators -/
end
/-! ### facts of exceptions -/
abbrev veBm : List Value := [.type "ValueError", .type "Exception", .type "BaseException", .type "object"]
theorem veB : ExcBaseFacts "ValueError" "ValueError.__new__" "ValueError.__init__" veBm := PySem.F.excBase_ValueError
theorem InitOk.imp {P : Program} {w : World} {mg : Gm} {base : Heap} {k n : Nat} {c : Str} {C : Addr} {f f' : List D → ((List (Str × D)) → Prop) → (XD → Prop) → Prop} (G : InitOk P w mg base k c C n f) (h : ∀ ds Q E, f' ds Q E → f ds Q E) : InitOk P w mg base k c C n f' := by
  obtain ⟨fa, fd, ps, h1, h2, h3, F⟩ := G.ex
  refine ⟨fa, fd, ps, h1, h2, h3, F.imp ?_⟩
  rintro vs H Q E ⟨W, ds, us, H1, x, dx, Qd, Ed, g1, g2, g3, g4, g5, g6, g7, g8, g9, g10⟩
  exact ⟨W, ds, us, H1, x, dx, Qd, Ed, g1, g2, g3, g4, g5, g6, g7, g8, h _ _ _ g9, g10⟩
end FP
/-! FP41: displays of dicts. -/
namespace FP
open PySem L2
variable [Tabl]
section
variable {ι : Type} {Xs : ι → Cx} {mg : Gm} {Wx : WX} {pos : Pos}
abbrev DTP := Env → M (List (Key × D))
def CpPs (mg : Gm) (Wx : WX) (trs : List (TE × TE)) (f : DTP) : Prop := ∀ B ρ Q E, f ρ Q E → ∀ W σ H Q', Holds W H → EnvR mg B W H σ ρ → ExR mg Wx W H σ E →
  (∀ W' H' (kvs : List (Key × V)) (ds : List (Key × D)), Step W H W' H' → kvs.map (·.1) = ds.map (·.1) → Reps mg W' (kvs.map (·.2)) (ds.map (·.2)) → Q ds → Q' (kvs.map fun kv => (kV kv.1, kv.2)) H') → tPairs trs σ H Q'
def DPs (Xs : ι → Cx) (mg : Gm) (Wx : WX) (pos : Pos) (ks : List (Option Expr)) (vs : List Expr) (f : DTP) : Prop := ∃ trs, (∀ i, PPs (Xs i) pos ks vs trs) ∧ CpPs mg Wx trs f
abbrev dPn : DTP := fun _ Q _ => Q []
abbrev dPc (fk fv : DTE) (g : DTP) : DTP := fun ρ Q E => fk ρ (fun x => fv ρ (fun y => ∃ k, keyD x = some k ∧ g ρ (fun r => Q ((k, y) :: r)) E) E) E
theorem dps_nil : DPs Xs mg Wx pos [] [] dPn := ⟨[], fun _ => pps_nil, fun B ρ Q E h W σ H Q' hh _ _ q => q W H [] [] (Step.refl hh) rfl .nil h⟩
theorem dps_cons {k v : Expr} {ks : List (Option Expr)} {vs : List Expr} {fk fv : DTE} {g : DTP} (hk : DE Xs mg Wx k fk) (hv : DE Xs mg Wx v fv) (hr : DPs Xs mg Wx pos ks vs g) : DPs Xs mg Wx pos (some k :: ks) (v :: vs) (dPc fk fv g) := by
  obtain ⟨tk, a1, a2⟩ := hk
  obtain ⟨tv, b1, b2⟩ := hv
  obtain ⟨trs, c1, c2⟩ := hr
  refine ⟨_, fun i => pps_cons (a1 i) (b1 i) (c1 i), fun B ρ Q E hf W σ H Q' hh e x q => ?_⟩
  refine a2 B ρ _ E hf W σ H _ hh e x fun W1 H1 v1 d1 s1 r1 k1 => ?_
  refine b2 B ρ _ E k1 W1 σ H1 _ s1.holds (e.step s1) (x.step s1) fun W2 H2 v2 d2 s2 r2 k2 => ?_
  obtain ⟨kk, hkk, k3⟩ := k2
  have s12 := s1.trans s2
  refine c2 B ρ _ E k3 W2 σ H2 _ s2.holds (e.step s12) (x.step s12) fun W3 H3 kvs ds s3 h1 h2 k4 => ?_
  have ek := keyD_v r1 hkk
  subst ek
  exact q W3 H3 ((kk, v2) :: kvs) ((kk, d2) :: ds) (s12.trans s3) (by rw [List.map_cons, List.map_cons, h1]) (.cons (r2.mono s3.le) h2) k4
abbrev dDisp (g : DTP) : DTE := fun ρ Q E => g ρ (fun kvs => kvs.length ≤ 15 ∧ Q (.dct (mergeD [] kvs))) E
theorem de_disp {ks : List (Option Expr)} {vs : List Expr} {g : DTP} (h : DPs Xs mg Wx pos ks vs g) (hall : ks.all (·.isSome) = true := by rfl) (hl : ks.length = vs.length := by rfl) (h0 : ks ≠ [] := by intro h; cases h) (h15 : ks.length ≤ 15 := by decide) : DE Xs mg Wx (.Dict ks vs pos) (dDisp g) := by
  obtain ⟨trs, h1, h2⟩ := h
  refine ⟨_, fun i => pe_lk (pe_disp (h1 i) hall hl h0 h15), ?_⟩
  intro B ρ Q E hf W σ H Q' hh e x q p hp
  have s0 := Step.lay hh hp (o := .dK [])
  refine h2 B ρ _ E hf W σ (upd H p (.dK [])) _ s0.holds (e.step s0) (x.step s0) fun W' H' kvs ds s1 hk hr ⟨hn, k2⟩ => ?_
  obtain ⟨c1, c2, c3⟩ := s1.mine (a := p) upd_same (hh.same.free hp) (hh.nT hp)
  refine ⟨c1, kvs, rfl, by rw [len_keys hk]; exact hn, p, _, rfl, upd_same, True.intro, fun od => ?_⟩
  rw [upd_upd]
  obtain ⟨m1, m2⟩ := merge_v (us0 := []) (kvs0 := []) hk hr rfl .nil
  exact q _ _ _ _ (((s0.trans s1).own hp c1 c2 c3).taken hp upd_same c2 c3) (Rep.newDct m1 m2 c2) k2
end
end FP
/-! FP42: own exceptions with one field: made and raised; several except clauses, with and without a name; the field read. -/
namespace PySem
end PySem
namespace FP
open PySem L2
end FP
/-! FP43: try with several except clauses, with and without a name; the field of the error read. -/
namespace FP
open PySem PySem.Spec PyProof.Rows L2
/-- a clause: its class, its name's place, its suite's reading -/
structure Cl where
  c : Value
  i : Option Nat
  ts : Addr → Value → Option Addr → TS
def Cl.slots (k : Cl) (a : Addr) (σ : L2.St) : L2.St := match k.i with
  | none => σ
  | some i => σ.set i (some (.ref a))
variable [Tabl]
/-! ### by data -/
end FP
/-! FP44: zip of lists and tuples, in any mixture. -/
namespace FP
open PySem PySem.Spec PyProof.Rows L2
/-- a list or a tuple -/
inductive Sd where
  | l | t
def Sd.sq (K : PySem.W.Frag) (H : Hp) (a : Addr) (xs : List V) : Sd → Prop
  | .l => SqL K H a xs
  | .t => SqT K H a xs
def Sd.is (h : Heap) (a : Addr) (its : Array Value) : Sd → Prop
  | .l => h.IsList a its
  | .t => h.IsTuple a its
def Sd.it (h : Heap) (i a : Addr) (n : Nat) : Sd → Prop
  | .l => h.IsListIter i a n
  | .t => h.IsTupleIter i a n
def Sd.ob (a : Addr) : Sd → Obj
  | .l => { cls := .type "list_iterator", data := .fields #[.ref a, .int 0 0] }
  | .t => { cls := .type "tuple_iterator", data := .fields #[.ref a, .int 0 0] }
theorem Sd.draws {prog : Program} {w : World} {A : Around} (s : Sd) (hh : A.handled = none) (i a : Addr) (ne : a ≠ i) (its : Array Value) : Draws prog w A i [i, a] its.size (fun k v => its[k]? = some v) (fun k h => s.it h i a k ∧ s.is h a its) := by
  cases s with
  | l => exact .list hh i a ne its
  | t => exact .tuple hh i a ne its
theorem Sd.begins (s : Sd) (a : Addr) (its : Array Value) : Begins (.ref a) (s.ob a) (fun h => s.is h a its) := by
  cases s with
  | l => exact begins_list a its
  | t => exact begins_tuple a its
theorem Sd.first {h : Heap} {i a : Addr} {s : Sd} (e : h.get? i = some (s.ob a)) : s.it h i a 0 := by
  cases s with
  | l => exact ⟨_, e, rfl, rfl⟩
  | t => exact ⟨_, e, rfl, rfl⟩
theorem Sd.it_at {h h' : Heap} {i a : Addr} {n : Nat} {s : Sd} (x : s.it h i a n) (k : ∀ o, h.get? i = some o → h'.get? i = some o) : s.it h' i a n := by
  cases s with
  | l => exact (show h.IsListIter i a n from x).at k
  | t => exact (show h.IsTupleIter i a n from x).at k
theorem Sd.it_ob {h : Heap} {i a : Addr} {n : Nat} {s : Sd} (x : s.it h i a n) : ∃ o, h.get? i = some o ∧ ∀ v, o.data ≠ .cell v := by
  cases s with
  | l =>
    obtain ⟨o, e, _, d⟩ := (show h.IsListIter i a n from x)
    exact ⟨o, e, fun v q => by rw [d] at q; cases q⟩
  | t =>
    obtain ⟨o, e, _, d⟩ := (show h.IsTupleIter i a n from x)
    exact ⟨o, e, fun v q => by rw [d] at q; cases q⟩
theorem Sd.is_lt {h : Heap} {a : Addr} {its : Array Value} {s : Sd} (x : s.is h a its) : a < h.objs.size := by
  cases s with
  | l =>
    obtain ⟨o, e, _⟩ := (show h.IsList a its from x)
    exact Heap.lt_size e
  | t =>
    obtain ⟨o, e, _⟩ := (show h.IsTuple a its from x)
    exact Heap.lt_size e
theorem Sd.look {X : Cx} {pins : List (Addr × Obj)} {σ : L2.St} {H : Hp} {z : Shared} {a : Addr} {xs : List V} {s : Sd} (I : Inv X pins σ H z) (q : s.sq X.K H a xs) : ∃ its : List Value, Vals xs its ∧ s.is z.heap a its.toArray := by
  cases s with
  | l =>
    obtain ⟨its, rv, p, _⟩ := I.list q
    exact ⟨its, rv, p.isList⟩
  | t =>
    obtain ⟨its, rv, p, _⟩ := I.tuple q
    exact ⟨its, rv, p⟩
theorem Sd.inj {X : Cx} {pins : List (Addr × Obj)} {σ : L2.St} {H : Hp} {z : Shared} {a : Addr} {xs ys : List V} {s : Sd} (I : Inv X pins σ H z) (p : s.sq X.K H a xs) (q : s.sq X.K H a ys) : xs = ys := by
  cases s with
  | l => exact I.list_inj p q
  | t => exact I.tuple_inj p q
/-- what stands at a and b at each turn, in new pairs -/
def ItzS (K : PySem.W.Frag) (s1 s2 : Sd) (a b : Addr) : It :=
  ⟨fun i H => ∃ (xs ys : List V) (x y : V), s1.sq K H a xs ∧ s2.sq K H b ys ∧ xs[i]? = some x ∧ ys[i]? = some y,
    fun i H v H' => ∃ T x y, v = .ref T ∧ H T = none ∧ H' = upd H T (.tup [x, y]) ∧ (∀ xs, s1.sq K H a xs → xs[i]? = some x) ∧ ∀ ys, s2.sq K H b ys → ys[i]? = some y,
    fun i H => ∃ xs ys : List V, s1.sq K H a xs ∧ s2.sq K H b ys ∧ i = min xs.length ys.length⟩
theorem sep_of {z TI TO i1 i2 a b : Addr} (D : ZipApart z TI TO i1 i2 a b) : ZipSep2 z TI TO i1 i2 [i1, a] [i2, b] where
  TIz := D.TIz
  TOz := D.TOz
  TITO := D.TITO
  TIi1 := D.TIi1
  mem1 := List.mem_cons_self
  zf1 := by simp [Ne.symm D.i1z, Ne.symm D.l1z]
  Tf1 := by simp [D.TOi1, Ne.symm D.l1TO]
  TIi2 := D.TIi2
  mem2 := List.mem_cons_self
  zf2 := by simp [Ne.symm D.i2z, Ne.symm D.l2z]
  Tf2 := by simp [D.TOi2, Ne.symm D.l2TO]
  sep1_2 := by simp [D.i12, Ne.symm D.l2i1]
  sep2_1 := by simp [Ne.symm D.i12, Ne.symm D.l1i2]
theorem five {c z TI TO i1 i2 : Addr} {P : Addr → Prop} (hz : P z) (h1 : P TI) (h2 : P TO) (h3 : P i1) (h4 : P i2) (h : c ∈ [z, TI, TO, i1, i2]) : P c := by
  rcases List.mem_cons.mp h with e | h
  · rw [e]; exact hz
  rcases List.mem_cons.mp h with e | h
  · rw [e]; exact h1
  rcases List.mem_cons.mp h with e | h
  · rw [e]; exact h2
  rcases List.mem_cons.mp h with e | h
  · rw [e]; exact h3
  · rw [List.mem_singleton.mp h]; exact h4
theorem turn_zipS {P : Program} {w : World} {K : PySem.W.Frag} {elts : List Expr} {kk : Nat} {tpos : Pos} {s1 s2 : Sd} {a b z TI TO i1 i2 : Addr} (D : ZipApart z TI TO i1 i2 a b) :
    Turn P w K (.Tuple elts kk tpos) (ItzS K s1 s2 a b) [z, TI, TO, i1, i2] z (fun i h => IsZip h z TI TO .none ∧ IsTupOf2 h TI (.ref i1) (.ref i2) ∧ (∃ x y, IsTupOf2 h TO x y) ∧ s1.it h i1 a i ∧ s2.it h i2 b i) where
  mem := List.mem_cons_self
  obj := fun i h ⟨hz, hTI, ⟨x, y, hTO⟩, h1, h2⟩ c hc => five (P := fun c => ∃ o, h.get? c = some o ∧ ∀ v, o.data ≠ .cell v) ⟨_, hz, fun v q => nomatch q⟩ ⟨_, hTI, fun v q => nomatch q⟩ ⟨_, hTO, fun v q => nomatch q⟩ (Sd.it_ob h1) (Sd.it_ob h2) hc
  keep := fun i h h' ⟨hz, hTI, ⟨x, y, hTO⟩, h1, h2⟩ k => ⟨k z (by simp) _ hz, k TI (by simp) _ hTI, ⟨x, y, k TO (by simp) _ hTO⟩, Sd.it_at h1 fun o q => k i1 (by simp) o q, Sd.it_at h2 fun o q => k i2 (by simp) o q⟩
  item := by
    intro X hP hw hK hc i pins s σ H E I hf st hg
    subst hP hw hK
    obtain ⟨hz, hTI, ⟨x0, y0, hTO⟩, h1, h2⟩ := st
    obtain ⟨xs, ys, x, y, hqx, hqy, hx, hy⟩ := hg
    obtain ⟨its, rv, p⟩ := Sd.look I hqx
    obtain ⟨its2, rv2, p2⟩ := Sd.look I hqy
    obtain ⟨u, hu, ru⟩ := rv.get hx
    obtain ⟨u2, hu2, ru2⟩ := rv2.get hy
    have hzl : z < s.heap.objs.size := Heap.lt_size hz
    have hh : X.A.in1.handled = none := I.ok.hd hc
    have lt1 : i < its.toArray.size := by simpa using (List.getElem?_eq_some_iff.mp hu).1
    have lt2 : i < its2.toArray.size := by simpa using (List.getElem?_eq_some_iff.mp hu2).1
    refine wpAny_pyNext_zipD2_item (sep_of D) (s1.draws hh i1 a D.l1i1 its.toArray) (s2.draws hh i2 b D.l2i2 its2.toArray) hz hTI hTO ⟨h1, p⟩ ⟨h2, p2⟩ lt1 lt2 fun v1 v2 h' tk e1 e2 z' TO' st1 st2 hT hsz hk => ?_
    obtain rfl : u = v1 := by simpa [hu] using e1
    obtain rfl : u2 = v2 := by simpa [hu2] using e2
    refine ⟨_, rfl, wpAny_letOwnedTupleGo_zip (s := { s with heap := h', toks := tk }) z' fun h'' z'' sb => ?_⟩
    have hT2 : h''.get? s.heap.objs.size = some { cls := .type "tuple", data := .seq #[u, u2] } := (sb.2 _ (Nat.ne_of_gt hzl)).trans hT
    have new : ObjOk X.prog X.w (upd H s.heap.objs.size (.tup [x, y])) h'' s.heap.objs.size (.tup [x, y]) :=
      ⟨by show 2 ≤ sizeLine; decide, [u, u2], .cons ru (.cons ru2 .nil), ⟨_, hT2, rfl, _, rfl⟩⟩
    have keep : ∀ c o, c ∉ [z, TI, TO, i1, i2] → s.heap.get? c = some o → h''.get? c = some o := fun c o hb q => (sb.2 c (fun q' => hb (by simp [q']))).trans (hk c o (fun q' => hb (by simp [q'])) (fun q' => hb (by simp [q'])) (fun q' => hb (by simp [q'])) (fun q' => hb (by simp [q'])) q)
    have I1 : Inv X pins σ (upd H s.heap.objs.size (.tup [x, y])) { s with heap := h'', toks := tk } := I.turnedNew (t' := tk) (ch := [z, TI, TO, i1, i2]) keep hf (Nat.le_refl _) new
    refine ⟨.ref s.heap.objs.size, _, I1, rfl, ⟨_, x, y, rfl, I.hok.fresh (Nat.le_refl _), rfl, fun l hl => by rw [Sd.inj I hl hqx]; exact hx, fun l hl => by rw [Sd.inj I hl hqy]; exact hy⟩, ⟨z'', ?_, ⟨u, u2, ?_⟩, ?_, ?_⟩, fun c hcm => ?_⟩
    · exact (sb.2 _ D.TIz).trans (hk _ _ D.TIz D.TITO D.TIi1 D.TIi2 hTI)
    · exact (sb.2 _ D.TOz).trans TO'
    · exact Sd.it_at st1.1 fun o q => (sb.2 _ D.i1z).trans q
    · exact Sd.it_at st2.1 fun o q => (sb.2 _ D.i2z).trans q
    · have lt3 : ∀ {c o}, s.heap.get? c = some o → c < s.heap.objs.size := fun e => Heap.lt_size e
      obtain ⟨o1, y1, _⟩ := Sd.it_ob h1
      obtain ⟨o2, y2, _⟩ := Sd.it_ob h2
      have hlt : c < s.heap.objs.size := five (P := fun c => c < s.heap.objs.size) hzl (lt3 hTI) (lt3 hTO) (lt3 y1) (lt3 y2) hcm
      rw [upd_ne (Nat.ne_of_lt hlt)]
      exact (hf c hcm).1
  done := by
    intro X hP hw hK hc i pins s σ H E I hf st hg
    subst hP hw hK
    obtain ⟨hz, hTI, ⟨x0, y0, hTO⟩, h1, h2⟩ := st
    obtain ⟨xs, ys, hqx, hqy, hend⟩ := hg
    obtain ⟨its, rv, p⟩ := Sd.look I hqx
    obtain ⟨its2, rv2, p2⟩ := Sd.look I hqy
    have hh : X.A.in1.handled = none := I.ok.hd hc
    have l1 := rv.length
    have l2 := rv2.length
    have n1 : its.toArray.size = xs.length := by simpa using l1.symm
    have n2 : its2.toArray.size = ys.length := by simpa using l2.symm
    refine wpAny_pyNext_zipD2_end (sep_of D) (s1.draws hh i1 a D.l1i1 its.toArray) (s2.draws hh i2 b D.l2i2 its2.toArray) hz hTI hTO ⟨h1, p⟩ ⟨h2, p2⟩ (by rw [n1]; omega) (by rw [n2]; omega) (by rw [n1, n2]; omega) fun h' tk hk => ⟨rfl, ?_⟩
    exact I.turnedL (t' := tk) (ch := [z, TI, TO, i1, i2]) (fun c o hb q => hk c o (fun q' => hb (by simp [q'])) (fun q' => hb (by simp [q'])) (fun q' => hb (by simp [q'])) (fun q' => hb (by simp [q'])) q) hf
  self := fun A i s Q E st h => wpAny_pyIter_zip st.1 h
/-- zip(a, b) is made -/
theorem zip_made {X : Cx} {pins : List (Addr × Obj)} {σ : L2.St} {H : Hp} {s : Shared} {s1 s2 : Sd} {a b : Addr} {xs ys : List V} {Q E : Value → Shared → Prop} (I : Inv X pins σ H s) (hqx : s1.sq X.K H a xs) (hqy : s2.sq X.K H b ys)
    (h : ∀ z TI TO i1 i2 s', ZipApart z TI TO i1 i2 a b → Inv X pins σ H s' → IsZip s'.heap z TI TO .none → IsTupOf2 s'.heap TI (.ref i1) (.ref i2) → IsTupOf2 s'.heap TO .none .none → s1.it s'.heap i1 a 0 → s2.it s'.heap i2 b 0 → (∀ c ∈ [z, TI, TO, i1, i2], FpOk X pins H c) → Q (.ref z) s') :
    wpAny (model X.prog X.w) X.A (call (.type "zip") [.ref a, .ref b]) Q E s := by
  obtain ⟨its, rv, p⟩ := Sd.look I hqx
  obtain ⟨its2, rv2, p2⟩ := Sd.look I hqy
  refine zip_begins2 (s1.begins a its.toArray) (s2.begins b its2.toArray) p p2 fun h' hz hTI hTO g1 g2 hsz hk => ?_
  have I2 : Inv X pins σ H { s with heap := h' } := I.kept (t' := s.toks) hk
  refine h _ _ _ _ _ _ (PySem.W.ktu_apart s.heap.objs.size a b (Sd.is_lt p) (Sd.is_lt p2)) I2 hz hTI hTO (Sd.first g1) (Sd.first g2) fun c hc => ?_
  have le : s.heap.objs.size ≤ c := five (P := fun c => s.heap.objs.size ≤ c) (Nat.le_add_right _ _) (Nat.le_add_right _ _) (Nat.le_add_right _ _) (Nat.le_refl _) (Nat.le_add_right _ _) hc
  exact I.fpOk le (I.hok.fresh le)
def iZipS (K : PySem.W.Frag) (ta : TA) : TI := fun σ H R => ta σ H fun vs H1 => ∃ s1 s2 a b xs ys, vs = [.ref a, .ref b] ∧ Sd.sq K H1 a xs s1 ∧ Sd.sq K H1 b ys s2 ∧ R (ItzS K s1 s2 a b) H1
theorem pi_zipS {X : Cx} {e e2 : Expr} {ta : TA} {p pos tpos : Pos} {elts : List Expr} {kk : Nat} (hg : Gl X "zip") (hm : X.mg "zip" = none) (ha : PA X [e, e2] ta)
    (hs : starEach [e, e2] X.env = (false, eval e X.env) :: starEach [e2] X.env) (hpl : (backTo pos (starEach [e2] X.env)).any (·.1) = false) :
    PI X (.Tuple elts kk tpos) (.Call (.Name "zip" p) [e, e2] [] pos) (iZipS X.K ta) := by
  constructor
  intro pins s σ H R I h
  refine Call_ ?_
  refine ld_blt I hg hm PyProof.Rows.boot_zip (PyProof.Rows.callWith_type1 (thn (ha.run pos pins s σ H _ I h) fun us s1 ⟨vs, H1, I1, r1, q1⟩ => ?_) hs hpl)
  obtain ⟨k1, k2, a, b, xs, ys, rfl, hqx, hqy, q⟩ := q1
  cases r1 with
  | cons r rr =>
    cases rr with
    | cons r' rr =>
      cases rr
      cases r
      cases r'
      refine zip_made I1 hqx hqy fun z TI TO i1 i2 s' D I2 hz hTI hTO g1 g2 fp => wpAny_pyIter_zip hz ?_
      exact ⟨z, [z, TI, TO, i1, i2], _, _, H1, rfl, I2, turn_zipS D, ⟨hz, hTI, ⟨_, _, hTO⟩, g1, g2⟩, fp, q⟩
variable [Tabl]
section
variable {ι : Type} {Xs : ι → Cx} {mg : Gm} {Wx : WX} {pos : Pos}
def seqD : D → Option (List D)
  | .lst xs => some xs
  | .fz xs => some xs
  | .tup xs => some xs
  | _ => none
def pairD (x y : D) : D := .tup [x, y]
def zipD (xs ys : List D) : List D := List.zipWith pairD xs ys
theorem zipD_get (xs ys : List D) (i : Nat) : (zipD xs ys)[i]? = match xs[i]?, ys[i]? with
    | some x, some y => some (pairD x y)
    | _, _ => none := by
  unfold zipD
  rw [List.getElem?_zipWith]
  cases xs[i]? <;> cases ys[i]? <;> rfl
theorem zipD_len (xs ys : List D) : (zipD xs ys).length = min xs.length ys.length := List.length_zipWith
theorem seq_side {W : Wd} {v : V} {d : D} {ds : List D} (r : Rep mg W v d) (h : seqD d = some ds) : ∃ a vs s, v = .ref a ∧ Reps mg W vs ds ∧ ∀ W1 H1, Le W W1 → Holds W1 H1 → Sd.sq mg.K H1 a vs s := by
  cases r with
  | lst ha rs =>
    cases h
    exact ⟨_, _, .l, rfl, rs, fun W1 H1 l hh => SqL.of (hh.same _ _ (l.h _ _ ha))⟩
  | fz ha rs =>
    cases h
    exact ⟨_, _, .l, rfl, rs, fun W1 H1 l hh => hh.same.seq (l.h.seq ha)⟩
  | tup ha rs =>
    cases h
    exact ⟨_, _, .t, rfl, rs, fun W1 H1 l hh => SqT.of (hh.same _ _ (l.h _ _ ha))⟩
  | _ => cases h
abbrev dIZip (g : DTA) : DTI := fun ρ Q E => g ρ (fun ds => match ds with
  | [x, y] => ∃ xs ys, seqD x = some xs ∧ seqD y = some ys ∧ Q (zipD xs ys)
  | _ => False) E
theorem di_zip {elts : List Expr} {kk : Nat} {tpos : Pos} {a b : Expr} {p : Pos} {g : DTA} (hm : mg.mg "zip" = none) (h : DA Xs mg Wx [a, b] g) (hM : ∀ j, (Xs j).mg = mg.mg := by intro _; rfl) (hK : ∀ j, (Xs j).K = mg.K := by intro _; rfl) (hg : ∀ j, Gl (Xs j) "zip" := by intro _; rfl)
    (hs : ∀ j, starEach [a, b] (Xs j).env = (false, eval a (Xs j).env) :: starEach [b] (Xs j).env := by intro _; rfl) (hpl : ∀ j, (backTo pos (starEach [b] (Xs j).env)).any (·.1) = false := by intro _; rfl) :
    DI Xs mg Wx (.Tuple elts kk tpos) (.Call (.Name "zip" p) [a, b] [] pos) (dIZip g) := by
  obtain ⟨t, h1, h2⟩ := h
  refine ⟨iZipS mg.K t, fun j => by
    have z := pi_zipS (elts := elts) (kk := kk) (tpos := tpos) (p := p) (pos := pos) (hg j) (by rw [hM j]; exact hm) (h1 j) (hs j) (hpl j)
    rw [hK j] at z
    exact z, fun B ρ Q E hf W σ H Q' hh e x q => ?_⟩
  refine h2 B ρ _ E hf W σ H _ hh e x fun W1 H1 vs ds s1 r1 k1 => ?_
  split at k1
  · rename_i dx dy
    obtain ⟨xs, ys, ex, ey, k1⟩ := k1
    cases r1 with
    | cons rx r1 =>
      cases r1 with
      | cons ry r1 =>
        cases r1
        obtain ⟨a, us, sa, rfl, ra, qa⟩ := seq_side rx ex
        obtain ⟨b, ws, sb, rfl, rb, qb⟩ := seq_side ry ey
        refine ⟨sa, sb, a, b, us, ws, rfl, qa _ _ (Le.refl _) s1.holds, qb _ _ (Le.refl _) s1.holds, q W1 H1 _ _ s1 (fun W2 H2 l hh2 => ?_) k1⟩
        have g1 := qa _ _ l hh2
        have g2 := qb _ _ l hh2
        refine ⟨fun i hi => ?_, ⟨us, ws, g1, g2, by rw [zipD_len, ra.length, rb.length]⟩, fun i x H3 hi y => ?_⟩
        · rw [zipD_len, ← ra.length, ← rb.length] at hi
          exact ⟨us, ws, _, _, g1, g2, List.getElem?_eq_getElem (by omega), List.getElem?_eq_getElem (by omega)⟩
        · obtain ⟨T, v1, v2, rfl, hT, rfl, f1, f2⟩ := y
          obtain ⟨d1, e1, r1⟩ := ra.getV (f1 us g1)
          obtain ⟨d2, e2, r2⟩ := rb.getV (f2 ws g2)
          exact ⟨_, .tup [d1, d2], Step.alloc hh2 hT, by rw [zipD_get, e1, e2] <;> rfl, Rep.newTup (.cons (r1.mono l) (.cons (r2.mono l) .nil)) (hh2.same.free hT)⟩
  · exact k1.elim
end
end FP
/-! FP45: list(zip(a, b)), a and b lists or tuples. -/
namespace PySem.ZipL
open PySem PySem.W PySem.Calls PyProof.Rows
end PySem.ZipL
/-! FP46: list(zip(a, b)) by data. -/
namespace FP
open PySem PySem.Spec PyProof.Rows L2
end FP
/-! FP47: facts of own exceptions, by their built-in bases. -/
namespace FP
open PySem L2
variable [Tabl]
/-! ### the end of a law: facts by the written part -/
theorem CatF.none {mg : Gm} {c : Value} {yes : Str → Bool} : CatF mg c [] yes := ⟨fun _ h => absurd h List.not_mem_nil⟩
theorem CatF.cons {mg : Gm} {c : Value} {cs : List Str} {yes : Str → Bool} {x : Str} {C : Addr} {b : Bool} (h1 : mg.mg x = some (.ref C)) (h2 : PySem.W.exmOne mg.K (.ref C) c = some b) (h3 : yes x = b) (r : CatF mg c cs yes) : CatF mg c (x :: cs) yes := ⟨fun y hy => by
  rcases List.mem_cons.mp hy with e | hy
  · subst e
    exact ⟨C, h1, by rw [h2, h3]⟩
  · exact r.cl y hy⟩
theorem exm_sub {K : PySem.W.Frag} {C C' : Addr} {b : Bool} (h2 : PySem.W.isClsIn K C' = true) (h3 : PySem.W.typeIn K (.ref C') = some (.type "type")) (h4 : PySem.W.subIn K (.ref C') (.type "BaseException") = some true) (h5 : PySem.W.subIn K (.ref C) (.ref C') = some b) : PySem.W.exmOne K (.ref C) (.ref C') = some b := by
  unfold PySem.W.exmOne PySem.W.kitCls
  unfold PySem.W.isClsIn at h2
  simp [h2, h3, h4, h5]
end FP
/-! FP48: list(d.items()). -/
namespace FP
open PySem PySem.Spec PyProof.Rows L2
end FP
/-! FP49: text.count(text). -/
namespace FP
open PySem PySem.Spec PyProof.Rows L2
end FP
/-! FP50: isinstance with a built-in class, of data that may be an object of the text. -/
namespace FP
open PySem PySem.Spec PyProof.Rows L2
end FP
/-! FP51: a text times a whole number. -/
namespace FP
open PySem PySem.Spec PyProof.Rows L2
end FP
/-! FP52: x != o, where x is no object of the text and o is one. -/
namespace FP
open PySem PySem.Spec PyProof.Rows PySem.W
end FP
/-! FP53: the operator != with a value on the left that is no object of the text. -/
namespace FP
open PySem PySem.Spec PyProof.Rows PySem.W
open L2
end FP
/-! FP54: operators of own objects with several kinds on the right. -/
namespace FP
open PySem PySem.Spec PyProof.Rows L2
end FP
/-! FP55: repr, of the empty dict too. -/
namespace FP
open PySem PySem.Spec PyProof.Rows L2
end FP
/-! FP56: dicts of one's own: made, changed, asked, handed on. -/
namespace FP
open PySem L2
end FP
/-! FP57: one statement, then the others, by the values of the first one (small goals). -/
namespace FP
open PySem L2
variable [Tabl]
section
variable {f : DTE} {g : DTS} {N : Nd} {ρ : Env} {i : Nat}
/-- the expression comes to a datum with P -/
abbrev EvP (f : DTE) (ρ : Env) (P : D → Prop) : Prop := ∀ (Q : D → Prop) (E : XD → Prop), (∀ d, P d → Q d) → f ρ Q E
/-- the expression comes to just this datum -/
abbrev Ev (f : DTE) (ρ : Env) (d : D) : Prop := ∀ (Q : D → Prop) (E : XD → Prop), Q d → f ρ Q E
theorem Ev.p {d : D} (h : Ev f ρ d) : EvP f ρ (fun x => x = d) := fun Q E q => h Q E (q d rfl)
theorem seq_p (P : D → Prop) (hf : EvP f ρ P) (hg : ∀ d, P d → g N (ρ.set i (.d d))) : dSeq (dSet i f) g N ρ := hf _ _ hg
theorem seq_v (d : D) (hf : Ev f ρ d) (hg : g N (ρ.set i (.d d))) : dSeq (dSet i f) g N ρ := hf _ _ hg
theorem seq_app {xs : List D} (h : ρ[i]? = some (.own xs)) (d : D) (hs : xs.length < sizeLine) (hf : Ev f ρ d) (hg : g N (ρ.set i (.own (xs ++ [d])))) : dSeq (dApp i f) g N ρ := by
  show dApp i f _ ρ
  unfold dApp
  rw [h]
  exact hf _ _ ⟨hs, hg⟩
theorem seq_o1 (d : D) (hf : Ev f ρ d) (hg : g N (ρ.set i (.own [d]))) : dSeq (dSetO i (dLen (dCons f dNil))) g N ρ := hf _ _ ⟨(by show 1 ≤ sizeLine; decide), hg⟩
theorem ret_v (d : D) (hf : Ev f ρ d) (hq : N.rt d ρ) : dRet f N ρ := hf _ _ hq
theorem frz_ret {xs : List D} (h : ρ[i]? = some (.own xs)) (hr : dRet f N (ρ.set i (.d (.lst xs)))) : dFrz i (dRet f) N ρ := by
  show dFrz i (dRet f) N ρ
  unfold dFrz
  rw [h]
  exact hr
/-- a test that comes to just this truth -/
abbrev EvT (f : DTT) (ρ : Env) (b : Bool) : Prop := ∀ (Q : Bool → Prop) (E : XD → Prop), Q b → f ρ Q E
theorem seq_if {c : DTT} {f1 f2 : DTS} (b : Bool) (hc : EvT c ρ b) (h : bit b (dSeq f1 g N ρ) (dSeq f2 g N ρ)) : dSeq (dIfS c f1 f2) g N ρ := hc _ _ h
end
end FP
/-! FP58: list(d), dict(d), sorted(d); own objects in f-strings. -/
namespace FP
open PySem L2
variable [Tabl]
section
variable {ι : Type} {Xs : ι → Cx} {mg : Gm} {Wx : WX} {pos : Pos}
theorem kV_keys {kvs : List (Key × V)} {ds : List (Key × D)} {W : Wd} (h : kvs.map (·.1) = ds.map (·.1)) : Reps mg W (kvs.map fun kv => kV kv.1) (ds.map fun kv => kD kv.1) := by
  have e1 : (kvs.map fun kv => kV kv.1) = (ds.map (·.1)).map kV := by rw [← h, List.map_map]; rfl
  have e2 : (ds.map fun kv => kD kv.1) = (ds.map (·.1)).map kD := by rw [List.map_map]; rfl
  rw [e1, e2]
  generalize ds.map (·.1) = ks
  induction ks with
  | nil => exact .nil
  | cons k r ih => exact .cons (kD_rep k) ih
/-! ### {x} of an own object -/
end
end FP
/-! FP59: o[i] of an own class that may raise. -/
namespace FP
open PySem L2
end FP
/-! FP60: defs with a default; C() of a class whose __init__ has one. -/
namespace FP
open PySem L2
variable [Tabl]
/-- a def as it stands, whatever its defaults -/
structure FunA (K : PySem.W.Frag) (x qual : Str) (st : Stmt) (f : Addr) (fd : FuncData) : Prop where
  ex : ∃ (oc : Value) (od : Option Addr) (dV kV doc pm : Value) (an : Option Addr) (cdv ct : Value) (osl : Array (Option Value)),
    fd = PySem.W.fnOf x qual (defArgs st) (defBody st) (defScope st) dV kV doc pm an cdv ct ∧ K.lookup f = some ⟨oc, od, .func fd, osl⟩ ∧ PySem.W.codeIn K cdv qual = true
  kp : PySem.W.keepIn K (.ref f) = true
abbrev FunDf (K : PySem.W.Frag) (x qual : Str) (st : Stmt) (dvs : List V) (f : Addr) (fd : FuncData) : Prop := FunD K x qual (defArgs st) (defBody st) (defScope st) dvs [] f fd
theorem FunDf.any {K : PySem.W.Frag} {x qual : Str} {st : Stmt} {dvs : List V} {f : Addr} {fd : FuncData} (F : FunDf K x qual st dvs f fd) : FunA K x qual st f fd := by
  obtain ⟨oc, od, dV, kV, doc, pm, an, cdv, ct, osl, h1, h2, h3, _, _⟩ := F.ex
  exact ⟨⟨oc, od, dV, kV, doc, pm, an, cdv, ct, osl, h1, h2, h3⟩, F.kp⟩
end FP
/-! FP61: displays with ** . -/
namespace FP
open PySem L2
end FP
/-! FP62: {**a, **b}, {**a, k: v}. -/
namespace FP
open PySem L2
end FP
/-! FP63: dicts of plain data compared. -/
namespace FP
open PySem L2
end FP
/-! FP64: more small steps. -/
namespace FP
open PySem L2
variable [Tabl]
section
variable {f f2 : DTE} {g : DTS} {N : Nd} {ρ : Env} {i j : Nat}
theorem seq_setF {c fl : Str} {a : Addr} {fs : List (Str × D)} (h : ρ[i]? = some (.ob c a fs)) (d : D) (hl : fs.length < 1000) (hf : Ev f ρ d) (hg : g N (ρ.set i (.ob c a (putD fl d fs)))) : dSeq (dSetF i c fl f) g N ρ := by
  show dSetF i c fl f _ ρ
  unfold dSetF
  refine hf _ _ ?_
  rw [h]
  exact ⟨rfl, hl, hg⟩
theorem end_setF {c fl : Str} {a : Addr} {fs : List (Str × D)} (h : ρ[i]? = some (.ob c a fs)) (d : D) (hl : fs.length < 1000) (hf : Ev f ρ d) (hn : N.nx (ρ.set i (.ob c a (putD fl d fs)))) : dSetF i c fl f N ρ := by
  unfold dSetF
  refine hf _ _ ?_
  rw [h]
  exact ⟨rfl, hl, hn⟩
theorem seq_expr (hf : ∀ (Q : D → Prop) (E : XD → Prop), (∀ d, Q d) → f ρ Q E) (hg : g N ρ) : dSeq (dDrop f) g N ρ := hf _ _ fun _ => hg
theorem seq_ifF {c : DTT} {f1 : DTS} (hc : EvT c ρ false) (h : g N ρ) : dSeq (dIfS c f1 dNext) g N ρ := hc _ _ h
theorem seq_ifT {c : DTT} {f1 f2 : DTS} (hc : EvT c ρ true) (h : dSeq f1 g N ρ) : dSeq (dIfS c f1 f2) g N ρ := hc _ _ h
theorem end_if {c : DTT} {f1 f2 : DTS} (b : Bool) (hc : EvT c ρ b) (h : bit b (f1 N ρ) (f2 N ρ)) : dIfS c f1 f2 N ρ := hc _ _ h
theorem seq_for {w : DTI} {T : Tg} {b : DTS} (ds : List D) (hw : ∀ (Q : List D → Prop) (E : XD → Prop), Q ds → w ρ Q E) (h : forD T b { N with nx := g N } ds ρ) : dSeq (dFor w T b) g N ρ := hw _ _ h
/-! ### tests by their values -/
variable {c d : DTT} {b b2 : Bool}
theorem or_t (hc : EvT c ρ true) : EvT (dOr c d) ρ true := fun Q E q => hc _ _ q
theorem or_f (hc : EvT c ρ false) (hd : EvT d ρ b) : EvT (dOr c d) ρ b := fun Q E q => hc _ _ (hd _ _ q)
theorem and_t (hc : EvT c ρ true) (hd : EvT d ρ b) : EvT (dAnd c d) ρ b := fun Q E q => hc _ _ (hd _ _ q)
theorem and_v (hc : EvT c ρ b) (hd : b = true → EvT d ρ b2) : EvT (dAnd c d) ρ (b && b2) := fun Q E q => hc _ _ (by
  cases b with
  | true => exact hd rfl _ _ q
  | false => exact q)
theorem or_v (hc : EvT c ρ b) (hd : b = false → EvT d ρ b2) : EvT (dOr c d) ρ (b || b2) := fun Q E q => hc _ _ (by
  cases b with
  | false => exact hd rfl _ _ q
  | true => exact q)
theorem not_v (hc : EvT c ρ b) : EvT (dNot c) ρ (!b) := fun Q E q => hc _ _ q
theorem b_v (hf : Ev f ρ (.bl b)) : EvT (dB f) ρ b := fun Q E q => hf _ _ q
theorem Ev.eq {x y : D} (h : Ev f ρ x) (e : x = y) : Ev f ρ y := e ▸ h
theorem EvT.eq (h : EvT c ρ b) (e : b = b2) : EvT c ρ b2 := e ▸ h
end
end FP
/-! FP65: what expressions come to, put together by values. -/
namespace FP
open PySem L2
variable [Tabl]
section
variable {ρ : Env} {f g fa fb fk fv : DTE} {c d : D}
/-- the arguments come to just these data -/
abbrev EvA (g : DTA) (ρ : Env) (ds : List D) : Prop := ∀ (Q : List D → Prop) (E : XD → Prop), Q ds → g ρ Q E
/-- what is gone through comes to just these data -/
abbrev EvI (w : DTI) (ρ : Env) (ds : List D) : Prop := ∀ (Q : List D → Prop) (E : XD → Prop), Q ds → w ρ Q E
theorem a0 : EvA dNil ρ [] := fun Q E q => q
theorem a1 {ga : DTA} {ds : List D} (h : Ev f ρ d) (hg : EvA ga ρ ds) : EvA (dCons f ga) ρ (d :: ds) := fun Q E q => h _ _ (hg _ _ q)
theorem ev_fld {cl fl : Str} {fs : List (Str × D)} (h : Ev f ρ (.ins cl fs)) (e : fs.lookup fl = some d) : Ev (dFld cl fl f) ρ d := fun Q E q => h _ _ ⟨rfl, d, e, q⟩
theorem ev_op {rd : RD2} {x y : D} (ha : Ev fa ρ x) (hb : Ev fb ρ y) (h : ∀ Q : D → Prop, Q d → rd x y Q) : Ev (dOp rd fa fb) ρ d := fun Q E q => ha _ _ (hb _ _ (h _ q))
theorem ev_call {F : List D → M D} {n : Nat} {ga : DTA} {ds : List D} (ha : EvA ga ρ ds) (hn : ds.length = n) (h : ∀ (Q : D → Prop) (E : XD → Prop), Q d → F ds Q E) : Ev (dCall F n ga) ρ d := fun Q E q => ha _ _ ⟨hn, h _ _ q⟩
theorem ev_make {cl : Str} {F : List D → ((List (Str × D)) → Prop) → (XD → Prop) → Prop} {n : Nat} {ga : DTA} {ds : List D} {fs : List (Str × D)} (ha : EvA ga ρ ds) (hn : ds.length = n) (h : ∀ (Q : List (Str × D) → Prop) (E : XD → Prop), Q fs → F ds Q E) : Ev (dMake cl F n ga) ρ (.ins cl fs) := fun Q E q => ha _ _ ⟨hn, h _ _ q⟩
theorem ev_cb {rd : RDL} {ga : DTA} {ds : List D} (ha : EvA ga ρ ds) (h : ∀ Q : D → Prop, Q d → rd ds Q) : Ev (dCB rd ga) ρ d := fun Q E q => ha _ _ (h _ q)
theorem ev_meth {cl m : Str} {F : List D → M D} {n : Nat} {ga : DTA} {fs : List (Str × D)} {ds : List D} (ho : Ev f ρ (.ins cl fs)) (hm : fs.lookup m = none) (ha : EvA ga ρ ds) (hn : ds.length + 1 = n) (h : ∀ (Q : D → Prop) (E : XD → Prop), Q d → F (.ins cl fs :: ds) Q E) : Ev (dMeth cl F n m f ga) ρ d := fun Q E q => ho _ _ ⟨rfl, hm, ha _ _ ⟨hn, h _ _ q⟩⟩
theorem ev_andV {b1 b2 : Bool} (ha : Ev fa ρ (.bl b1)) (hb : b1 = true → Ev fb ρ (.bl b2)) : Ev (dAndV fa fb) ρ (.bl (b1 && b2)) := fun Q E q => ha _ _ (by
  cases b1 with
  | true => exact hb rfl _ _ q
  | false => exact q)
theorem ev_orV {b1 b2 : Bool} (ha : Ev fa ρ (.bl b1)) (hb : b1 = false → Ev fb ρ (.bl b2)) : Ev (dOrV fa fb) ρ (.bl (b1 || b2)) := fun Q E q => ha _ _ (by
  cases b1 with
  | false => exact hb rfl _ _ q
  | true => exact q)
theorem ev_if {t : DTT} {b : Bool} (ht : EvT t ρ b) (h1 : b = true → Ev fa ρ d) (h2 : b = false → Ev fb ρ d) : Ev (dIf t fa fb) ρ d := fun Q E q => ht _ _ (by
  cases b with
  | true => exact h1 rfl _ _ q
  | false => exact h2 rfl _ _ q)
theorem lcD_F {α : Type} {body : D → (Option D → Prop) → Prop} (e g : α → D) (b : α → Bool) : ∀ (xs : List α) (Q : List D → Prop), (∀ x ∈ xs, ∀ k : Option D → Prop, k (if b x then some (g x) else none) → body (e x) k) → Q ((xs.filter b).map g) → lcD body (xs.map e) Q
  | [], Q, _, h => h
  | x :: xs, Q, hb, h => by
    refine hb x List.mem_cons_self _ ?_
    cases hx : b x with
    | true =>
      refine lcD_F e g b xs _ (fun y hy => hb y (List.mem_cons_of_mem _ hy)) ?_
      rw [List.filter_cons, hx] at h
      exact h
    | false =>
      refine lcD_F e g b xs _ (fun y hy => hb y (List.mem_cons_of_mem _ hy)) ?_
      rw [List.filter_cons, hx] at h
      exact h
theorem dcD_F {α : Type} {body : D → (Option (Key × D) → Prop) → Prop} (e : α → D) (g : α → Key × D) (b : α → Bool) : ∀ (xs : List α) (acc : List (Key × D)) (Q : List (Key × D) → Prop), (∀ x ∈ xs, ∀ k : Option (Key × D) → Prop, k (if b x then some (g x) else none) → body (e x) k) → Q ((xs.filter b).foldl (fun a x => putKD a (g x).1 (g x).2) acc) → dcD body (xs.map e) acc Q
  | [], acc, Q, _, h => h
  | x :: xs, acc, Q, hb, h => by
    refine hb x List.mem_cons_self _ ?_
    cases hx : b x with
    | true =>
      refine dcD_F e g b xs _ _ (fun y hy => hb y (List.mem_cons_of_mem _ hy)) ?_
      rw [List.filter_cons, hx] at h
      exact h
    | false =>
      refine dcD_F e g b xs _ _ (fun y hy => hb y (List.mem_cons_of_mem _ hy)) ?_
      rw [List.filter_cons, hx] at h
      exact h
theorem ev_lcF {α : Type} {w : DTI} {T : Tg} {ft : DTT} {vs : List Nat} {xs : List α} (e g : α → D) (b : α → Bool) (hw : EvI w ρ (xs.map e)) (hl : xs.length ≤ sizeLine) (hb : ∀ x ∈ xs, ∃ ρ2, T.put (e x) (wipeD ρ vs) = some ρ2 ∧ EvT ft ρ2 (b x) ∧ (b x = true → Ev f ρ2 (g x))) : Ev (dLc w T ft f vs) ρ (.lst ((xs.filter b).map g)) := fun Q E q => hw _ _ ⟨by rw [List.length_map]; exact hl, lcD_F e g b xs _ (fun x hx k hk => by
  obtain ⟨ρ2, h1, h2, h3⟩ := hb x hx
  refine ⟨ρ2, h1, h2 _ _ ?_⟩
  cases hc : b x with
  | true =>
    rw [hc] at hk
    exact h3 hc _ _ hk
  | false =>
    rw [hc] at hk
    exact hk) q⟩
theorem ev_lc {α : Type} {w : DTI} {T : Tg} {vs : List Nat} {xs : List α} (e g : α → D) (hw : EvI w ρ (xs.map e)) (hl : xs.length ≤ sizeLine) (hb : ∀ x ∈ xs, ∃ ρ2, T.put (e x) (wipeD ρ vs) = some ρ2 ∧ Ev f ρ2 (g x)) : Ev (dLc w T dYes f vs) ρ (.lst (xs.map g)) := by
  have h := ev_lcF (f := f) (ft := dYes) e g (fun _ => true) hw hl fun x hx => by
    obtain ⟨ρ2, h1, h2⟩ := hb x hx
    exact ⟨ρ2, h1, fun Q E q => q, fun _ => h2⟩
  rw [List.filter_eq_self.mpr fun _ _ => rfl] at h
  exact h
theorem ev_dcF {α : Type} {w : DTI} {T : Tg} {ft : DTT} {vs : List Nat} {xs : List α} (e : α → D) (gk : α → Key) (yk gv : α → D) (b : α → Bool) (hw : EvI w ρ (xs.map e)) (hl : xs.length ≤ sizeLine) (hb : ∀ x ∈ xs, ∃ ρ2, T.put (e x) (wipeD ρ vs) = some ρ2 ∧ EvT ft ρ2 (b x) ∧ (b x = true → Ev fk ρ2 (yk x) ∧ keyD (yk x) = some (gk x) ∧ Ev fv ρ2 (gv x))) : Ev (dDc w T ft fk fv vs) ρ (.dct ((xs.filter b).foldl (fun a x => putKD a (gk x) (gv x)) [])) := fun Q E q => hw _ _ ⟨by rw [List.length_map]; exact hl, dcD_F e (fun x => (gk x, gv x)) b xs [] _ (fun x hx k hk => by
  obtain ⟨ρ2, h1, h2, h3⟩ := hb x hx
  refine ⟨ρ2, h1, h2 _ _ ?_⟩
  cases hc : b x with
  | true =>
    rw [hc] at hk
    obtain ⟨h4, h5, h6⟩ := h3 hc
    exact h4 _ _ (h6 _ _ ⟨_, h5, hk⟩)
  | false =>
    rw [hc] at hk
    exact hk) q⟩
theorem ev_tup {ga : DTA} {ds : List D} (ha : EvA ga ρ ds) (hl : ds.length ≤ sizeLine) : Ev (dTup ga) ρ (.tup ds) := fun Q E q => ha _ _ ⟨hl, q⟩
theorem ev_lst {ga : DTA} {ds : List D} (ha : EvA ga ρ ds) (hl : ds.length ≤ sizeLine) : Ev (dLst ga) ρ (.lst ds) := fun Q E q => ha _ _ ⟨hl, q⟩
theorem ev_dictP {xs : List D} {kvs : List (Key × D)} (ha : Ev fa ρ (.lst xs)) (h : pairsD xs = some kvs) : Ev (dCB rdDictP (dCons fa dNil)) ρ (.dct (mergeD [] kvs)) := fun Q E q => ha _ _ ⟨kvs, h, q⟩
theorem seq_forP {w : DTI} {T : Tg} {b : DTS} {gs : DTS} {N : Nd} (P : List D → Prop) (hw : ∀ (Q : List D → Prop) (E : XD → Prop), (∀ ds, P ds → Q ds) → w ρ Q E) (h : ∀ ds, P ds → forD T b { N with nx := gs N } ds ρ) : dSeq (dFor w T b) gs N ρ := hw _ _ h
theorem ret_if {N : Nd} {c : DTT} {b : Bool} (hc : EvT c ρ b) (h : bit b (dRet fa N ρ) (dRet fb N ρ)) : dRet (dIf c fa fb) N ρ := hc _ _ (by cases b <;> exact h)
abbrev EvKV (g : DTP) (ρ : Env) (kvs : List (Key × D)) : Prop := ∀ (Q : List (Key × D) → Prop) (E : XD → Prop), Q kvs → g ρ Q E
theorem kv0 : EvKV dPn ρ [] := fun Q E q => q
theorem kv1 {ga : DTP} {kvs : List (Key × D)} {y v : D} {kk : Key} (hk : Ev fk ρ y) (hy : keyD y = some kk) (hv : Ev fv ρ v) (hr : EvKV ga ρ kvs) : EvKV (dPc fk fv ga) ρ ((kk, v) :: kvs) := fun Q E q => hk _ _ (hv _ _ ⟨kk, hy, hr _ _ q⟩)
theorem ev_disp {ga : DTP} {kvs : List (Key × D)} (h : EvKV ga ρ kvs) (hl : kvs.length ≤ 15) : Ev (dDisp ga) ρ (.dct (mergeD [] kvs)) := fun Q E q => h _ _ ⟨hl, q⟩
end
end FP
/-! FP66: methods with a star parameter behind the first one. -/
namespace FP
open PySem L2
end FP
/-! FP67: list(d.values()). -/
namespace FP
open PySem PySem.Spec PyProof.Rows L2
theorem vals_at : ∀ {xs : List V} {us : List Value}, xs.length = us.length → (∀ (j : Nat) (x : V) (u : Value), xs[j]? = some x → us[j]? = some u → L2.RelV x u) → Vals xs us
  | [], [], _, _ => .nil
  | x :: xs, u :: us, h, g => .cons (g 0 x u rfl rfl) (vals_at (by simpa using h) fun j y v e1 e2 => g (j + 1) y v (by simpa using e1) (by simpa using e2))
  | [], _ :: _, h, _ => by simp at h
  | _ :: _, [], h, _ => by simp at h
def tLv (td : TE) : TE := fun σ H Q => td σ H fun x H1 => ∃ d o kvs, x = .ref d ∧ H1 d = some (.frz o (.dK kvs)) ∧ kvs.length ≤ sizeLine ∧ ∀ S, H1 S = none → Q (.ref S) (upd H1 S (.lst (kvs.map (·.2))))
theorem pe_lv {X : Cx} {e : Expr} {td : TE} {p apos cpos pos : Pos} (hc : X.calm = true) (hg : Gl X "list") (hm : X.mg "list" = none) (he : PE X e td) (hbase : attributeBase e "values" X.env (eval e X.env) = eval e X.env) (hline : (apos.endLine == cpos.line) = true) :
    PE X (.Call (.Name "list" p) [.Call (.Attribute e "values" apos) [] [] cpos] [] pos) (tLv td) := by
  constructor
  intro pins s σ H Q I h
  refine Call_ (ld_blt I hg hm (by decide +kernel : bootBuiltins "list" = some (.type "list")) ?_)
  refine PyProof.Rows.callWith_type1 (PyProof.Rows.args_cons ?_ rfl) rfl rfl
  refine wpAny_Call_method (T := "dict") (id := "dict.values") hbase rfl hline F.plainAttrs_dict F.slot_dict_values F.type_dict_values (thn (he.run pins _ σ H _ (I.tok _) h) fun u s1 ⟨x, H1, I1, rx, d, o, kvs, ex, hd, hn, q⟩ => ?_)
  subst ex
  obtain rfl : u = Value.ref d := rx
  obtain ⟨hs, hgd, hx, es, ep, vs, hdt, hsz, kv, hma⟩ := I1.frzK hd
  have hl : kvs.length = vs.length := Paired.length kv
  refine ⟨hma.dictOf.typeIs, hma.dictOf.mapOf.noDict, ?_⟩
  have I2 : Inv X pins σ H1 { s1 with heap := s1.heap.push { cls := .type "dict_values", data := .fields #[.ref d] } } := I1.kept (t' := s1.toks) fun b ob q => Heap.get?_push_of_some _ q
  show wpAny _ _ (callWith cpos (.builtin "dict.values") [.ref d] [] []) _ X.xe s1
  refine method_meetsIn F.slot_dict_values F.entry_dict_values rfl (PySem.evalArgs_none ⟨rfl, hma.dictOf.typeIs, F.args_dict_values_1 _, _, meets_dict_values (mixKind X.prog X.w) d hs, ⟨vs, hma.dictOf⟩, ?_⟩)
  refine PyProof.Rows.args_nil ?_
  refine PySem.W.kdl_call (PySem.W.kdl_values (knd := mixKind X.prog X.w) (d := d) (r := s1.heap.objs.size) (kvs := vs) (ep := ep)) (I.ok.hd hc) ⟨⟨_, Heap.get?_push_size _ rfl, rfl, rfl⟩, hma.push _⟩ (by rw [← hl]; exact hn) fun h' tk acc c' hk hS hacc => ?_
  have hv : Vals (kvs.map (·.2)) acc.toList := by
    have ea : acc.toList.length = vs.length := by rw [Array.length_toList]; exact hacc.1
    refine vals_at (by rw [List.length_map, ea, hl]) fun j x u e1 e2 => ?_
    obtain ⟨k, e3⟩ := hacc.2 j u (by rw [← Array.getElem?_toList]; exact e2)
    rw [List.getElem?_map] at e1
    cases hkj : kvs[j]? with
    | none =>
      rw [hkj] at e1
      cases e1
    | some kx =>
      rw [hkj] at e1
      obtain ⟨u2, h2, ru⟩ := kv_get kv (k := kx.1) (v := kx.2) hkj
      rw [e3] at h2
      cases h2
      cases e1
      exact ru
  refine ⟨V.ref _, upd H1 _ (.lst (kvs.map (·.2))), I2.laid (t' := tk) hk (Nat.le_refl _)
    (show ObjOk X.prog X.w _ _ _ (.lst (kvs.map (·.2))) from ⟨by rw [List.length_map]; exact hn, acc.toList, c', hv, by rw [Array.toArray_toList]; exact hS⟩), rfl, q _ (I2.hok.fresh (Nat.le_refl _))⟩
variable [Tabl]
section
variable {ι : Type} {Xs : ι → Cx} {mg : Gm} {Wx : WX} {pos : Pos}
abbrev dLv (f : DTE) : DTE := fun ρ Q E => f ρ (fun x => match x with
  | .dct kvs => kvs.length ≤ sizeLine ∧ Q (.lst (kvs.map (·.2)))
  | _ => False) E
theorem de_lv {e : Expr} {f : DTE} {p apos cpos : Pos} (hm : mg.mg "list" = none) (h : DE Xs mg Wx e f) (hM : ∀ j, (Xs j).mg = mg.mg := by intro _; rfl) (hc : ∀ j, (Xs j).calm = true := by intro _; rfl) (hg : ∀ j, Gl (Xs j) "list" := by intro _; rfl)
    (hb : ∀ j, attributeBase e "values" (Xs j).env (eval e (Xs j).env) = eval e (Xs j).env := by intro _; rfl) (hl : (apos.endLine == cpos.line) = true := by rfl) : DE Xs mg Wx (.Call (.Name "list" p) [.Call (.Attribute e "values" apos) [] [] cpos] [] pos) (dLv f) := by
  obtain ⟨t, h1, h2⟩ := h
  refine ⟨_, fun j => pe_lv (hc j) (hg j) (by rw [hM j]; exact hm) (h1 j) (hb j) hl, fun B ρ Q E hf W σ H Q' hh e x q => h2 B ρ _ E hf W σ H _ hh e x fun W1 H1 v d s1 r1 k1 => ?_⟩
  cases r1 with
  | @dct a o kvs ds ha hk rs =>
    refine ⟨a, o, kvs, rfl, s1.holds.same _ _ ha, by rw [len_keys hk]; exact k1.1, fun S n => ?_⟩
    exact to_lst (ToV.step q s1) s1.holds rs k1.2 S n
  | _ => exact k1.elim
end
end FP
/-! FP68: for i, x in enumerate(list or tuple). -/
namespace FP
open PySem PySem.Spec PyProof.Rows L2
theorem enum_new1 {v : Value} {o : Obj} {G : Heap → Prop} (B : Begins v o G) :
    Meets (Builtin.«enumerate.__new__» ⟨[.type "enumerate", v], []⟩) (fun _ R s => G s.heap ∧
      R (.ok (.ret (.ref (s.heap.push o).objs.size))) { s with heap := (s.heap.push o).push { cls := .type "enumerate", data := .fields #[.none, .bool false, .ref s.heap.objs.size, rawInt 0, .none, .none] } }) :=
  .of_wp fun prog w A R s h => by
    obtain ⟨hp, g, d, tk, os⟩ := s
    obtain ⟨h1, h⟩ := h
    have hsub := sub_enumerate
    have q1 : ∀ {A' : Around} {E : Value → Shared → Prop} {Q : Value → Shared → Prop}, Q (.ref hp.objs.size) ⟨hp.push o, g, d, tk, os⟩ → wpAny (model prog w) A' (pyIter v) Q E ⟨hp, g, d, tk, os⟩ :=
      fun q => B.iter prog w _ _ ⟨hp, g, d, tk, os⟩ _ h1 q
    wp_walk using q1
    refine wpAny_stack_any fun st => wpAny_pure ?_
    split
    · rename_i c _ _ _ _ _
      cases (c == Value.type "enumerate")
      · wp_walk using q1
        exact ⟨_, rfl, h⟩
      · wp_walk using q1
        exact ⟨_, rfl, h⟩
    · wp_walk using q1
      exact ⟨_, rfl, h⟩
theorem enum_made {prog : Program} {w : World} {A : Around} {E : Value → Shared → Prop} {s : Shared} {v : Value} {o : Obj} {G : Heap → Prop} {Q : Value → Shared → Prop} (B : Begins v o G) (h1 : G s.heap)
    (h : ∀ h', IsEnum h' (s.heap.objs.size + 1) s.heap.objs.size 0 .none → h'.get? s.heap.objs.size = some o → (∀ b o, s.heap.get? b = some o → h'.get? b = some o) → Q (.ref (s.heap.objs.size + 1)) { s with heap := h' }) :
    wpAny (model prog w) A (call (.type "enumerate") [v]) Q E s := by
  refine callType_new F.called_enumerate (by decide) (F.typeCall_enumerate_1 _) (F.newCall_enumerate_1 _) (fun obj => F.args_object_init_2 obj _) F.entry_enumerate_new (enum_new1 B) ⟨h1, ?_⟩
  have hz : (s.heap.push o).objs.size = s.heap.objs.size + 1 := Heap.size_push ..
  show _ ∧ _
  rw [hz]
  have he : IsEnum ((s.heap.push o).push { cls := .type "enumerate", data := .fields #[.none, .bool false, .ref s.heap.objs.size, rawInt 0, .none, .none] }) (s.heap.objs.size + 1) s.heap.objs.size 0 .none := by
    have e := Heap.get?_push_size (s.heap.push o) (o := { cls := .type "enumerate", data := .fields #[.none, .bool false, .ref s.heap.objs.size, rawInt 0, .none, .none] }) rfl
    rw [hz] at e
    exact e
  exact ⟨⟨_, he, rfl⟩, h _ he (Heap.get?_push_of_some _ (Heap.get?_push_size _ B.free)) fun b u x => Heap.get?_push_of_some _ (Heap.get?_push_of_some _ x)⟩
/-- what stands at a at each turn, with its number, in a new pair -/
def IteS (K : PySem.W.Frag) (s : Sd) (a : Addr) : It :=
  ⟨fun i H => ∃ (xs : List V) (x : V), s.sq K H a xs ∧ xs[i]? = some x,
    fun i H v H' => ∃ T x, v = .ref T ∧ H T = none ∧ H' = upd H T (.tup [.int (i : Nat), x]) ∧ ∀ xs, s.sq K H a xs → xs[i]? = some x,
    fun i H => ∃ xs : List V, s.sq K H a xs ∧ i = xs.length⟩
theorem turn_enumS {P : Program} {w : World} {K : PySem.W.Frag} {elts : List Expr} {kk : Nat} {tpos : Pos} {s1 : Sd} {a e it : Addr} (hai : a ≠ it) (hae : a ≠ e) (hne : e ≠ it) :
    Turn P w K (.Tuple elts kk tpos) (IteS K s1 a) [e, it] e (fun i h => (∃ old, IsEnum h e it ((i : Nat) : Int) old) ∧ s1.it h it a i) where
  mem := List.mem_cons_self
  obj := fun i h ⟨⟨old, he⟩, hi⟩ b hb => by
    rcases List.mem_cons.mp hb with q | q
    · rw [q]; exact ⟨_, he, fun v q => nomatch q⟩
    · rw [List.mem_singleton.mp q]; exact Sd.it_ob hi
  keep := fun i h h' ⟨⟨old, he⟩, hi⟩ k => ⟨⟨old, k e (by simp) _ he⟩, Sd.it_at hi fun o q => k it (by simp) o q⟩
  item := by
    intro X hP hw hK hc i pins s σ H E I hf st hg
    subst hP hw hK
    obtain ⟨⟨old, he⟩, hi⟩ := st
    obtain ⟨xs, x, hq, hx⟩ := hg
    obtain ⟨its, rv, p⟩ := Sd.look I hq
    obtain ⟨u, hu, ru⟩ := rv.get hx
    have hh : X.A.in1.handled = none := I.ok.hd hc
    have hel : e < s.heap.objs.size := Heap.lt_size he
    have hil : it < s.heap.objs.size := by
      obtain ⟨o, q, _⟩ := Sd.it_ob hi
      exact Heap.lt_size q
    have lt1 : i < its.toArray.size := by simpa using (List.getElem?_eq_some_iff.mp hu).1
    refine wpAny_pyNext_enum_itemC (s1.draws hh it a hai its.toArray) he ⟨hi, p⟩ lt1 hne (by simp [hne, Ne.symm hae]) fun y h' tk ey ho st' hT hsz hk => ?_
    obtain rfl : u = y := by simpa [hu] using ey
    refine ⟨_, rfl, wpAny_letOwnedTupleGo_enum (s := { s with heap := h', toks := tk + 1 }) ho fun h'' he' sb => ?_⟩
    have hT2 : h''.get? s.heap.objs.size = some { cls := .type "tuple", data := .seq #[.int i tk, u] } := (sb.2 _ (Nat.ne_of_gt hel)).trans hT
    have new : ObjOk X.prog X.w (upd H s.heap.objs.size (.tup [.int (i : Nat), x])) h'' s.heap.objs.size (.tup [.int (i : Nat), x]) :=
      ⟨by show 2 ≤ sizeLine; decide, [.int i tk, u], .cons ⟨_, rfl⟩ (.cons ru .nil), ⟨_, hT2, rfl, _, rfl⟩⟩
    have I1 : Inv X pins σ (upd H s.heap.objs.size (.tup [.int (i : Nat), x])) { s with heap := h'', toks := tk + 1 } :=
      I.turnedNew (ch := [e, it]) (fun b ob hb q => (sb.2 b (fun z => hb (by simp [z]))).trans (hk b ob (fun z => hb (by simp [z])) (fun z => hb (by simp [z])) q)) hf (Nat.le_refl _) new
    refine ⟨.ref s.heap.objs.size, _, I1, rfl, ⟨_, x, rfl, I.hok.fresh (Nat.le_refl _), rfl, fun ys hy => by rw [Sd.inj I hy hq]; exact hx⟩, ⟨⟨u, ?_⟩, Sd.it_at st'.1 fun o q => (sb.2 it (Ne.symm hne)).trans q⟩, fun b hb => ?_⟩
    · have e1 : ((i + 1 : Nat) : Int) = (i : Int) + 1 := by omega
      rw [e1]; exact he'
    · have hb' : b < s.heap.objs.size := by
        rcases List.mem_cons.mp hb with z | z
        · rw [z]; exact hel
        · rw [List.mem_singleton.mp z]; exact hil
      rw [upd_ne (Nat.ne_of_lt hb')]
      exact (hf b hb).1
  done := by
    intro X hP hw hK hc i pins s σ H E I hf st hg
    subst hP hw hK
    obtain ⟨⟨old, he⟩, hi⟩ := st
    obtain ⟨xs, hq, hx⟩ := hg
    obtain ⟨its, rv, p⟩ := Sd.look I hq
    have hh : X.A.in1.handled = none := I.ok.hd hc
    have hl := rv.length
    have n1 : its.toArray.size = xs.length := by simpa using hl.symm
    obtain ⟨f0, f1, f2, f3, f4, f5⟩ := hf it (by simp)
    refine wpAny_pyNext_enum_endD (s1.draws hh it a hai its.toArray) he ⟨by rw [n1, ← hx]; exact hi, p⟩ fun h' eb => ⟨rfl, I.turned (t' := s.toks) (fun b o hb q => eb b o hb q) f0 f1 f3 f4 f5⟩
  self := fun A i s Q E ⟨⟨_, he⟩, _⟩ h => wpAny_pyIter_enum he h
def iEnumS (K : PySem.W.Frag) (ta : TA) : TI := fun σ H R => ta σ H fun vs H1 => ∃ s1 a xs, vs = [.ref a] ∧ Sd.sq K H1 a xs s1 ∧ R (IteS K s1 a) H1
theorem pi_enumS {X : Cx} {e : Expr} {ta : TA} {p pos tpos : Pos} {elts : List Expr} {kk : Nat} (hg : Gl X "enumerate") (hm : X.mg "enumerate" = none) (ha : PA X [e] ta) (hs : starEach [e] X.env = [(false, eval e X.env)]) :
    PI X (.Tuple elts kk tpos) (.Call (.Name "enumerate" p) [e] [] pos) (iEnumS X.K ta) := by
  refine ⟨fun pins s σ H R I h => ?_⟩
  refine Call_ (ld_blt I hg hm boot_enumerate (PyProof.Rows.callWith_type1 (thn (ha.run pos pins s σ H _ I h) fun us s1 ⟨vs, H1, I1, r1, q1⟩ => ?_) hs rfl))
  obtain ⟨k1, a, xs, rfl, hq, q⟩ := q1
  cases r1 with
  | cons r rr =>
    cases rr
    cases r
    obtain ⟨its, rv, p'⟩ := Sd.look I1 hq
    have hal := Sd.is_lt p'
    refine enum_made (k1.begins a its.toArray) p' fun h' he hit hk => wpAny_pyIter_enum he ?_
    have I2 : Inv X pins σ H1 { s1 with heap := h' } := I1.kept (t' := s1.toks) hk
    refine ⟨s1.heap.objs.size + 1, [s1.heap.objs.size + 1, s1.heap.objs.size], _, _, H1, rfl, I2, turn_enumS (it := s1.heap.objs.size) (Nat.ne_of_lt hal) (Nat.ne_of_lt (Nat.lt_succ_of_lt hal)) (Nat.succ_ne_self _), ⟨⟨.none, he⟩, Sd.first hit⟩, fun b hb => ?_, q⟩
    have hle : s1.heap.objs.size ≤ b := by
      rcases List.mem_cons.mp hb with z | z
      · rw [z]; exact Nat.le_succ _
      · rw [List.mem_singleton.mp z]; exact Nat.le_refl _
    exact I1.fpOk hle (I1.hok.fresh hle)
variable [Tabl]
section
variable {ι : Type} {Xs : ι → Cx} {mg : Gm} {Wx : WX} {pos : Pos}
/-- the data with their numbers -/
def enumD (n : Nat) : List D → List D
  | [] => []
  | d :: r => .tup [.int n, d] :: enumD (n + 1) r
theorem enumD_get : ∀ (xs : List D) (n i : Nat), (enumD n xs)[i]? = (xs[i]?).map fun d => .tup [.int ((n + i : Nat) : Int), d]
  | [], n, i => by simp [enumD]
  | d :: r, n, 0 => by simp [enumD]
  | d :: r, n, i + 1 => by
    show (enumD (n + 1) r)[i]? = _
    rw [enumD_get r (n + 1) i]
    have e : n + 1 + i = n + (i + 1) := by omega
    rw [e]
    rfl
theorem enumD_len : ∀ (xs : List D) (n : Nat), (enumD n xs).length = xs.length
  | [], _ => rfl
  | _ :: r, n => by
    show (enumD (n + 1) r).length + 1 = r.length + 1
    rw [enumD_len r]
abbrev dIEnum (g : DTA) : DTI := fun ρ Q E => g ρ (fun ds => match ds with
  | [x] => ∃ xs, seqD x = some xs ∧ Q (enumD 0 xs)
  | _ => False) E
theorem di_enum {elts : List Expr} {kk : Nat} {tpos : Pos} {a : Expr} {p : Pos} {g : DTA} (hm : mg.mg "enumerate" = none) (h : DA Xs mg Wx [a] g) (hM : ∀ j, (Xs j).mg = mg.mg := by intro _; rfl) (hK : ∀ j, (Xs j).K = mg.K := by intro _; rfl) (hg : ∀ j, Gl (Xs j) "enumerate" := by intro _; rfl)
    (hs : ∀ j, starEach [a] (Xs j).env = [(false, eval a (Xs j).env)] := by intro _; rfl) :
    DI Xs mg Wx (.Tuple elts kk tpos) (.Call (.Name "enumerate" p) [a] [] pos) (dIEnum g) := by
  obtain ⟨t, h1, h2⟩ := h
  refine ⟨iEnumS mg.K t, fun j => by
    have z := pi_enumS (elts := elts) (kk := kk) (tpos := tpos) (p := p) (pos := pos) (hg j) (by rw [hM j]; exact hm) (h1 j) (hs j)
    rw [hK j] at z
    exact z, fun B ρ Q E hf W σ H Q' hh e x q => ?_⟩
  refine h2 B ρ _ E hf W σ H _ hh e x fun W1 H1 vs ds s1 r1 k1 => ?_
  split at k1
  · rename_i dx
    obtain ⟨xs, ex, k1⟩ := k1
    cases r1 with
    | cons rx r1 =>
      cases r1
      obtain ⟨a, us, sa, rfl, ra, qa⟩ := seq_side rx ex
      refine ⟨sa, a, us, rfl, qa _ _ (Le.refl _) s1.holds, q W1 H1 _ _ s1 (fun W2 H2 l hh2 => ?_) k1⟩
      have g1 := qa _ _ l hh2
      refine ⟨fun i hi => ?_, ⟨us, g1, by rw [enumD_len, ra.length]⟩, fun i x H3 hi y => ?_⟩
      · rw [enumD_len, ← ra.length] at hi
        exact ⟨us, _, g1, List.getElem?_eq_getElem hi⟩
      · obtain ⟨T, v1, rfl, hT, rfl, f1⟩ := y
        obtain ⟨d1, e1, r1⟩ := ra.getV (f1 us g1)
        exact ⟨_, .tup [.int i, d1], Step.alloc hh2 hT, by rw [enumD_get, e1, Nat.zero_add] <;> rfl, Rep.newTup (.cons (.int _) (.cons (r1.mono l) .nil)) (hh2.same.free hT)⟩
  · exact k1.elim
end
end FP
/-! FP69: text.split(text). -/
namespace FP
open PySem PySem.Spec PyProof.Rows L2
end FP
/-! FP70: C.m(..) of a classmethod (cls, *lines). -/
namespace FP
open PySem L2
end FP
/-! FP71: C.m() of a classmethod (cls, *lines). -/
namespace FP
open PySem L2
end FP
/-! FP72: text.replace(written text, written text), behind a written text of the same display. -/
namespace FP
open PySem PySem.Spec PyProof.Rows L2
end FP
/-! FP73: a list times an integer. -/
namespace FP
open PySem L2
variable [Tabl]
section
variable {ι : Type} {Xs : ι → Cx} {mg : Gm} {Wx : WX} {pos : Pos}
theorem Reps.rep {W : Wd} {vs : List V} {ds : List D} (r : Reps mg W vs ds) : ∀ n : Nat, Reps mg W (List.replicate n vs).flatten (List.replicate n ds).flatten
  | 0 => .nil
  | n + 1 => by
    rw [List.replicate_succ, List.replicate_succ, List.flatten_cons, List.flatten_cons]
    exact r.append (Reps.rep r n)
end
end FP
/-! FP74: lists of one's own: seen, read, written at an index, insert, pop; range with a step. -/
namespace FP
open PySem L2
variable [Tabl]
section
variable {mg : Gm} {B : Hp} {W W' : Wd} {H H' : Hp} {σ : St} {ρ : Env}
/-- the environment where one's own list is seen -/
theorem EnvR.seenL (e : EnvR mg B W H σ ρ) {i : Nat} {xs : List D} (hi : ρ[i]? = some (.own xs)) :
    ∃ a, (W.H a = none ∧ ¬ W.T a) ∧ EnvR mg B (W.seen H [a]) H σ (ρ.set i (.d (.lst xs))) := by
  obtain ⟨o, h1, a, vs, ho, h2, h3, h4, h5, r⟩ := e.sl i _ hi
  subst ho
  have l := seen_le (W := W) (H := H) (as := [a]) fun b hb => by rw [List.mem_singleton.mp hb]; exact h3
  refine ⟨a, ⟨h3, h4⟩, by simpa using e.len, fun j sl hj => ?_, fun j m s1 s2 o1 o2 b hjk q1 q2 q3 q4 m1 m2 => ?_⟩
  · rcases get_set hj with ⟨rfl, rfl⟩ | ⟨nj, hj⟩
    · exact ⟨_, h1, _, rfl, .lst (by rw [seen_in (List.mem_singleton.mpr rfl)]; exact h2) (r.mono l)⟩
    · obtain ⟨o', g1, g2⟩ := e.sl j sl hj
      refine ⟨o', g1, g2.keep l fun b hb u h5 h6 h7 => ⟨h5, ?_, h7⟩⟩
      show (if b ∈ [a] then H b else W.H b) = none
      have nb : b ∉ [a] := fun q => e.dis i j _ sl _ o' b nj hi hj h1 g1 (by rw [List.mem_singleton.mp q]; exact List.mem_singleton.mpr rfl) hb
      rw [if_neg nb]
      exact h6
  · rcases get_set q1 with ⟨_, z⟩ | ⟨n1, q1⟩
    · rw [← z] at m1
      cases m1
    · rcases get_set q2 with ⟨_, z⟩ | ⟨n2, q2⟩
      · rw [← z] at m2
        cases m2
      · exact e.dis j m s1 s2 o1 o2 b hjk q1 q2 q3 q4 m1 m2
end
section
variable {ι : Type} {Xs : ι → Cx} {mg : Gm} {Wx : WX} {pos : Pos}
/-! ### seen by an expression that comes to a plain datum -/
abbrev dViewL (i : Nat) (f : DTE) : DTE := fun ρ Q _ => match ρ[i]? with
  | some (.own xs) => f (ρ.set i (.d (.lst xs))) (fun d => plainD d = true ∧ Q d) F0
  | _ => False
theorem de_viewL (i : Nat) {e : Expr} {f : DTE} (h : DE Xs mg Wx e f) : DE Xs mg Wx e (dViewL i f) := by
  obtain ⟨t, h1, h2⟩ := h
  refine ⟨t, h1, fun B ρ Q E hf W σ H Q' hh e x q => ?_⟩
  unfold dViewL at hf
  split at hf
  · rename_i xs hi
    obtain ⟨a, k, e1⟩ := e.seenL hi
    refine h2 B _ _ _ hf _ σ H _ (seen_holds hh fun b hb => by rw [List.mem_singleton.mp hb]; exact k.2) e1 ExR.f0 fun W1 H1 v d s1 r1 k1 => ?_
    exact q _ H1 v d (seen_step s1 fun b hb => by rw [List.mem_singleton.mp hb]; exact k.1) (r1.flat k1.1) k1.2
  · exact hf.elim
/-! ### an item, a slice of it -/
abbrev dOwnIx (i : Nat) (f : DTE) : DTE := fun ρ Q E => match ρ[i]? with
  | some (.own xs) => f ρ (fun y => match y with
    | .int k => ∃ d, atI xs k = some d ∧ Q d
    | _ => False) E
  | _ => False
theorem de_ownIx (i : Nat) {x : Str} {b : Expr} {f : DTE} {p : Pos} (h : DE Xs mg Wx b f) (hN : ∀ j, (Xs j).N[i]? = some x := by intro _; rfl) (hv : ∀ j, Vis (Xs j).env.scope x := by intro _; first | exact Or.inl rfl | exact Or.inr (Or.inl rfl) | exact Or.inr (Or.inr rfl))
    (hd : (x == ("__debug__" : Str)) = false := by decide) (hcd : (x == ("__classdict__" : Str)) = false := by decide) (hs : PlainIx b := by exact fun _ _ => rfl) (hK : ∀ j, (Xs j).K = mg.K := by intro _; rfl) : DE Xs mg Wx (.Subscript (.Name x p) b pos) (dOwnIx i f) := by
  obtain ⟨tb, b1, b2⟩ := h
  refine ⟨_, fun j => pe_ix (ix_seqK (hK j)) (pe_var (i := i) (hN j) (hv j) hd hcd) (b1 j) hs, fun B ρ Q E hf W σ H Q' hh e x q => ?_⟩
  unfold dOwnIx at hf
  split at hf
  · rename_i xs hx
    obtain ⟨o, g1, a, vs, g2, g3, g4, g5, g6, r⟩ := e.sl i _ hx
    subst g2
    refine ⟨.ref a, g1, b2 B ρ _ E hf W σ H _ hh e x fun W1 H1 v d s1 r1 k1 => ?_⟩
    cases r1 with
    | int k =>
      obtain ⟨d, h1, h2⟩ := k1
      obtain ⟨v, k1, k2⟩ := r.atI h1
      exact .inl ⟨_, _, _, v, rfl, rfl, SqL.of (s1.keep a _ g3 g5), k1, q W1 H1 _ _ s1 (k2.mono s1.le) h2⟩
    | _ => exact k1.elim
  · exact hf.elim
/-! ### written at an index -/
abbrev dOwnSet (i : Nat) (fk fe : DTE) : DTS := fun N ρ => fe ρ (fun d => match ρ[i]? with
  | some (.own xs) => fk ρ (fun y => match y with
    | .int k => ∃ j, ixN xs.length k = some j ∧ N.nx (ρ.set i (.own (xs.set j d)))
    | _ => False) (fun x => N.rs x ρ)
  | _ => False) (fun x => N.rs x ρ)
theorem ds_ownSet (i : Nat) {x : Str} {k e : Expr} {fk fe : DTE} {p spos : Pos} (hk : DE Xs mg Wx k fk) (he : DE Xs mg Wx e fe)
    (pe : ∀ j tk te, PE (Xs j) k tk → PE (Xs j) e te → PS (Xs j) (.Assign [.Subscript (.Name x p) k spos] e pos) (tAsg te (gSub (tVar i) tk L2.rSetL))) : DS Xs mg Wx (.Assign [.Subscript (.Name x p) k spos] e pos) (dOwnSet i fk fe) := by
  obtain ⟨tk, k1, k2⟩ := hk
  obtain ⟨te, e1, e2⟩ := he
  refine ⟨tAsg te (gSub (tVar i) tk L2.rSetL), fun j => pe j tk te (k1 j) (e1 j), fun W0 B N ρ hf W σ H Ds s e n => ?_⟩
  refine e2 B ρ _ _ hf W σ H _ s.holds e (n.ex s e) fun W1 H1 v d s1 r1 k1 => ?_
  have ee1 := e.step s1
  split at k1
  · rename_i xs hx
    obtain ⟨o, g1, a, vs, g2, g3, g4, g5, g6, r⟩ := ee1.sl i _ hx
    subst g2
    refine ⟨.ref a, g1, ?_⟩
    refine k2 B ρ _ _ k1 W1 σ H1 _ s1.holds ee1 (n.ex (s.trans s1) ee1) fun W2 H2 y z s2 r2 q2 => ?_
    have ee2 := ee1.step s2
    cases r2 with
    | int m =>
      obtain ⟨jj, h1, h2⟩ := q2
      obtain ⟨o', w1, a', vs', w2, w3, w4, w5, w6, r'⟩ := ee2.sl i _ hx
      rw [g1] at w1
      cases w1
      cases w2
      refine ⟨a, vs', m, jj, rfl, rfl, w3, by rw [r'.length]; exact h1, ?_⟩
      exact n.nx W2 _ σ _ (((s.trans s1).trans s2).own w6 w3 w4 w5) (ee2.own (us := vs') hx g1 (r'.set jj (r1.mono s2.le))) h2
    | _ => exact q2.elim
  · exact k1.elim
/-! ### insert, pop -/
end
end FP
/-! FP75: range with a step, xs[::-1], a comprehension as one's own, three names at once with an own one. -/
namespace FP
open PySem L2
variable [Tabl]
section
variable {ι : Type} {Xs : ι → Cx} {mg : Gm} {Wx : WX} {pos : Pos}
/-! ### range(a, b, c) -/
def rangeC (lo c : Int) (n : Nat) : List D := (List.range n).map fun (i : Nat) => D.int (lo + i * c)
theorem rangeC_len (lo c : Int) (n : Nat) : (rangeC lo c n).length = n := by simp [rangeC]
theorem WalkD.rangeC {W : Wd} {lo c : Int} {n : Nat} : WalkD mg W (Itc lo c n) (FP.rangeC lo c n) := by
  intro W1 H1 l hh
  refine ⟨fun i hi => by rw [rangeC_len] at hi; exact hi, by rw [rangeC_len]; exact Nat.le_refl n, fun i x H3 hi y => ?_⟩
  rw [rangeC_len] at hi
  obtain ⟨e, hx⟩ := (show H3 = H1 ∧ x = V.int (lo + (i : Nat) * c) from y)
  subst e hx
  refine ⟨W1, _, Step.refl hh, ?_, .int _⟩
  unfold FP.rangeC
  rw [List.getElem?_map, List.getElem?_range hi]
  rfl
/-- downwards by one -/
abbrev dIRngB (g : DTA) : DTI := fun ρ Q E => g ρ (fun ds => match ds with
  | [.int i, .int j, .int c] => c = -1 ∧ (-(2 ^ 62) ≤ i ∧ i < 2 ^ 62 ∧ -(2 ^ 62) ≤ j ∧ j < 2 ^ 62) ∧ Q (rangeC i (-1) (i - j).toNat)
  | _ => False) E
theorem di_range3 {tg a b c : Expr} {p : Pos} {g : DTA} (hm : mg.mg "range" = none) (h : DA Xs mg Wx [a, b, c] g) (hM : ∀ j, (Xs j).mg = mg.mg := by intro _; rfl) (hg : ∀ j, Gl (Xs j) "range" := by intro _; rfl)
    (hs : ∀ j, starEach [a, b, c] (Xs j).env = (false, eval a (Xs j).env) :: starEach [b, c] (Xs j).env := by intro _; rfl) (hpl : ∀ j, (backTo pos (starEach [b, c] (Xs j).env)).any (·.1) = false := by intro _; rfl) : DI Xs mg Wx tg (.Call (.Name "range" p) [a, b, c] [] pos) (dIRngB g) := by
  obtain ⟨t, h1, h2⟩ := h
  refine ⟨iRng3 t, fun j => pi_range3 (hg j) (by rw [hM j]; exact hm) (h1 j) (hs j) (hpl j), fun B ρ Q E hf W σ H Q' hh e x q => ?_⟩
  refine h2 B ρ _ E hf W σ H _ hh e x fun W1 H1 vs ds s1 r1 k1 => ?_
  split at k1
  · rename_i i j c
    cases r1 with
    | cons r rs =>
      cases r
      cases rs with
      | cons r rs =>
        cases r
        cases rs with
        | cons r rs =>
          cases r
          cases rs
          obtain ⟨rfl, ⟨b1, b2, b3, b4⟩, k2⟩ := k1
          exact ⟨i, j, -1, _, rfl, RgC.neg b1 b2 b3 b4, q W1 H1 _ _ s1 WalkD.rangeC k2⟩
  · exact k1.elim
/-! ### xs[::-1] -/
abbrev dRevL (f : DTE) : DTE := fun ρ Q E => f ρ (fun x => match x with
  | .lst xs => Q (.lst xs.reverse)
  | _ => False) E
theorem tRevL_K {X : Cx} {K : PySem.W.Frag} (h : X.K = K) {e : Expr} {te : TE} {k : Nat} {p1 p2 p3 : Pos} (he : PE X e te) : PE X (.Subscript e (.Slice none none (some (.UnaryOp .USub (.Constant (.int 1) k p1) p2)) p3) pos) (tRevL K te) := by
  subst h
  exact pe_revL he
theorem de_revL {e : Expr} {f : DTE} {k : Nat} {p1 p2 p3 : Pos} (h : DE Xs mg Wx e f) (hK : ∀ j, (Xs j).K = mg.K := by intro _; rfl) : DE Xs mg Wx (.Subscript e (.Slice none none (some (.UnaryOp .USub (.Constant (.int 1) k p1) p2)) p3) pos) (dRevL f) := by
  obtain ⟨t, h1, h2⟩ := h
  refine ⟨_, fun j => tRevL_K (hK j) (h1 j), fun B ρ Q E hf W σ H Q' hh e x q => ?_⟩
  refine h2 B ρ _ E hf W σ H _ hh e x fun W1 H1 v d s1 r1 k1 => ?_
  cases r1 with
  | lst ha ra => exact ⟨_, _, rfl, SqL.of (s1.holds.same _ _ ha), fun p hp => to_lst (ToV.step q s1) s1.holds ra.reverse k1 p hp⟩
  | _ => exact k1.elim
/-! ### a comprehension as one's own list -/
def CpN (mg : Gm) (Wx : WX) (t : TE) (g : DTA) : Prop := ∀ B ρ Q E, g ρ Q E → ∀ W σ H Q', Holds W H → EnvR mg B W H σ ρ → ExR mg Wx W H σ E → (∀ W' H' p vs ds, Step W H W' H' → H p = none → H' p = some (.lst vs) → W'.H p = none → ¬ W'.T p → Reps mg W' vs ds → Q ds → Q' (.ref p) H') → t σ H Q'
abbrev dLcN (w : DTI) (T : Tg) (ft : DTT) (fe : DTE) (vs : List Nat) : DTA := fun ρ Q E => w ρ (fun ds => ds.length ≤ sizeLine ∧ lcD (fun d k => ∃ ρ2, T.put d (wipeD ρ vs) = some ρ2 ∧ ft ρ2 (fun b => bit b (fe ρ2 (fun r => k (some r)) F0) (k none)) F0) ds Q) E
theorem CpN.lc {wi : TI} {g : TG} {tt : TT} {te : TE} {w : DTI} {T : Tg} {ft : DTT} {fe : DTE} {vs : List Nat} (hi : CpI mg Wx wi w) (hg : CpG mg g T) (hv : ∀ i ∈ T.slots, i ∈ vs) (ht : CpT mg Wx0 tt ft) (he : Cp mg Wx0 te fe) : CpN mg Wx (tLc wi g tt te vs) (dLcN w T ft fe vs) := by
  intro B ρ Q E hf W σ H Q' hh e x q
  refine hi B ρ _ E hf W σ H _ hh e x fun W1 H1 J ds s1 wk k1 => ?_
  obtain ⟨hsz, k1⟩ := k1
  intro A hA
  have e1 := e.step s1
  have hA0 : H A = none := by
    cases z : H A with
    | none => rfl
    | some o =>
      obtain ⟨o', e'⟩ := s1.live A o z
      rw [e'] at hA
      cases hA
  refine ⟨fun i m H' => m = ds.length - i ∧ i ≤ ds.length ∧ ∃ W' us acc, Step W1 H1 W' H' ∧ H' A = some (.lst us) ∧ W'.H A = none ∧ ¬ W'.T A ∧ Reps mg W' us acc ∧ acc.length ≤ i ∧ lcD _ (ds.drop i) (fun rs => Q (acc ++ rs)),
    ⟨ds.length, by simp, Nat.zero_le _, W1, [], [], Step.lay s1.holds hA, upd_same, s1.holds.same.free hA, s1.holds.nT hA, .nil, Nat.le_refl _, k1⟩, ?_⟩
  rintro i m H' ⟨rfl, hi, W', us, acc, s', hL, nw, nt, rs, la, k'⟩
  obtain ⟨go, stop, yld⟩ := wk W' H' s'.le s'.holds
  by_cases hlt : i < ds.length
  · refine .inr ⟨go i hlt, fun H2 => ∃ W2 us2 acc2, Step W1 H1 W2 H2 ∧ H2 A = some (.lst us2) ∧ W2.H A = none ∧ ¬ W2.T A ∧ Reps mg W2 us2 acc2 ∧ acc2.length ≤ i + 1 ∧ lcD _ (ds.drop (i + 1)) (fun rs => Q (acc2 ++ rs)), fun H2 q => ⟨ds.length - (i + 1), by omega, rfl, hlt, q⟩, fun y H2 hy => ?_⟩
    obtain ⟨W2, d, s2, hd, r⟩ := yld i y H2 hlt hy
    have ed : ds.drop i = d :: ds.drop (i + 1) := by
      rw [List.drop_eq_getElem_cons hlt]
      have := (List.getElem?_eq_some_iff.mp hd).2
      rw [this]
    rw [ed] at k'
    obtain ⟨ρ1, p1, k2⟩ := k'
    have sA : ∀ {Wa Wb : Wd} {Ha Hb : Hp} {ws : List V}, Step Wa Ha Wb Hb → Ha A = some (.lst ws) → Wa.H A = none → ¬ Wa.T A → Hb A = some (.lst ws) ∧ Wb.H A = none ∧ ¬ Wb.T A := fun st a1 a2 a3 => ⟨st.keep A _ a1 a3, by rw [st.fresh A _ a1]; exact a2, fun t => by
      rcases st.freshT A t with t | t
      · exact a3 t
      · rw [a1] at t
        cases t⟩
    refine hg B W2 H2 y d _ _ ρ1 _ s2.holds r ((e1.step s').step s2 |>.wipe vs) p1 fun σ3 e3 w3 => ?_
    refine ⟨(w3 vs hv).trans ?_, ?_⟩
    · have idem : ∀ ws : List Nat, L2.wipe (L2.wipe σ vs) ws = L2.wipe σ vs ∨ True := fun _ => .inr trivial
      exact wipe_wipe σ vs
    refine ht B ρ1 _ _ k2 W2 σ3 H2 _ s2.holds e3 ExR.f0 fun W3 H3 b s3 k3 => ?_
    obtain ⟨b1, b2, b3⟩ := sA (s2.trans s3) hL nw nt
    cases b with
    | true =>
      rw [if_pos rfl]
      refine he B ρ1 _ _ k3 W3 σ3 H3 _ s3.holds (e3.step s3) ExR.f0 fun W4 H4 z dz s4 r4 k4 => ?_
      obtain ⟨c1, c2, c3⟩ := sA s4 b1 b2 b3
      have s14 := (s'.trans s2).trans (s3.trans s4)
      refine ⟨us, c1, ?_, W4, us ++ [z], acc ++ [dz], s14.own hA c1 c2 c3, upd_same, c2, c3, Reps.snoc (rs.mono ((s2.trans s3).trans s4).le) r4, ?_, ?_⟩
      · rw [rs.length]
        omega
      · rw [List.length_append, List.length_singleton]
        omega
      · simpa [List.append_assoc] using k4
    | false =>
      rw [if_neg Bool.false_ne_true]
      exact ⟨W3, us, acc, (s'.trans s2).trans s3, b1, b2, b3, rs.mono (s2.trans s3).le, by omega, k3⟩
  · have ei : i = ds.length := by omega
    subst ei
    rw [List.drop_length] at k'
    refine .inl ⟨stop, q W' H' A us acc (s1.trans s') hA0 hL nw nt rs ?_⟩
    have k2 : Q (acc ++ []) := k'
    rw [List.append_nil] at k2
    exact k2
/-- a place gets a new list of one's own that stands already -/
theorem EnvR.setNew {B : Hp} {W : Wd} {H : Hp} {σ : St} {ρ : Env} (e : EnvR mg B W H σ ρ) {i : Nat} {p : Addr} {vs : List V} {xs : List D} (n : ∀ (j : Nat) (t : Sl) (o' : Option V), ρ[j]? = some t → σ[j]? = some o' → p ∈ t.fp o' → False) (h : H p = some (.lst vs)) (hw : W.H p = none) (ht : ¬ W.T p) (hb : B p = none) (r : Reps mg W vs xs) : EnvR mg B W H (σ.set i (some (.ref p))) (ρ.set i (.own xs)) :=
  e.move (fun j t o' b _ h1 h2 m m' => n j t o' h1 h2 (by rw [← List.mem_singleton.mp m']; exact m)) ⟨p, vs, rfl, h, hw, ht, hb, r⟩
theorem ds_setLcN {i : Nat} {y : Str} {py spos : Pos} {elt tg iter : Expr} {ifs : List Expr} {scope : Scope} {own : List (Str × Nat)} {w : DTI} {T : Tg} {ft : DTT} {fe : DTE} (hN : ∀ j, (Xs j).N.Nodup) (hi : DI Xs mg Wx tg iter w) (ok : ∀ j, BlkOk (Xs j).N (Xs j).env.scope scope own) (hg : DG (blkF Xs scope) mg tg T) (ht : DTs (blkF Xs scope) mg Wx0 ifs ft) (he : DE (blkF Xs scope) mg Wx0 elt fe)
    (hsw : ∀ j, swapsWith (.ListComp elt [⟨tg, iter, ifs, 0⟩] scope pos) (some (.Name y py)) spos.line (Xs j).env = pure true) (hy : ∀ j, (Xs j).N[i]? = some y := by intro _; rfl) (hyl : ∀ j, (Xs j).env.scope.names.lookup y = some .local := by intro _; rfl)
    (hv : ∀ i ∈ T.slots, i ∈ own.map (·.2) := by decide) (hc : ∀ j, (Xs j).calm = true := by intro _; rfl) (hs : ∀ j x, foldedSetIterable iter (Xs j).env x = pure x := by intro _ _; rfl) : DS Xs mg Wx (.Assign [.Name y py] (.ListComp elt [⟨tg, iter, ifs, 0⟩] scope pos) spos) (dSetO i (dLcN w T ft fe (own.map (·.2)))) := by
  obtain ⟨wi, i1, i2⟩ := hi
  obtain ⟨g, g1, g2⟩ := hg
  obtain ⟨tt, t1, t2⟩ := ht
  obtain ⟨te, e1, e2⟩ := he
  refine ⟨_, fun j => ps_setLc (i := i) (hc j) (hN j) (hy j) (hyl j) (hsw j) (i1 j) (ok j) (fun s H C cl fp => g1 (j, s, H, C, cl, fp)) (fun s H C cl fp => t1 (j, s, H, C, cl, fp)) (fun s H C cl fp => e1 (j, s, H, C, cl, fp)) (hs j), fun W0 B N ρ hf W σ H Ds s e n => ?_⟩
  refine CpN.lc i2 g2 hv t2 e2 B ρ _ _ hf W σ H _ s.holds e (n.ex s e) fun W1 H1 p vs ds s1 h0 h1 h2 h3 r1 k1 => ?_
  refine n.nx W1 H1 _ _ (s.trans s1) ((e.step s1).setNew (fun j t o' q1 q2 m => ?_) h1 h2 h3 (s.noB h0) r1) k1
  obtain ⟨o2, q3, q4⟩ := e.sl j _ q1
  rw [q2] at q3
  cases q3
  obtain ⟨u, q5, _⟩ := q4.at m
  rw [h0] at q5
  cases q5
/-! ### x, y, z = .., .., .. with an own list among them -/
abbrev dPar3L (i j l : Nat) (f1 f2 : DTE) (g : DTA) : DTS := fun N ρ => f1 ρ (fun d => f2 ρ (fun d2 => g ρ (fun xs => N.nx (((ρ.set i (.d d)).set j (.d d2)).set l (.own xs))) (fun x => N.rs x ρ)) (fun x => N.rs x ρ)) (fun x => N.rs x ρ)
theorem ds_par3L {i j l : Nat} {x y z : Str} {a b c : Expr} {g : DTA} {f1 f2 : DTE} {px py pz pt pt2 : Pos} {kt k2 : Nat} (h' : DE Xs mg Wx a f1) (h'' : DE Xs mg Wx b f2) (h : DO Xs mg Wx c g) (hN : ∀ l, (Xs l).N.Nodup)
    (hw : ∀ l, swappedStores [.Tuple [.Name x px, .Name y py, .Name z pz] kt pt] (.Tuple [a, b, c] k2 pt2) (Xs l).env = pure (some [x, y, z]) := by intro _; rfl) (hij : i ≠ j := by decide) (hil : i ≠ l := by decide) (hjl : j ≠ l := by decide) (hi : ∀ q, (Xs q).N[i]? = some x := by intro _; rfl) (hj : ∀ q, (Xs q).N[j]? = some y := by intro _; rfl) (hl : ∀ q, (Xs q).N[l]? = some z := by intro _; rfl)
    (hx : ∀ l, (Xs l).env.scope.names.lookup x = some .local := by intro _; rfl) (hy : ∀ l, (Xs l).env.scope.names.lookup y = some .local := by intro _; rfl) (hz : ∀ l, (Xs l).env.scope.names.lookup z = some .local := by intro _; rfl) (hc : ∀ l, (Xs l).calm = true := by intro _; rfl)
    (hs : ∀ l, swapsWithSole [.Tuple [.Name x px, .Name y py, .Name z pz] kt pt] (.Tuple [a, b, c] k2 pt2) pos.line (Xs l).env = pure false := by intro _; rfl)
    (he : ∀ i, starEach [a, b, c] (Xs i).env = (false, eval a (Xs i).env) :: starEach [b, c] (Xs i).env := by intro _; rfl) (he2 : ∀ i, starEach [b, c] (Xs i).env = (false, eval b (Xs i).env) :: starEach [c] (Xs i).env := by intro _; rfl) (he3 : ∀ i, starEach [c] (Xs i).env = [(false, eval c (Xs i).env)] := by intro _; rfl) : DS Xs mg Wx (.Assign [.Tuple [.Name x px, .Name y py, .Name z pz] kt pt] (.Tuple [a, b, c] k2 pt2) pos) (dPar3L i j l f1 f2 g) := by
  obtain ⟨t, h1, h2⟩ := h
  obtain ⟨u, g1, g2⟩ := h'
  obtain ⟨v, v1, v2⟩ := h''
  refine ⟨_, fun q => ps_par3 (i := i) (j := j) (l := l) (hc q) (hN q) (hi q) (hj q) (hl q) hij hil hjl (hx q) (hy q) (hz q) (pa_cons (g1 q) (pa_cons (v1 q) (pa_cons (h1 q) pa_nil (he3 q)) (he2 q)) (he q)) (hw q) (hs q), fun W0 B N ρ hf W σ H Ds s e n => ?_⟩
  refine g2 B ρ _ _ hf W σ H _ s.holds e (n.ex s e) fun W1 H1 w1 d1 s1 r1 k1 => ?_
  have e1 := e.step s1
  have s01 := s.trans s1
  refine v2 B ρ _ _ k1 W1 σ H1 _ s1.holds e1 (n.ex s01 e1) fun W2 H2 w2 d2 s2 r2 k2 => ?_
  have e2 := e1.step s2
  have s02 := s01.trans s2
  refine h2 B ρ _ _ k2 W2 σ H2 _ s2.holds e2 (n.ex s02 e2) fun W3 H3 p vs ds s3 hp r3 k3 => ?_
  have e3 := ((e2.step s3).set (i := i) (r1.mono (s2.trans s3).le)).set (i := j) (r2.mono s3.le)
  have s03 := s02.trans s3
  exact ⟨_, _, _, rfl, n.nx W3 _ _ _ (s03.trans (Step.lay s3.holds hp)) (e3.setOwn s3.holds hp (s03.noB hp) r3) k3⟩
end
end FP
/-! FP76: a slice of one's own list; small steps for own lists. -/
namespace FP
open PySem L2
variable [Tabl]
section
variable {ρ : Env} {f fk fe : DTE} {g : DTS} {N : Nd} {i j k : Nat} {xs : List D} {d : D}
theorem ev_viewL (h : ρ[i]? = some (.own xs)) (hp : plainD d = true) (hf : Ev f (ρ.set i (.d (.lst xs))) d) : Ev (dViewL i f) ρ d := fun Q E q => by
  unfold dViewL
  rw [h]
  exact hf _ _ ⟨hp, q⟩
theorem ev_ownIx {m : Int} (h : ρ[i]? = some (.own xs)) (hf : Ev f ρ (.int m)) (hd : atI xs m = some d) : Ev (dOwnIx i f) ρ d := fun Q E q => by
  unfold dOwnIx
  rw [h]
  exact hf _ _ ⟨d, hd, q⟩
theorem ownSet {m : Int} {n : Nat} (h : ρ[i]? = some (.own xs)) (he : Ev fe ρ d) (hk : Ev fk ρ (.int m)) (hm : ixN xs.length m = some n) (hn : N.nx (ρ.set i (.own (xs.set n d)))) : dOwnSet i fk fe N ρ := he _ _ (by
  rw [h]
  exact hk _ _ ⟨n, hm, hn⟩)
theorem seq_ownSet {m : Int} {n : Nat} (h : ρ[i]? = some (.own xs)) (he : Ev fe ρ d) (hk : Ev fk ρ (.int m)) (hm : ixN xs.length m = some n) (hn : g N (ρ.set i (.own (xs.set n d)))) : dSeq (dOwnSet i fk fe) g N ρ := ownSet h he hk hm hn
theorem ixN_nat {n m : Nat} (h : m < n) : ixN n (m : Int) = some m := by
  unfold ixN
  rw [if_pos (show (0 : Int) ≤ (m : Int) by omega)]
  rw [if_pos (by omega)]
  simp
end
end FP
/-! FP77: a tuple times an integer. -/
namespace FP
open PySem L2
end FP
/-! FP78: xs.count(text), xs a list of texts. -/
namespace FP
open PySem L2
variable [Tabl]
def rCountS : V → List V → Hp → VK → Prop := fun x vs H Q => ∃ (l : Addr) (ys : List Str) (a : Str), x = .ref l ∧ vs = [.str a] ∧ H l = some (.lst (ys.map V.str)) ∧ Q (.int (ys.count a : Nat)) H
theorem strs_vals : ∀ {ys : List Str} {us : List Value}, Vals (ys.map V.str) us → PyProof.Rows.StrsAre us ys
  | [], _, .nil => .nil
  | y :: ys, _, .cons r rs => by
    obtain ⟨t, rfl⟩ := r
    exact .cons y t (strs_vals rs)
theorem countIn_strs (a : Str) : ∀ ys : List Str, PySem.Spec.countIn (.str a) (ys.map PyData.str) = ((ys.count a : Nat) : Int)
  | [] => rfl
  | y :: ys => by
    rw [List.map_cons, PySem.Spec.countIn, countIn_strs a ys, List.count_cons]
    show (if PySem.Spec.same (.str y) (.str a) = true then (1 : Int) else 0) + _ = _
    have e : PySem.Spec.same (.str y) (.str a) = (y == a) := rfl
    rw [e]
    cases y == a <;> simp <;> omega
theorem mt_countS {X : Cx} : MtM X "list.count" rCountS := by
  intro pins s σ H x vs v us Q I rx rv h
  obtain ⟨l, ys, a, rfl, rfl, hH, q⟩ := h
  cases rx
  obtain ⟨u, rfl, ru⟩ := rv.one
  obtain ⟨t, rfl⟩ := ru
  obtain ⟨z, its, n, r, hl, e⟩ := I.lstM hH
  refine PyProof.Rows.count_list_strs (vs := its) ⟨_, e, rfl, n, rfl⟩ (strs_vals r) ?_
  rw [countIn_strs]
  exact ⟨.int (ys.count a : Nat), H, I.tok _, ⟨_, rfl⟩, q⟩
section
variable {ι : Type} {Xs : ι → Cx} {mg : Gm} {Wx : WX} {pos : Pos}
theorem Reps.strs_of {W : Wd} : ∀ {vs : List V} {ys : List Str}, Reps mg W vs (ys.map D.str) → vs = ys.map V.str
  | _, [], .nil => rfl
  | _, y :: ys, .cons r rs => by
    cases r
    rw [List.map_cons, Reps.strs_of rs]
theorem strsD_back : ∀ {ds : List D} {ys : List Str}, strsD ds = some ys → ds = ys.map D.str
  | [], ys, h => by
    cases h
    rfl
  | d :: r, ys, h => by
    cases d with
    | str a =>
      rw [strsD] at h
      cases q : strsD r with
      | none =>
        rw [q] at h
        cases h
      | some zs =>
        rw [q] at h
        cases h
        rw [List.map_cons, ← strsD_back q]
    | _ => cases h
abbrev dLCount (fo fe : DTE) : DTE := fun ρ Q E => fo ρ (fun x => match x with
  | .lst ds => fe ρ (fun y => match y with
    | .str b => ∃ ys, strsD ds = some ys ∧ Q (.int (ys.count b : Nat))
    | _ => False) E
  | _ => False) E
theorem de_lcount {o e : Expr} {fo fe : DTE} {apos : Pos} (ho : DE Xs mg Wx o fo) (he : DE Xs mg Wx e fe)
    (pe : ∀ j to te, PE (Xs j) o to → PE (Xs j) e te → PE (Xs j) (.Call (.Attribute o "count" apos) [e] [] pos) (tBM (Xs j).K "list" rCountS to (tCons te tNil)) := by exact fun _ _ _ h h2 => pe_bm PySem.F.plainAttrs_list PySem.F.slot_list_count PySem.F.type_list_count mt_countS h (pa_cons h2 pa_nil)) (hK : ∀ j, (Xs j).K = mg.K := by intro _; rfl) : DE Xs mg Wx (.Call (.Attribute o "count" apos) [e] [] pos) (dLCount fo fe) := by
  obtain ⟨to, o1, o2⟩ := ho
  obtain ⟨te, e1, e2⟩ := he
  refine ⟨tBM mg.K "list" rCountS to (tCons te tNil), fun j => by rw [← hK j]; exact pe j to te (o1 j) (e1 j), fun B ρ Q E h W σ H Q' hh e x q => ?_⟩
  refine o2 B ρ _ E h W σ H _ hh e x fun W1 H1 v1 d1 s1 r1 h1 => ?_
  cases r1 with
  | @lst a vs ds ha ra =>
    refine ⟨.inl ⟨rfl, _, SqL.of (s1.holds.same _ _ ha)⟩, ?_⟩
    refine e2 B ρ _ E h1 W1 σ H1 _ s1.holds (e.step s1) (x.step s1) fun W2 H2 v2 d2 s2 r2 h2 => ?_
    cases r2 with
    | str b =>
      obtain ⟨ys, hy, hq⟩ := h2
      have e3 := strsD_back hy
      subst e3
      have e4 := ra.strs_of
      subst e4
      exact ⟨_, ys, b, rfl, rfl, s2.holds.same _ _ (s2.le.h _ _ ha), q W2 H2 _ _ (s1.trans s2) (.int _) hq⟩
    | _ => exact h2.elim
  | _ => exact h1.elim
theorem ev_lcount {ρ : Env} {fo fe : DTE} {ys : List Str} {b : Str} (ho : Ev fo ρ (.lst (ys.map D.str))) (he : Ev fe ρ (.str b)) : Ev (dLCount fo fe) ρ (.int (ys.count b : Nat)) := fun Q E q => ho _ _ (he _ _ ⟨ys, strsD_map ys, q⟩)
end
end FP
/-! FP79: a < b of rows of data, sum of a list of integers, x is not False. -/
namespace FP
open PySem PySem.Spec PyProof.Rows L2
variable [Tabl]
section
variable {X : Cx}
def rLtD (K : PySem.W.Frag) : R2 := fun x y H Q => ∃ d e, Dp K H x d ∧ Dp K H y e ∧ PySem.W.alike d e = true ∧ d ≠ .none ∧ d.depth ≤ 64 ∧ Q (.bl (PySem.W.dataLt d e)) H
theorem op_ltD {K : PySem.W.Frag} (hK : X.K = K) (hu : X.A.units + 64 < cLine) : OpR X (compareOp .Lt) (rLtD K) := by
  subst hK
  intro pins s σ H x y v u Q I rx ry h
  obtain ⟨d, e, hd, he, sd, hn, hp, q⟩ := h
  obtain ⟨as, r1⟩ := Dp.reads I d x v hd rx
  obtain ⟨bs, r2⟩ := Dp.reads I e y u he ry
  exact PySem.W.lt_data r1 r2 sd hn (by omega) ⟨.bl _, H, I, rfl, q⟩
def rSum (K : PySem.W.Frag) : List V → Hp → VK → Prop := fun xs H Q => ∃ (a : Addr) (ns : List Int), xs = [.ref a] ∧ SqL K H a (ns.map V.int) ∧ Q (.int ns.sum) H
theorem cr_sum {K : PySem.W.Frag} (hK : X.K = K) (hc : X.calm = true) : CallR X (.builtin "sum") (rSum K) := by
  subst hK
  intro pins s σ H vs us Q I rx h
  obtain ⟨a, ns, rfl, hq, q⟩ := h
  cases rx with
  | cons r rr =>
    cases rr
    cases r
    obtain ⟨its, rv, pl, hsz⟩ := I.list hq
    have hi : IntsAre its ns := Vals.ints rv
    obtain ⟨xs, e⟩ := hi.allInts.items
    have hl := pl.isList
    rw [e] at hl
    refine PySem.sum_intListG (I.ok.hd hc) hl fun h' tk t' hk => ?_
    have hs : preSum (numAt xs) xs.size = ns.sum := by
      rw [preSum_eq, List.take_of_length_le (by simp), ← PySem.nums_intItems, ← e]
      rw [show its.toArray.toList = its from rfl, hi.numsOf]
    rw [hs]
    exact ⟨.int _, H, I.kept (t' := tk) hk, ⟨t', rfl⟩, q⟩
end
section
variable {ι : Type} {Xs : ι → Cx} {mg : Gm} {Wx : WX} {pos : Pos}
def rdLtD : RD2 := fun x y Q => ∃ p q, toPy x = some p ∧ toPy y = some q ∧ PySem.W.alike p q = true ∧ p ≠ .none ∧ p.depth ≤ 64 ∧ Q (.bl (PySem.W.dataLt p q))
theorem ok_ltD (hu : ∀ j, (Xs j).A.units + 64 < cLine) (hK : ∀ j, (Xs j).K = mg.K := by intro _; rfl) : OpOk Xs mg (compareOp .Lt) rdLtD := by
  refine ⟨_, fun j => op_ltD (hK j) (hu j), ?_⟩
  intro W H x y dx dy Q Q' hh rx ry h q
  obtain ⟨p, p', h1, h2, h3, h4, h5, h6⟩ := h
  exact ⟨p, p', rx.dp hh h1, ry.dp hh h2, h3, h4, h5, q W H _ _ (Step.refl hh) (.bl _) h6⟩
def rdSum : RDL := fun ds Q => match ds with
  | [.lst xs] => ∃ ns, intsD xs = some ns ∧ Q (.int ns.sum)
  | _ => False
theorem ok_sum (hK : ∀ j, (Xs j).K = mg.K := by intro _; rfl) (hc : ∀ j, (Xs j).calm = true := by intro _; rfl) : CallOk Xs mg (.builtin "sum") rdSum := by
  refine ⟨_, fun j => cr_sum (hK j) (hc j), ?_⟩
  intro W H vs ds Q Q' hh r h q
  unfold rdSum at h
  split at h
  · cases r with
    | cons r rs =>
      cases rs
      cases r with
      | @lst a us ds ha ru =>
        obtain ⟨ns, h1, h2⟩ := h
        have e := intsD_v ru h1
        subst e
        exact ⟨a, ns, rfl, SqL.of (hh.same _ _ ha), q W H _ _ (Step.refl hh) (.int _) h2⟩
  · exact h.elim
theorem boot_sum : bootBuiltins "sum" = some (.builtin "sum") := by decide +kernel
def rdIsNotB : RD2 := fun x y Q => match x, y with
  | .bl a, .bl b => Q (.bl (!decide (a = b)))
  | _, _ => False
theorem ok_isNotB : OpOk Xs mg (compareOp .IsNot) rdIsNotB := by
  refine ⟨_, fun j => op_isnot_bl, ?_⟩
  intro W H x y dx dy Q Q' hh rx ry h q
  unfold rdIsNotB at h
  split at h
  · cases rx
    cases ry
    exact ⟨_, _, rfl, rfl, q W H _ _ (Step.refl hh) (.bl _) h⟩
  · exact h.elim
end
end FP
/-! FP80: repr of data with dicts in them. -/
namespace FP
open PySem PySem.Spec PyProof.Rows L2
variable [Tabl]
def kP : Key → PyData
  | .inl i => .int i
  | .inr x => .str x
mutual
/-- a value that reads as data without lists, with dicts -/
inductive Dq (H : Hp) : V → PyData → Prop
  | non : Dq H .non .none
  | bl (b : Bool) : Dq H (.bl b) (.bool b)
  | int (i : Int) : Dq H (.int i) (.int i)
  | str (x : Str) : Dq H (.str x) (.str x)
  | tup {a : Addr} {xs : List V} {ds : List PyData} : H a = some (.tup xs) → DqAll H xs ds → Dq H (.ref a) (.tuple ds)
  | dct {a : Addr} {o : Obj} {kvs : List (Key × V)} {ps : List (PyData × PyData)} : H a = some (.frz o (.dK kvs)) → ps.map (·.1) = kvs.map (fun p => kP p.1) → DqAll H (kvs.map (·.2)) (ps.map (·.2)) → Dq H (.ref a) (.dict ps)
inductive DqAll (H : Hp) : List V → List PyData → Prop
  | nil : DqAll H [] []
  | cons {v : V} {vs : List V} {d : PyData} {ds : List PyData} : Dq H v d → DqAll H vs ds → DqAll H (v :: vs) (d :: ds)
end
section
variable {X : Cx} {pins : List (Addr × Obj)} {σ : L2.St} {H : Hp} {s : Shared}
theorem keys_read {h : Heap} : ∀ {kvs : List (Key × V)} {vs : List (Key × Value)} {es : List DictEntry}, KV kvs vs → Pairs (mixKind X.prog X.w) es vs → ReadsAll h (es.map (·.key)) (kvs.map fun p => kP p.1) [] ∧ Vals (kvs.map (·.2)) (es.map (·.val))
  | [], _, _, r, p => by
    cases r
    cases p
    exact ⟨.nil, .nil⟩
  | kv :: kvs, _, _, r, p => by
    cases r with
    | cons r1 r2 =>
      cases p with
      | cons hk hv hp =>
        obtain ⟨i1, i2⟩ := keys_read (h := h) r2 hp
        obtain ⟨a1, a2⟩ := r1
        refine ⟨ReadsAll.cons (as := []) (bs := []) ?_ i1, .cons ?_ i2⟩
        · show Reads h (DictEntry.key _) (kP kv.1) []
          rw [a1]
          rcases keyIs_shape hk with ⟨i, t, e1, e2⟩ | ⟨x, t, e1, e2⟩
          · rw [e1, e2]
            exact .int i t
          · rw [e1, e2]
            exact .str x t
        · show RelV kv.2 (DictEntry.val _)
          rw [hv]
          exact a2
mutual
theorem Dq.reads (I : Inv X pins σ H s) : ∀ {v : V} {d : PyData} {u : Value}, Dq H v d → RelV v u → ∃ as, Reads s.heap u d as ∧ sysModules ∉ as
  | _, _, _, .non, r => by
    cases r
    exact ⟨[], .none, List.not_mem_nil⟩
  | _, _, _, .bl b, r => by
    cases r
    exact ⟨[], .bool b, List.not_mem_nil⟩
  | _, _, _, .int i, r => by
    obtain ⟨t, rfl⟩ := r
    exact ⟨[], .int i t, List.not_mem_nil⟩
  | _, _, _, .str x, r => by
    obtain ⟨t, rfl⟩ := r
    exact ⟨[], .str x t, List.not_mem_nil⟩
  | _, _, _, .tup ha hs, r => by
    cases r
    obtain ⟨z, its, rv, o, ho, hc, n, hd⟩ := I.hok _ _ ha
    obtain ⟨as, h1, h2⟩ := DqAll.reads I hs rv
    exact ⟨_, Reads.tuple ho hc hd h1, h2⟩
  | _, _, _, .dct ha hk hs, r => by
    cases r
    obtain ⟨_, hx⟩ := (show ObjOk X.prog X.w H s.heap _ (.frz _ (.dK _)) from I.hok _ _ ha)
    obtain ⟨_, hn, vs, kv, o', es, ep, h1, h2, h3, _, h5, _⟩ := hx
    obtain ⟨k1, k2⟩ := keys_read (h := s.heap) kv h5
    obtain ⟨as, g1, g2⟩ := DqAll.reads I hs k2
    rw [← hk] at k1
    refine ⟨_, Reads.dict h1 h2.1 h3 k1 g1, fun hb => ?_⟩
    rw [List.cons_append, List.nil_append] at hb
    rcases List.mem_cons.mp hb with e | hb
    · rw [← e] at hn
      simp at hn
    · exact g2 hb
theorem DqAll.reads (I : Inv X pins σ H s) : ∀ {vs : List V} {ds : List PyData} {us : List Value}, DqAll H vs ds → Vals vs us → ∃ as, ReadsAll s.heap us ds as ∧ sysModules ∉ as
  | _, _, _, .nil, r => by
    cases r
    exact ⟨[], .nil, List.not_mem_nil⟩
  | _, _, _, .cons h1 h2, r => by
    cases r with
    | cons r1 r2 =>
      obtain ⟨as, a1, a2⟩ := Dq.reads I h1 r1
      obtain ⟨bs, b1, b2⟩ := DqAll.reads I h2 r2
      exact ⟨_, .cons a1 b1, fun hb => (List.mem_append.mp hb).elim a2 b2⟩
end
/-- an element of a list that is shown: without dicts, or without lists -/
def Elem (K : PySem.W.Frag) (H : Hp) (v : V) (d : PyData) : Prop := (Dp K H v d ∧ d.hasDict = false) ∨ Dq H v d
inductive Elems (K : PySem.W.Frag) (H : Hp) : List V → List PyData → Prop
  | nil : Elems K H [] []
  | cons {v : V} {vs : List V} {d : PyData} {ds : List PyData} : Elem K H v d → Elems K H vs ds → Elems K H (v :: vs) (d :: ds)
theorem Elem.reads (I : Inv X pins σ H s) {v : V} {d : PyData} {u : Value} (h : Elem X.K H v d) (r : RelV v u) : ∃ as, Reads s.heap u d as ∧ (d.hasDict = true → sysModules ∉ as) := by
  rcases h with ⟨h1, h2⟩ | h
  · obtain ⟨as, q⟩ := Dp.reads I d v u h1 r
    exact ⟨as, q, fun z => by rw [h2] at z; cases z⟩
  · obtain ⟨as, q1, q2⟩ := Dq.reads I h r
    exact ⟨as, q1, fun _ => q2⟩
theorem Elems.reads (I : Inv X pins σ H s) : ∀ {vs : List V} {ds : List PyData} {us : List Value}, Elems X.K H vs ds → Vals vs us → ∃ as, ReadsAll s.heap us ds as
  | _, _, _, .nil, r => by
    cases r
    exact ⟨[], .nil⟩
  | _, _, _, .cons h1 h2, r => by
    cases r with
    | cons r1 r2 =>
      obtain ⟨as, a1, _⟩ := h1.reads I r1
      obtain ⟨bs, b1⟩ := Elems.reads I h2 r2
      exact ⟨_, .cons a1 b1⟩
theorem Elems.shown (I : Inv X pins σ H s) : ∀ {vs : List V} {ds : List PyData} {us : List Value}, Elems X.K H vs ds → Vals vs us → PyData.showableAll ds = true → (∀ t ∈ PyData.shownAll ds, t.length ≤ sizeLine) → ∃ bs, ReadAtMost s.heap (PyData.depthAll ds) bs ∧ ReprAllK X.prog X.w bs s.heap (PyData.depthAll ds) us (PyData.shownAll ds)
  | _, _, _, .nil, r, _, _ => by
    cases r
    exact ⟨[], fun b hb => absurd hb List.not_mem_nil, by rw [PyData.shownAll]; exact .nil⟩
  | _, _, _, .cons (d := d) (ds := ds) h1 h2, r, hs, hz => by
    cases r with
    | cons r1 r2 =>
      rw [PyData.showableAll, Bool.and_eq_true] at hs
      rw [PyData.shownAll] at hz
      obtain ⟨as, a1, a2⟩ := h1.reads I r1
      obtain ⟨b1, p1, k1⟩ := ReprK.of_reads (prog := X.prog) (w := X.w) a1 hs.1 a2 (hz _ List.mem_cons_self)
      obtain ⟨b2, p2, k2⟩ := Elems.shown I h2 r2 hs.2 fun t ht => hz t (List.mem_cons_of_mem _ ht)
      rw [PyData.depthAll, PyData.shownAll]
      have l1 : d.depth ≤ max d.depth (PyData.depthAll ds) := Nat.le_max_left _ _
      have l2 : PyData.depthAll ds ≤ max d.depth (PyData.depthAll ds) := Nat.le_max_right _ _
      refine ⟨b1 ++ b2, (p1.mono l1).append (p2.mono l2), .cons (ReprK.level_le (k1.more fun b hb => List.mem_append_left _ hb) l1) (ReprAllK.more_le (fun b hb => List.mem_append_right _ hb) l2 k2)⟩
def rReprQ (K : PySem.W.Frag) : List V → Hp → VK → Prop := fun xs H Q => ∃ a vs ds, xs = [.ref a] ∧ H a = some (.lst vs) ∧ Elems K H vs ds ∧ ds ≠ [] ∧ PyData.showableAll ds = true ∧ PyData.depthAll ds ≤ 50 ∧ (PyData.shown (.list ds)).length ≤ sizeLine ∧ Q (.str (PyData.shown (.list ds))) H
theorem call_reprQ {K : PySem.W.Frag} (hK : X.K = K) (hg : X.A.guards = some []) (hu : X.A.units + 64 < cLine) : CallR X (.builtin "repr") (rReprQ K) := by
  subst hK
  intro pins s σ H xs us Q I r h
  obtain ⟨a, vs, ds, rfl, ha, he, hne, hs, hdp, hl, q⟩ := h
  obtain ⟨u, rfl, rx⟩ := vals1 r
  cases rx
  obtain ⟨z, its, n, rv, e⟩ := I.hok _ _ ha
  obtain ⟨as, rd⟩ := he.reads I rv
  have hl2 : (listText (PyData.shownAll ds)).length ≤ sizeLine := by
    rw [PyData.shown] at hl
    exact hl
  obtain ⟨bs, p1, p2⟩ := he.shown I rv hs fun t ht => Nat.le_trans (listText_mem_le ht) hl2
  have r1 : Reads s.heap (.ref a) (.list ds) _ := Reads.list e rfl rfl rd
  have hna : a ∉ bs := not_mem_of_deeper r1 (by rw [PyData.depth]; omega) p1
  rw [PyData.shown] at q
  refine call_repr_slot (by omega) ⟨_, e, rfl⟩ PySem.F.slot_list_repr.toG ?_
  cases its with
  | nil =>
    cases rd
    exact absurd rfl hne
  | cons x l =>
    exact call_list_reprK e rfl rfl hna (by simpa using p2.length_eq) (fun i y hy => p2.item i y (by simpa using hy)) hg (fun b _ => Clear.nil b) (by show X.A.units + 1 + _ < cLine; omega) (fun _ _ q => q) (fun h' u tk kp => ⟨_, _, rfl, V.str (listText (PyData.shownAll ds)), H, I.kept kp, ⟨u, rfl⟩, q⟩) hl2
end
section
variable {ι : Type} {Xs : ι → Cx} {mg : Gm} {Wx : WX} {pos : Pos}
mutual
def toPq : D → Option PyData
  | .non => some .none
  | .bl b => some (.bool b)
  | .int i => some (.int i)
  | .str x => some (.str x)
  | .tup xs => match toPqs xs with
    | some ps => some (.tuple ps)
    | none => none
  | .lst _ => none
  | .dct kvs => match toPqKV kvs with
    | some ps => some (.dict ps)
    | none => none
  | .fz _ => none
  | .ins _ _ => none
  | .tok => none
  | .cl _ => none
  | .fn _ _ => none
def toPqs : List D → Option (List PyData)
  | [] => some []
  | x :: xs => match toPq x, toPqs xs with
    | some p, some ps => some (p :: ps)
    | _, _ => none
def toPqKV : List (Key × D) → Option (List (PyData × PyData))
  | [] => some []
  | (k, x) :: xs => match toPq x, toPqKV xs with
    | some p, some ps => some ((kP k, p) :: ps)
    | _, _ => none
end
theorem toPqKV_split : ∀ {kvs : List (Key × D)} {ps : List (PyData × PyData)}, toPqKV kvs = some ps → ps.map (·.1) = kvs.map (fun p => kP p.1) ∧ toPqs (kvs.map (·.2)) = some (ps.map (·.2))
  | [], ps, h => by
    rw [toPqKV] at h
    cases h
    exact ⟨rfl, by rw [List.map_nil, toPqs]; rfl⟩
  | (k, x) :: kvs, ps, h => by
    rw [toPqKV] at h
    cases q1 : toPq x with
    | none => rw [q1] at h; cases h
    | some p =>
      cases q2 : toPqKV kvs with
      | none => rw [q1, q2] at h; cases h
      | some qs =>
        rw [q1, q2] at h
        cases h
        obtain ⟨i1, i2⟩ := toPqKV_split q2
        refine ⟨by rw [List.map_cons, List.map_cons, i1], ?_⟩
        rw [List.map_cons, toPqs, q1, i2]
        rfl
mutual
theorem Rep.dq {W : Wd} {H : Hp} (hh : Holds W H) : ∀ {v : V} {d : D} {p : PyData}, Rep mg W v d → toPq d = some p → Dq H v p
  | _, _, _, .non, e => by
    rw [toPq] at e
    cases e
    exact .non
  | _, _, _, .bl b, e => by
    rw [toPq] at e
    cases e
    exact .bl b
  | _, _, _, .int i, e => by
    rw [toPq] at e
    cases e
    exact .int i
  | _, _, _, .str x, e => by
    rw [toPq] at e
    cases e
    exact .str x
  | _, _, _, .tup ha r, e => by
    rw [toPq] at e
    split at e
    · rename_i ps hp
      cases e
      exact .tup (hh.same _ _ ha) (Reps.dq hh r hp)
    · cases e
  | _, _, _, .lst _ _, e => by
    rw [toPq] at e
    cases e
  | _, _, _, .fz _ _, e => by
    rw [toPq] at e
    cases e
  | _, _, _, .dct ha hk r, e => by
    rw [toPq] at e
    split at e
    · rename_i ps hp
      cases e
      obtain ⟨h1, h2⟩ := toPqKV_split hp
      refine .dct (hh.same _ _ ha) ?_ (Reps.dq hh r h2)
      rw [h1]
      have e2 := congrArg (List.map kP) hk
      rw [List.map_map, List.map_map] at e2
      exact e2.symm
    · cases e
  | _, _, _, .ins _ _ _ _, e => by
    rw [toPq] at e
    cases e
  | _, _, _, .tok _, e => by
    rw [toPq] at e
    cases e
  | _, _, _, .cl _, e => by
    rw [toPq] at e
    cases e
  | _, _, _, .fn _, e => by
    rw [toPq] at e
    cases e
theorem Reps.dq {W : Wd} {H : Hp} (hh : Holds W H) : ∀ {vs : List V} {ds : List D} {ps : List PyData}, Reps mg W vs ds → toPqs ds = some ps → DqAll H vs ps
  | _, _, _, .nil, e => by
    rw [toPqs] at e
    cases e
    exact .nil
  | _, _, _, .cons (d := d) (ds := ds) r rs, e => by
    rw [toPqs] at e
    cases q1 : toPq d with
    | none => rw [q1] at e; cases e
    | some p =>
      cases q2 : toPqs ds with
      | none => rw [q1, q2] at e; cases e
      | some qs =>
        rw [q1, q2] at e
        cases e
        exact .cons (Rep.dq hh r q1) (Reps.dq hh rs q2)
end
def elP (d : D) : Option PyData := match toPy d with
  | some p => if p.hasDict = true then none else some p
  | none => toPq d
def elPs : List D → Option (List PyData)
  | [] => some []
  | x :: xs => match elP x, elPs xs with
    | some p, some ps => some (p :: ps)
    | _, _ => none
theorem Rep.el {W : Wd} {H : Hp} (hh : Holds W H) {v : V} {d : D} {p : PyData} (r : Rep mg W v d) (h : elP d = some p) : Elem mg.K H v p := by
  unfold elP at h
  cases q : toPy d with
  | some p2 =>
    rw [q] at h
    dsimp only at h
    split at h
    · cases h
    · rename_i hd
      cases h
      refine .inl ⟨r.dp hh q, ?_⟩
      cases z : p.hasDict with
      | true => exact absurd z hd
      | false => rfl
  | none =>
    rw [q] at h
    exact .inr (r.dq hh h)
theorem Reps.el {W : Wd} {H : Hp} (hh : Holds W H) : ∀ {ds : List D} {vs : List V} {ps : List PyData}, Reps mg W vs ds → elPs ds = some ps → Elems mg.K H vs ps
  | [], _, _, .nil, e => by
    rw [elPs] at e
    cases e
    exact .nil
  | d :: ds, _, _, .cons r rs, e => by
    rw [elPs] at e
    cases q1 : elP d with
    | none => rw [q1] at e; cases e
    | some p =>
      cases q2 : elPs ds with
      | none => rw [q1, q2] at e; cases e
      | some qs =>
        rw [q1, q2] at e
        cases e
        exact .cons (r.el hh q1) (Reps.el hh rs q2)
/-- repr of a list with dicts among its elements -/
def rdReprQ : RDL := fun ds Q => match ds with
  | [.lst xs] => ∃ ps, elPs xs = some ps ∧ ps ≠ [] ∧ PyData.showableAll ps = true ∧ PyData.depthAll ps ≤ 50 ∧ (PyData.shown (.list ps)).length ≤ sizeLine ∧ Q (.str (PyData.shown (.list ps)))
  | _ => False
theorem ok_reprQ (hg : ∀ j, (Xs j).A.guards = some []) (hu : ∀ j, (Xs j).A.units + 64 < cLine) (hK : ∀ j, (Xs j).K = mg.K := by intro _; rfl) : CallOk Xs mg (.builtin "repr") rdReprQ := by
  refine ⟨_, fun j => call_reprQ (hK j) (hg j) (hu j), ?_⟩
  intro W H vs ds Q Q' hh r h q
  unfold rdReprQ at h
  split at h
  · cases r with
    | cons r rs =>
      cases rs
      obtain ⟨ps, h1, h2, h3, h4, h5, h6⟩ := h
      cases r with
      | lst ha rr => exact ⟨_, _, ps, rfl, hh.same _ _ ha, rr.el hh h1, h2, h3, h4, h5, q W H _ _ (Step.refl hh) (.str _) h6⟩
  · exact h.elim
end
end FP
/-! FP81: [*d, ..], d a dict. -/
namespace FP
open PySem PySem.Spec PyProof.Rows L2
variable [Tabl]
section
variable {X : Cx} {pins : List (Addr × Obj)} {σ : L2.St} {H : Hp} {s : Shared}
theorem star_dct {a : Addr} {kvs : List (Key × V)} {E : Value → Shared → Prop} {Q : List Value → Shared → Prop} (hcalm : X.calm = true) (I : Inv X pins σ H s) (h : Rd H a (.dK kvs)) (hQ : ∀ us s', Inv X pins σ H s' → Vals (kvs.map fun kv => kV kv.1) us → Q us s') : PySem.W.StarOf (model X.prog X.w) X.A E (.ref a) Q s := by
  obtain ⟨z, lo, vs, rel, dd⟩ := dk_rd I.hok h
  obtain ⟨ep, hat⟩ := dd.dictAt
  have ek : (kvs.map fun kv => kV kv.1) = vs.map fun p => kV p.1 := by
    have e := congrArg (List.map kV) rel.keys
    rw [List.map_map, List.map_map] at e
    exact e
  have z2 := PySem.W.kdu_collect (E := E) (R := Q) (PySem.W.kdl_dict (prog := X.prog) (w := X.w) (knd := mixKind X.prog X.w) (kvs := vs) (ep := ep) lo) (I.ok.hd hcalm) hat (by rw [← rel.length]; exact z) fun h' tk acc hk hacc => by
    have hv : Vals (vs.map fun p => kV p.1) acc.toList := keys_at (by rw [Array.length_toList]; exact hacc.1) fun j v e => hacc.2 j v (by rw [← Array.getElem?_toList]; exact e)
    rw [← ek] at hv
    exact hQ _ _ (I.kept (t' := tk) hk) hv
  unfold PySem.W.StarOf notIterableAtAll
  exact wpAny_bind (wpAny_specialOf hat.dictOf.typeIs PySem.F.slot_dict_iter.lookup (wpAny_pure ⟨rfl, z2⟩))
def tStarD (te : TE) (t : TA) : TA := fun σ H Q => te σ H fun x H1 => ∃ (p : Addr) (kvs : List (Key × V)), x = V.ref p ∧ Rd H1 p (.dK kvs) ∧ t σ H1 fun ys H2 => Q ((kvs.map fun kv => kV kv.1) ++ ys) H2
theorem pa_starD {e : Expr} {es : List Expr} {te : TE} {t : TA} {p : Pos} (hc : X.calm = true) (he : PE X e te) (hr : PA X es t) (hs : starEach (.Starred e p :: es) X.env = (true, eval e X.env) :: starEach es X.env) : PA X (.Starred e p :: es) (tStarD te t) := by
  refine ⟨fun pos pins s σ H Q I h => ?_⟩
  refine PySem.W.items_star (thn (he.run pins s σ H _ I h) fun v s1 ⟨y, H1, I1, ry, q⟩ => ?_) hs
  obtain ⟨a, kvs, ey, hx, q⟩ := q
  subst ey
  obtain rfl : v = Value.ref a := ry
  refine star_dct hc I1 hx fun us s2 I2 rv => ?_
  exact thn (hr.run pos pins s2 σ H1 _ I2 q) fun ws s3 ⟨vs, H3, I3, r3, q3⟩ => ⟨_, H3, I3, rv.append r3, q3⟩
end
section
variable {ι : Type} {Xs : ι → Cx} {mg : Gm} {Wx : WX} {pos : Pos}
abbrev dStarD (f : DTE) (g : DTA) : DTA := fun ρ Q E => f ρ (fun x => match x with
  | .dct kvs => g ρ (fun ys => Q ((kvs.map fun kv => kD kv.1) ++ ys)) E
  | _ => False) E
theorem da_starD {e : Expr} {es : List Expr} {f : DTE} {g : DTA} {p : Pos} (h : DE Xs mg Wx e f) (h' : DA Xs mg Wx es g) (hc : ∀ j, (Xs j).calm = true := by intro _; rfl) (hs : ∀ i, starEach (.Starred e p :: es) (Xs i).env = (true, eval e (Xs i).env) :: starEach es (Xs i).env := by intro _; rfl) :
    DA Xs mg Wx (.Starred e p :: es) (dStarD f g) := by
  obtain ⟨t, h1, h2⟩ := h
  obtain ⟨u, g1, g2⟩ := h'
  refine ⟨_, fun i => pa_starD (hc i) (h1 i) (g1 i) (hs i), ?_⟩
  intro B ρ Q E hf W σ H Q' hh e x q
  refine h2 B ρ _ E hf W σ H _ hh e x fun W1 H1 v d s1 r1 k1 => ?_
  cases r1 with
  | dct ha hk ra =>
    refine ⟨_, _, rfl, .inr ⟨_, s1.holds.same _ _ ha⟩, ?_⟩
    refine g2 B ρ _ E k1 W1 σ H1 _ s1.holds (e.step s1) (x.step s1) fun W2 H2 vs ds2 s2 r2 k2 => ?_
    exact q W2 H2 _ _ (s1.trans s2) ((kV_keys hk).append r2) k2
  | _ => exact k1.elim
theorem ev_starD {ρ : Env} {f : DTE} {g : DTA} {kvs : List (Key × D)} {ds : List D} (h : Ev f ρ (.dct kvs)) (hg : ∀ (Q : List D → Prop) (E : XD → Prop), Q ds → g ρ Q E) : ∀ (Q : List D → Prop) (E : XD → Prop), Q ((kvs.map fun kv => kD kv.1) ++ ds) → dStarD f g ρ Q E := fun Q E q => h _ _ (hg _ _ q)
end
end FP
/-! KP: kinds, with no program in sight: text, places, order, parts, signed atoms; their data. -/
namespace KP
open PySem L2 FP
variable [FP.Tabl]
inductive Kd where
  | mk (as : List Kd) (a : Str)
def Kd.as : Kd → List Kd
  | .mk as _ => as
def Kd.a : Kd → Str
  | .mk _ a => a
mutual
def text : Kd → Str
  | .mk as a => Txt.join " -> " (texts as ++ [a])
def texts : List Kd → List Str
  | [] => []
  | k :: r => (if k.as.isEmpty then text k else "(" ++ text k ++ ")") :: texts r
end
mutual
def places : Kd → List Str
  | .mk as a => placesL as ++ [a]
def placesL : List Kd → List Str
  | [] => []
  | k :: r => places k ++ placesL r
end
theorem placesL_map : ∀ ks, placesL ks = (ks.map places).flatten
  | [] => rfl
  | k :: r => by
    rw [placesL, placesL_map r]
    rfl
mutual
def ord : Kd → Nat
  | .mk as _ => ordL as
def ordL : List Kd → Nat
  | [] => 0
  | k :: r => max (ord k + 1) (ordL r)
end
theorem ord_lt {k : Kd} : ∀ {ks : List Kd}, k ∈ ks → ord k < ordL ks
  | [], h => absurd h List.not_mem_nil
  | j :: r, h => by
    rw [ordL]
    rcases List.mem_cons.mp h with e | e
    · rw [e]; omega
    · have := ord_lt e
      omega
theorem ordL_le {n : Nat} : ∀ {ks : List Kd}, (∀ k ∈ ks, ord k < n) → ordL ks ≤ n
  | [], _ => Nat.zero_le _
  | j :: r, h => by
    rw [ordL]
    have h1 := h j List.mem_cons_self
    have h2 := ordL_le fun k hk => h k (List.mem_cons_of_mem _ hk)
    omega
/-! ### sizes -/
theorem placesL_len {k : Kd} : ∀ {ks : List Kd}, k ∈ ks → (places k).length ≤ (placesL ks).length
  | [], h => absurd h List.not_mem_nil
  | j :: r, h => by
    rw [placesL, List.length_append]
    rcases List.mem_cons.mp h with e | e
    · rw [e]; omega
    · have := placesL_len e
      omega
theorem placesL_mem {k : Kd} {z : Str} (hz : z ∈ places k) : ∀ {ks : List Kd}, k ∈ ks → z ∈ placesL ks
  | [], h => absurd h List.not_mem_nil
  | j :: r, h => by
    rw [placesL]
    rcases List.mem_cons.mp h with e | e
    · rw [← e]
      exact List.mem_append_left _ hz
    · exact List.mem_append_right _ (placesL_mem hz e)
/-! ### words -/
def letters : List Nat := ("abcdefghijklmnopqrstuvwxyz" : Str).cps.toList
def isWordS (z : Str) : Bool := decide (1 ≤ z.length) && decide (z.length ≤ 8) && z.cps.toList.all fun c => decide (c ∈ letters)
theorem word_len {z : Str} (h : isWordS z = true) : 1 ≤ z.length ∧ z.length ≤ 8 := by
  unfold isWordS at h
  simp only [Bool.and_eq_true, decide_eq_true_eq] at h
  exact h.1
theorem word_letters {z : Str} (h : isWordS z = true) : ∀ c ∈ z.cps.toList, c ∈ letters := by
  unfold isWordS at h
  simp only [Bool.and_eq_true, decide_eq_true_eq, List.all_eq_true] at h
  exact h.2
theorem letters_small : ∀ c ∈ letters, 97 ≤ c ∧ c < 123 := by decide +kernel
theorem word_ok {z : Str} (h : isWordS z = true) : okStr z := ⟨Nat.le_trans (word_len h).2 (by decide), fun c hc => by
  have := letters_small c (word_letters h c hc)
  omega⟩
/-- a whole kind -/
structure Good (k : Kd) : Prop where
  w : ∀ z ∈ places k, isWordS z = true
  p : (places k).length ≤ 15
  o : ord k ≤ 4
theorem Good.kid {as : List Kd} {a : Str} (g : Good (.mk as a)) {k : Kd} (h : k ∈ as) : Good k := by
  refine ⟨fun z hz => g.w z ?_, ?_, ?_⟩
  · rw [places]
    exact List.mem_append_left _ (placesL_mem hz h)
  · have h1 := g.p
    rw [places, List.length_append] at h1
    have := placesL_len h
    have h1 : (placesL as).length + 1 ≤ 15 := h1
    omega
  · have h1 := g.o
    rw [ord] at h1
    have := ord_lt h
    omega
/-! ### the size of a text -/
theorem len_app (a b : Str) : (a ++ b).length = a.length + b.length := by
  show (a.cps ++ b.cps).size = _
  rw [Array.size_append]
  rfl
end KP
/-! KP2: kinds as data; data beside themselves. -/
namespace KP
open PySem L2 FP
variable [FP.Tabl]
mutual
def plain : Kd → D
  | .mk as a => .tup [.tup (plains as), .str a]
def plains : List Kd → List D
  | [] => []
  | k :: r => plain k :: plains r
end
theorem plains_map : ∀ ks, plains ks = ks.map plain
  | [] => rfl
  | k :: r => by
    rw [plains, plains_map r]
    rfl
theorem plain_mk (as : List Kd) (a : Str) : plain (.mk as a) = .tup [.tup (as.map plain), .str a] := by
  rw [plain, plains_map]
mutual
def typeD : Kd → D
  | .mk as a => .ins "Type" [("own_args", .tup (typeDs as)), ("own_atom", .str a), ("own_places", .tup ((places (.mk as a)).map .str)), ("own_order", .int (ord (.mk as a))), ("own_text", .str (text (.mk as a)))]
def typeDs : List Kd → List D
  | [] => []
  | k :: r => typeD k :: typeDs r
end
/-! ### readings of fields, of the class -/
/-! ### data beside themselves -/
mutual
def shD : Nat → D → Bool
  | _, .non => true
  | _, .bl _ => true
  | _, .int _ => true
  | _, .str x => PyData.strOk x
  | n + 1, .tup xs => shDs n xs
  | n + 1, .lst xs => shDs n xs
  | _, _ => false
def shDs : Nat → List D → Bool
  | _, [] => true
  | n, x :: r => shD n x && shDs n r
end
mutual
theorem shD_py : ∀ (n : Nat) (d : D), shD n d = true → ∃ p, toPy d = some p ∧ p.canLay0 = true ∧ p.depth ≤ n
  | n, .non, _ => ⟨.none, rfl, rfl, Nat.zero_le _⟩
  | n, .bl b, _ => ⟨.bool b, rfl, rfl, Nat.zero_le _⟩
  | n, .int i, _ => ⟨.int i, rfl, rfl, Nat.zero_le _⟩
  | n, .str x, h => ⟨.str x, rfl, by rw [PyData.canLay0]; simpa [shD] using h, Nat.zero_le _⟩
  | n + 1, .tup xs, h => by
    rw [shD] at h
    obtain ⟨ps, h1, h2, h3⟩ := shDs_py n xs h
    exact ⟨.tuple ps, by rw [toPy, h1], h2, Nat.succ_le_succ h3⟩
  | n + 1, .lst xs, h => by
    rw [shD] at h
    obtain ⟨ps, h1, h2, h3⟩ := shDs_py n xs h
    exact ⟨.list ps, by rw [toPy, h1], h2, Nat.succ_le_succ h3⟩
  | 0, .tup xs, h => by simp [shD] at h
  | 0, .lst xs, h => by simp [shD] at h
  | n, .fz _, h => by simp [shD] at h
  | n, .dct _, h => by simp [shD] at h
  | n, .ins _ _, h => by simp [shD] at h
  | n, .tok, h => by simp [shD] at h
  | n, .cl _, h => by simp [shD] at h
  | n, .fn _ _, h => by simp [shD] at h
theorem shDs_py : ∀ (n : Nat) (ds : List D), shDs n ds = true → ∃ ps, toPys ds = some ps ∧ PyData.canLayAll0 ps = true ∧ PyData.depthAll ps ≤ n
  | n, [], _ => ⟨[], rfl, rfl, Nat.zero_le _⟩
  | n, x :: r, h => by
    rw [shDs, Bool.and_eq_true] at h
    obtain ⟨p, h1, h2, h3⟩ := shD_py n x h.1
    obtain ⟨ps, g1, g2, g3⟩ := shDs_py n r h.2
    refine ⟨p :: ps, by rw [toPys, h1, g1], ?_, ?_⟩
    · rw [PyData.canLayAll0, h2, g2]
      rfl
    · rw [PyData.depthAll]
      omega
end
mutual
theorem eqv_refl : ∀ p : PyData, p.canLay0 = true → PyData.eqv p p = true
  | .none, _ => by simp [PyData.eqv]
  | .bool _, _ => by simp [PyData.eqv]
  | .int _, _ => by simp [PyData.eqv]
  | .str _, _ => by simp [PyData.eqv]
  | .list xs, h => by
    rw [PyData.eqv]
    exact eqvAll_refl xs (by simpa [PyData.canLay0] using h)
  | .tuple xs, h => by
    rw [PyData.eqv]
    exact eqvAll_refl xs (by simpa [PyData.canLay0] using h)
  | .dict _, h => by simp [PyData.canLay0] at h
theorem eqvAll_refl : ∀ ps : List PyData, PyData.canLayAll0 ps = true → PyData.eqvAll ps ps = true
  | [], _ => by simp [PyData.eqvAll]
  | p :: r, h => by
    rw [PyData.canLayAll0, Bool.and_eq_true] at h
    rw [PyData.eqvAll, eqv_refl p h.1, eqvAll_refl r h.2]
    rfl
end
theorem sh_shaped {p : PyData} (h1 : p.canLay0 = true) (h2 : p.depth ≤ 64) : SeqAt.shaped p = true := by
  unfold SeqAt.shaped
  rw [h1, decide_eq_true h2]
  rfl
theorem ne_refl {x : D} {Q : D → Prop} (h : shD 64 x = true) (hn : eqS x x = none) (q : Q (.bl false)) : rdNe x x Q := by
  obtain ⟨p, h1, h2, h3⟩ := shD_py 64 x h
  exact ne_deep h1 h1 hn (sh_shaped h2 h3) (sh_shaped h2 h3) (eqv_refl p h2) q
theorem eq_refl {x : D} {Q : D → Prop} (h : shD 64 x = true) (hn : eqS x x = none) (q : Q (.bl true)) : rdEq x x Q := by
  obtain ⟨p, h1, h2, h3⟩ := shD_py 64 x h
  exact eq_deep h1 h1 hn (sh_shaped h2 h3) (sh_shaped h2 h3) (eqv_refl p h2) q
/-! ### signs of texts -/
theorem strOk_iff (z : Str) : PyData.strOk z = true ↔ ∀ c ∈ z.cps.toList, c < 1114112 := by
  unfold PyData.strOk
  rw [Array.all_eq_true']
  simp
theorem strOk_app {a b : Str} (h1 : PyData.strOk a = true) (h2 : PyData.strOk b = true) : PyData.strOk (a ++ b) = true := by
  rw [strOk_iff] at *
  intro c hc
  rw [str_app] at hc
  rcases List.mem_append.mp hc with q | q
  · exact h1 c q
  · exact h2 c q
theorem strOk_join {y : Str} (hy : PyData.strOk y = true) : ∀ {ts : List Str}, (∀ t ∈ ts, PyData.strOk t = true) → PyData.strOk (Str.join y ts) = true
  | [], _ => by show PyData.strOk Str.empty = true; decide +kernel
  | [t], h => h t List.mem_cons_self
  | t :: u :: r, h => by
    show PyData.strOk (t ++ y ++ Str.join y (u :: r)) = true
    exact strOk_app (strOk_app (h t List.mem_cons_self) hy) (strOk_join hy fun s hs => h s (List.mem_cons_of_mem _ hs))
end KP
/-! KP3: what the defs about kinds promise, by data; lists walked. -/
namespace KP
open PySem L2 FP
variable [FP.Tabl]
/-- a comprehension over data told by things -/
theorem lc_of {α : Type} {body : D → (Option D → Prop) → Prop} (e g : α → D) : ∀ (xs : List α) (Q : List D → Prop), (∀ x ∈ xs, ∀ k : Option D → Prop, k (some (g x)) → body (e x) k) → Q (xs.map g) → lcD body (xs.map e) Q
  | [], Q, _, h => h
  | x :: xs, Q, hb, h => by
    refine hb x List.mem_cons_self _ ?_
    exact lc_of e g xs _ (fun y hy => hb y (List.mem_cons_of_mem _ hy)) h
/-- a for loop over data told by things: what holds behind each -/
theorem for_of {α : Type} {T : Tg} {f : DTS} {N : Nd} (e : α → D) (I : List α → FP.Env → Prop) : ∀ (xs done : List α) (ρ : FP.Env), I done ρ →
    (∀ (x : α) (pre post : List α), done ++ xs = pre ++ x :: post → ∀ (ρ : FP.Env) (K : FP.Env → Prop), I pre ρ → (∀ ρ', I (pre ++ [x]) ρ' → K ρ') → ∃ ρ1, T.put (e x) ρ = some ρ1 ∧ f { N with nx := K, ct := K, bk := N.nx } ρ1) →
    (∀ ρ, I (done ++ xs) ρ → N.nx ρ) → forD T f N (xs.map e) ρ
  | [], done, ρ, h, _, he => he ρ (by rw [List.append_nil]; exact h)
  | x :: xs, done, ρ, h, hs, he => by
    refine hs x done xs rfl ρ _ h fun ρ' h' => ?_
    refine for_of e I xs (done ++ [x]) ρ' h' (fun y pre post eq ρ K => hs y pre post (by rw [← eq, List.append_assoc]; rfl) ρ K) fun ρ h2 => he ρ ?_
    rw [List.append_assoc] at h2
    exact h2
def isWordD : D → Bool
  | .str z => isWordS z
  | _ => false
def isIntD : D → Bool
  | .int i => decide (-(10 ^ 60) < i) && decide (i < 10 ^ 60)
  | _ => false
def f_is_word : List D → M D := fun ds Q _ => match ds with
  | [d] => okV d ∧ Q (.bl (isWordD d))
  | _ => False
def f_is_int : List D → M D := fun ds Q _ => match ds with
  | [d] => okV d ∧ Q (.bl (isIntD d))
  | _ => False
def inRow (d : D) (a b : Int) : Bool := match d with
  | .int i => isIntD (.int i) && (decide (a ≤ i) && decide (i ≤ b))
  | _ => false
def f_within : List D → M D := fun ds Q _ => match ds with
  | [d, .int a, .int b] => okV d ∧ Q (.bl (inRow d a b))
  | _ => False
def d_len (k : Kd) : D := .int (places k).length
theorem size_small {n : Nat} (h : n ≤ 1000) : n ≤ sizeLine := Nat.le_trans h (by decide)
theorem placesL_app (xs ys : List Kd) : placesL (xs ++ ys) = placesL xs ++ placesL ys := by
  rw [placesL_map, placesL_map, placesL_map, List.map_append, List.flatten_append]
end KP
/-! KP4: a dict from texts to kinds; its keys in order. -/
namespace KP
open PySem L2 FP
variable [FP.Tabl]
structure DInv (done : List Kd) (acc : List (Key × D)) : Prop where
  el : ∀ kv ∈ acc, ∃ j ∈ done, kv = (.inr (text j), typeD j)
  nd : (acc.map (·.1)).Nodup
  all : ∀ j ∈ done, Sum.inr (text j) ∈ acc.map (·.1)
theorem DInv.put {done : List Kd} {acc : List (Key × D)} (h : DInv done acc) (j : Kd) : DInv (done ++ [j]) (putKD acc (.inr (text j)) (typeD j)) := by
  unfold putKD
  by_cases q : (acc.any fun kv => decide (kv.1 = .inr (text j))) = true
  · rw [if_pos q]
    have ek : (acc.map fun kv => if kv.1 = .inr (text j) then (kv.1, typeD j) else kv).map (·.1) = acc.map (·.1) := by
      rw [List.map_map]
      apply List.map_congr_left
      intro kv _
      show (if kv.1 = .inr (text j) then (kv.1, typeD j) else kv).1 = kv.1
      split <;> rfl
    refine ⟨fun kv hkv => ?_, by rw [ek]; exact h.nd, fun i hi => ?_⟩
    · obtain ⟨kv0, h0, e⟩ := List.mem_map.mp hkv
      by_cases z : kv0.1 = .inr (text j)
      · rw [if_pos z] at e
        exact ⟨j, by simp, by rw [← e, z]⟩
      · rw [if_neg z] at e
        obtain ⟨i, hi, ei⟩ := h.el kv0 h0
        exact ⟨i, List.mem_append_left _ hi, by rw [← e, ei]⟩
    · rw [ek]
      rcases List.mem_append.mp hi with z | z
      · exact h.all i z
      · rw [List.mem_singleton.mp z]
        obtain ⟨kv, h1, h2⟩ := List.any_eq_true.mp q
        exact List.mem_map.mpr ⟨kv, h1, of_decide_eq_true h2⟩
  · rw [if_neg q]
    have nk : Sum.inr (text j) ∉ acc.map (·.1) := fun z => by
      obtain ⟨kv, h1, h2⟩ := List.mem_map.mp z
      exact q (List.any_eq_true.mpr ⟨kv, h1, decide_eq_true h2⟩)
    refine ⟨fun kv hkv => ?_, ?_, fun i hi => ?_⟩
    · rcases List.mem_append.mp hkv with z | z
      · obtain ⟨i, hi, ei⟩ := h.el kv z
        exact ⟨i, List.mem_append_left _ hi, ei⟩
      · exact ⟨j, by simp, List.mem_singleton.mp z⟩
    · rw [List.map_append]
      refine List.nodup_append.mpr ⟨h.nd, by simp, fun a ha b hb e => ?_⟩
      have eb : b = Sum.inr (text j) := by simpa using hb
      rw [e, eb] at ha
      exact nk ha
    · rw [List.map_append]
      rcases List.mem_append.mp hi with z | z
      · exact List.mem_append_left _ (h.all i z)
      · rw [List.mem_singleton.mp z]
        exact List.mem_append_right _ (by simp)
theorem flatsD_strs : ∀ zs : List Str, flatsD (zs.map D.str) = some (zs.map V.str)
  | [] => rfl
  | z :: r => by
    rw [List.map_cons, flatsD, flatsD_strs r]
    rfl
theorem flat_strs : ∀ zs : List Str, (zs.map V.str).all flatV = true
  | [] => rfl
  | z :: r => by
    rw [List.map_cons, List.all_cons, flat_strs r]
    rfl
theorem inV_strs (z : Str) : ∀ zs : List Str, inV (.str z) (zs.map V.str) = decide (z ∈ zs)
  | [] => rfl
  | y :: r => by
    have ih := inV_strs z r
    unfold inV at ih ⊢
    rw [List.map_cons, List.any_cons, ih]
    have e : eqV (.str y) (.str z) = decide (y = z) := by
      show (y == z) = _
      rfl
    rw [e, Bool.eq_iff_iff]
    simp only [Bool.or_eq_true, decide_eq_true_eq, List.mem_cons]
    constructor
    · rintro (h | h)
      · exact .inl h.symm
      · exact .inr h
    · rintro (h | h)
      · exact .inl h.symm
      · exact .inr h
theorem inD_strs (z : Str) (zs : List Str) : inD (.str z) (.lst (zs.map D.str)) = some (decide (z ∈ zs)) := by
  show (match flatD (.str z), flatsD (zs.map D.str) with
    | some v, some vs => if flatV v = true ∧ vs.all flatV = true then some (inV v vs) else none
    | _, _ => none) = _
  rw [flatsD_strs]
  show (if flatV (.str z) = true ∧ (zs.map V.str).all flatV = true then some (inV (.str z) (zs.map V.str)) else none) = _
  rw [if_pos ⟨rfl, flat_strs zs⟩, inV_strs]
theorem atI_nat {α : Type} {xs : List α} {i : Int} (h0 : 0 ≤ i) (h1 : i < xs.length) : atI xs i = xs[i.toNat]? := by
  unfold atI ixN
  rw [if_pos h0, if_pos h1]
  rfl
/-- a text among texts -/
theorem in_strs {z : Str} {zs : List Str} {Q : D → Prop} (q : Q (.bl (decide (z ∈ zs)))) (hn : zs.length ≤ 1000) : rdIn (.str z) (.lst (zs.map .str)) Q := by
  have e : inD (.str z) (.lst (zs.map .str)) = some (decide (z ∈ zs)) := inD_strs z zs
  unfold rdIn
  rw [e]
  exact q
end KP
/-! KP5: how a kind is read from signs, with no program in sight. -/
namespace KP
open PySem L2 FP
variable [FP.Tabl]
abbrev Rows := List (List Kd)
def takeEnd (pre : Rows) (row : List Kd) (w : Bool) (s : Str) : Bool × Rows × Bool :=
  if w then (false, pre ++ [row], w) else if s = " -> " then (true, pre ++ [row], true) else
    match pre.getLast?, row.getLast? with
    | some r0, some k => if 2 ≤ row.length ∧ k.as = [] then (true, pre.dropLast ++ [r0 ++ [.mk row.dropLast k.a]], false) else (false, pre, false)
    | _, _ => (false, pre, false)
def take1 (pre : Rows) (row : List Kd) (w : Bool) (s : Str) : Bool × Rows × Bool :=
  if s = "(" then (w && decide (pre.length + 2 ≤ 5), pre ++ [row] ++ [[]], w)
  else if s = " -> " ∨ s = ")" then takeEnd pre row w s
  else (w && isWordS s, pre ++ [row ++ [.mk [] s]], false)
/-! ### shapes are shaped -/
theorem shDs_of {n : Nat} : ∀ {ds : List D}, (∀ d ∈ ds, shD n d = true) → shDs n ds = true
  | [], _ => by rw [shDs]
  | d :: r, h => by
    rw [shDs, h d List.mem_cons_self, shDs_of fun e he => h e (List.mem_cons_of_mem _ he)]
    rfl
end KP
/-! KP6: the signs of a text, and the shape that they tell, with no program in sight. -/
namespace KP
open PySem L2 FP
variable [FP.Tabl]
def isL (c : Nat) : Bool := decide (c ∈ letters)
def arrowL : List Nat := (" -> " : Str).cps.toList
def parL : List Nat := ("()" : Str).cps.toList
def lexO : Nat → List Nat → Option (List Str)
  | _, [] => some []
  | 0, _ :: _ => none
  | n + 1, c :: r =>
    if isL c = true then (lexO n (r.dropWhile isL)).map (List.cons (⟨(c :: r.takeWhile isL).toArray⟩ : Str))
    else if (c :: r).take 4 = arrowL then (lexO n (r.drop 3)).map (List.cons (" -> " : Str))
    else if c ∈ parL then (lexO n r).map (List.cons (⟨#[c]⟩ : Str))
    else none
def lexS (z : Str) : Option (List Str) := lexO z.cps.toList.length z.cps.toList
theorem lexO_nil (n : Nat) : lexO n [] = some [] := by cases n <;> rfl
theorem lexO_fuel : ∀ (n m : Nat) (xs : List Nat), xs.length ≤ n → xs.length ≤ m → lexO n xs = lexO m xs
  | n, m, [], _, _ => by rw [lexO_nil, lexO_nil]
  | 0, _, _ :: _, h, _ => by simp at h
  | _, 0, _ :: _, _, h => by simp at h
  | n + 1, m + 1, c :: r, h, h' => by
    have h1 : r.length ≤ n := by simpa using h
    have h2 : r.length ≤ m := by simpa using h'
    have hd : (r.dropWhile isL).length ≤ r.length := (List.dropWhile_sublist isL).length_le
    have hp : (r.drop 3).length ≤ r.length := by simp
    rw [lexO, lexO, lexO_fuel n m _ (Nat.le_trans hd h1) (Nat.le_trans hd h2), lexO_fuel n m _ (Nat.le_trans hp h1) (Nat.le_trans hp h2), lexO_fuel n m r h1 h2]
theorem lexO_cons (c : Nat) (r : List Nat) : lexO (c :: r).length (c :: r) =
    if isL c = true then (lexO (r.dropWhile isL).length (r.dropWhile isL)).map (List.cons (⟨(c :: r.takeWhile isL).toArray⟩ : Str))
    else if (c :: r).take 4 = arrowL then (lexO (r.drop 3).length (r.drop 3)).map (List.cons (" -> " : Str))
    else if c ∈ parL then (lexO r.length r).map (List.cons (⟨#[c]⟩ : Str))
    else none := by
  have hd : (r.dropWhile isL).length ≤ r.length := (List.dropWhile_sublist isL).length_le
  have hp : (r.drop 3).length ≤ r.length := by simp
  rw [List.length_cons, lexO, lexO_fuel r.length _ _ hd (Nat.le_refl _), lexO_fuel r.length _ _ hp (Nat.le_refl _)]
/-- what is found so far, and the rest -/
def Lex (z : Str) (found : List Str) (rest : List Nat) : Prop := lexS z = (lexO rest.length rest).map (found ++ ·)
theorem Lex.start (z : Str) : Lex z [] z.cps.toList := by
  unfold Lex lexS
  cases lexO z.cps.toList.length z.cps.toList <;> rfl
theorem Lex.stop {z : Str} {found : List Str} (h : Lex z found []) : lexS z = some found := by
  unfold Lex at h
  rw [h, lexO_nil]
  simp
theorem Lex.step {z : Str} {found : List Str} {rest rest' : List Nat} {s : Str} (h : Lex z found rest) (e : lexO rest.length rest = (lexO rest'.length rest').map (List.cons s)) : Lex z (found ++ [s]) rest' := by
  unfold Lex at h ⊢
  rw [h, e]
  cases lexO rest'.length rest' with
  | none => rfl
  | some ss => simp
theorem Lex.par {z : Str} {found : List Str} {c : Nat} {r : List Nat} (h : Lex z found (c :: r)) (hc : isL c = false) (ha : ¬ (c :: r).take 4 = arrowL) (hp : c ∈ parL) : Lex z (found ++ [⟨#[c]⟩]) r :=
  h.step (by rw [lexO_cons, if_neg (by rw [hc]; exact Bool.false_ne_true), if_neg ha, if_pos hp])
/-! ### places of a text -/
/-! ### signs are parts of the text -/
/-! ### the shape -/
/-- what holds between signs -/
structure RInv (rows : Rows) (w : Bool) (left : Nat) : Prop where
  ne : rows ≠ []
  n : rows.length ≤ 5
  len : ∀ row ∈ rows, row.length + left ≤ 1000
  k : ∀ (j : Nat) (row : List Kd), rows[j]? = some row → ∀ k ∈ row, ord k + j ≤ 4 ∧ ∀ z ∈ places k, PyData.strOk z = true
  last : w = false → ∀ row, rows.getLast? = some row → row ≠ []
theorem RInv.start (n : Nat) (h : n ≤ 1000) : RInv [[]] true n := by
  refine ⟨by simp, by simp, fun row hr => ?_, fun j row hr k hk => ?_, fun h => by cases h⟩
  · rw [List.mem_singleton.mp hr]
    simpa using h
  · have := List.mem_of_getElem? hr
    rw [List.mem_singleton.mp this] at hk
    cases hk
theorem snoc_get {α : Type} {pre : List α} {x y : α} {j : Nat} (h : (pre ++ [x])[j]? = some y) : pre[j]? = some y ∨ (j = pre.length ∧ y = x) := by
  by_cases hj : j < pre.length
  · rw [List.getElem?_append_left hj] at h
    exact .inl h
  · rw [List.getElem?_append_right (by omega)] at h
    cases q : j - pre.length with
    | zero =>
      rw [q] at h
      exact .inr ⟨by omega, (Option.some.inj h).symm⟩
    | succ m =>
      rw [q] at h
      simp at h
theorem RInv.put {pre : Rows} {row : List Kd} {w w' : Bool} {n : Nat} {k : Kd} (h : RInv (pre ++ [row]) w (n + 1)) (h1 : ord k + pre.length ≤ 4) (h2 : ∀ z ∈ places k, PyData.strOk z = true) : RInv (pre ++ [row ++ [k]]) w' n := by
  refine ⟨by simp, ?_, fun r hr => ?_, fun j r hr i hi => ?_, fun _ r hr => ?_⟩
  · have := h.n
    simpa using this
  · rcases List.mem_append.mp hr with q | q
    · have := h.len r (List.mem_append_left _ q)
      omega
    · rw [List.mem_singleton.mp q, List.length_append]
      have := h.len row (by simp)
      have e : [k].length = 1 := rfl
      omega
  · rcases snoc_get hr with q | ⟨ej, er⟩
    · refine h.k j r ?_ i hi
      rw [List.getElem?_append_left (List.getElem?_eq_some_iff.mp q).1]
      exact q
    · rw [er] at hi
      rcases List.mem_append.mp hi with z | z
      · refine h.k j row ?_ i z
        rw [ej, List.getElem?_append_right (Nat.le_refl _), Nat.sub_self]
        rfl
      · rw [List.mem_singleton.mp z, ej]
        exact ⟨h1, h2⟩
  · simp at hr
    rw [← hr]
    simp
theorem RInv.take {pre : Rows} {row : List Kd} {w : Bool} {n : Nat} {s : Str} (h : RInv (pre ++ [row]) w (n + 1)) (hs : PyData.strOk s = true) (ht : (take1 pre row w s).1 = true) : RInv (take1 pre row w s).2.1 (take1 pre row w s).2.2 n := by
  unfold take1 at ht ⊢
  by_cases h1 : s = "("
  · rw [if_pos h1] at ht ⊢
    rw [Bool.and_eq_true, decide_eq_true_eq] at ht
    obtain ⟨hw, hn⟩ := ht
    show RInv (pre ++ [row] ++ [[]]) w n
    refine ⟨by simp, ?_, fun r hr => ?_, fun j r hr i hi => ?_, fun hf => by rw [hw] at hf; cases hf⟩
    · rw [List.length_append, List.length_append]
      exact hn
    · rcases List.mem_append.mp hr with q | q
      · have := h.len r q
        omega
      · rw [List.mem_singleton.mp q]
        have := h.len row (by simp)
        show 0 + n ≤ _
        omega
    · rcases snoc_get hr with q | ⟨_, er⟩
      · exact h.k j r q i hi
      · rw [er] at hi
        cases hi
  · rw [if_neg h1] at ht ⊢
    by_cases h2 : s = " -> " ∨ s = ")"
    · rw [if_pos h2] at ht ⊢
      unfold takeEnd at ht ⊢
      cases w with
      | true =>
        rw [if_pos rfl] at ht
        cases ht
      | false =>
      rw [if_neg Bool.false_ne_true] at ht ⊢
      by_cases h3 : s = " -> "
      · rw [if_pos h3]
        refine ⟨h.ne, h.n, fun r hr => ?_, h.k, fun hf => by cases hf⟩
        have := h.len r hr
        omega
      · rw [if_neg h3] at ht ⊢
        rcases List.eq_nil_or_concat pre with rfl | ⟨pre', r0, rfl⟩
        · simp at ht
        · rw [List.concat_eq_append] at *
          rcases List.eq_nil_or_concat row with rfl | ⟨row', k, rfl⟩
          · simp at ht
          · rw [List.concat_eq_append] at *
            simp only [List.getLast?_append, List.getLast?_singleton, Option.some_or, List.dropLast_concat] at ht ⊢
            by_cases h4 : 2 ≤ (row' ++ [k]).length ∧ k.as = []
            · rw [if_pos h4]
              have hr : (pre' ++ [r0] ++ [row' ++ [k]])[pre'.length + 1]? = some (row' ++ [k]) := by
                rw [List.getElem?_append_right (by simp)]
                simp
              have hk := h.k _ _ hr
              have h5 : RInv (pre' ++ [r0]) true (n + 1) := by
                refine ⟨by simp, ?_, fun r hr => h.len r (List.mem_append_left _ hr), fun j r hr i hi => ?_, fun hf => by cases hf⟩
                · have := h.n
                  rw [List.length_append] at this
                  omega
                · refine h.k j r ?_ i hi
                  rw [List.getElem?_append_left (List.getElem?_eq_some_iff.mp hr).1]
                  exact hr
              refine h5.put ?_ ?_
              · have : ordL row' ≤ 4 - pre'.length := ordL_le fun i hi => by
                  have := (hk i (List.mem_append_left _ hi)).1
                  omega
                have h6 := (hk k (by simp)).1
                show ordL row' + pre'.length ≤ 4
                omega
              · intro z hz
                rw [places] at hz
                rcases List.mem_append.mp hz with q | q
                · rw [placesL_map] at q
                  obtain ⟨l, hl, hzl⟩ := List.mem_flatten.mp q
                  obtain ⟨i, hi, rfl⟩ := List.mem_map.mp hl
                  exact (hk i (List.mem_append_left _ hi)).2 z hzl
                · have e := List.mem_singleton.mp q
                  refine (hk k (by simp)).2 z ?_
                  rw [e]
                  cases k with
                  | mk as a =>
                    rw [places]
                    simp [Kd.a]
            · rw [if_neg h4] at ht
              cases ht
    · rw [if_neg h2]
      refine h.put ?_ ?_
      · show ordL [] + _ ≤ 4
        have := h.n
        rw [List.length_append] at this
        have e : [row].length = 1 := rfl
        rw [ordL]
        omega
      · intro z hz
        rw [places, placesL] at hz
        rw [List.mem_singleton.mp hz]
        exact hs
end KP
/-! KP7: the loops over the signs of a text, by data. -/
namespace KP
open PySem L2 FP
variable [FP.Tabl]
/-- between the signs -/
def LI (z : Str) (m : Nat) (ρ : FP.Env) : Prop := ∃ (pre rest : List Nat) (found : List Str) (o : Sl), z.cps.toList = pre ++ rest ∧ m = rest.length ∧ ρ = [Sl.d (.str z), Sl.own (found.map .str), Sl.d (.int (pre.length : Int)), o] ∧ Lex z found rest ∧ found.length ≤ pre.length
theorem LI.start (z : Str) (o : Sl) : LI z z.cps.toList.length [Sl.d (.str z), Sl.own [], Sl.d (.int 0), o] := ⟨[], _, [], o, rfl, rfl, rfl, Lex.start z, Nat.le_refl _⟩
end KP
/-! KP8: what is told of plain kinds; what is read. -/
namespace KP
open PySem L2 FP
end KP
/-! KP9: readings of kinds; facts of parts and signed atoms. -/
namespace KP
open PySem L2 FP
variable [FP.Tabl]
/-! ### shaped data -/
theorem sh_str {n : Nat} {z : Str} (h : PyData.strOk z = true) : shD n (.str z) = true := by rw [shD]; exact h
theorem sh_int {n : Nat} {i : Int} : shD n (.int i) = true := by rw [shD]
theorem sh_lst {n : Nat} {xs : List D} (h : shDs n xs = true) : shD (n + 1) (.lst xs) = true := by rw [shD]; exact h
theorem sh_tup {n : Nat} {xs : List D} (h : shDs n xs = true) : shD (n + 1) (.tup xs) = true := by rw [shD]; exact h
theorem sh_nil {n : Nat} : shDs n [] = true := by rw [shDs]
theorem sh_cons {n : Nat} {x : D} {xs : List D} (h : shD n x = true) (h' : shDs n xs = true) : shDs n (x :: xs) = true := by
  rw [shDs, h, h']
  rfl
/-! ### parts, signed atoms -/
def f_law : List D → M D := fun ds Q _ => match ds with
  | [.fz xs] => (∃ ns : List Int, xs = ns.map D.int ∧ ns.length ≤ 63) ∧ Q (.bl true)
  | _ => False
end KP
/-! KP10: parts of parts; readings of rows of texts. -/
namespace KP
open PySem L2 FP
variable [FP.Tabl]
theorem eq_int {a b : Int} {Q : D → Prop} (q : Q (.bl (decide (a = b)))) : rdEq (.int a) (.int b) Q := q
end KP
/-! KP11: kinds changed: one kind in the place of an atom, other atoms; what is too large. -/
namespace KP
open PySem L2 FP
variable [FP.Tabl]
/-! ### a kind in the place of an atom -/
mutual
def put (z : Str) (j : Kd) : Kd → Kd
  | .mk as a => if a = z then .mk (putL z j as ++ j.as) j.a else .mk (putL z j as) a
def putL (z : Str) (j : Kd) : List Kd → List Kd
  | [] => []
  | k :: r => put z j k :: putL z j r
end
/-! ### other atoms -/
/-! ### sizes -/
theorem ordL_app : ∀ xs ys : List Kd, ordL (xs ++ ys) = max (ordL xs) (ordL ys)
  | [], ys => by rw [List.nil_append, ordL]; omega
  | x :: xs, ys => by
    rw [List.cons_append, ordL, ordL, ordL_app xs ys]
    omega
/-! ### what is made, or is too large -/
/-! ### the law's own helpers -/
/-- a kind that may be too large -/
structure Mid (k : Kd) : Prop where
  w : ∀ z ∈ places k, isWordS z = true
  p : (places k).length ≤ 300
theorem Mid.kid {as : List Kd} {a : Str} (g : Mid (.mk as a)) {k : Kd} (h : k ∈ as) : Mid k := by
  refine ⟨fun z hz => g.w z ?_, ?_⟩
  · rw [places]
    exact List.mem_append_left _ (placesL_mem hz h)
  · have h1 := g.p
    rw [places, List.length_append] at h1
    have := placesL_len h
    omega
theorem cut_from (xs : List D) {n : Int} (h0 : 0 ≤ n) (h1 : n ≤ xs.length) : cutD xs (some n) none = xs.drop n.toNat := by
  unfold cutD
  have e1 : HT.sIx xs.length 0 (some n) = n.toNat := by
    show (if n < 0 then (n + (xs.length : Int)).toNat else min n.toNat xs.length) = _
    rw [if_neg (by omega)]
    omega
  have e2 : HT.sIx xs.length xs.length none = xs.length := rfl
  rw [e1, e2]
  exact List.take_of_length_le (by rw [List.length_drop]; exact Nat.le_refl _)
theorem Good.drop {as : List Kd} {a : Str} (g : Good (.mk as a)) (n : Nat) : Good (.mk (as.drop n) a) := by
  have e := List.take_append_drop n as
  have h1 : placesL as = placesL (as.take n) ++ placesL (as.drop n) := by rw [← placesL_app, e]
  have h2 : ordL as = max (ordL (as.take n)) (ordL (as.drop n)) := by rw [← ordL_app, e]
  refine ⟨fun z hz => g.w z ?_, ?_, ?_⟩
  · rw [places] at hz ⊢
    rcases List.mem_append.mp hz with q | q
    · exact List.mem_append_left _ (by rw [h1]; exact List.mem_append_right _ q)
    · exact List.mem_append_right _ q
  · have := g.p
    rw [places, List.length_append, h1, List.length_append] at this
    rw [places, List.length_append]
    omega
  · have := g.o
    rw [ord, h2] at this
    rw [ord]
    omega
theorem ne_int0 {a b : Int} {Q : D → Prop} (h : a = b) (q : Q (.bl false)) : rdNe (.int a) (.int b) Q := by
  show Q (.bl (!decide (a = b)))
  rw [decide_eq_true h]
  exact q
end KP
/-! KP12: readings of operators and methods of kinds; drawn dicts. -/
namespace KP
open PySem L2 FP
end KP
/-! KP13: the text of a kind is read as this kind. -/
namespace KP
open PySem L2 FP
variable [FP.Tabl]
/-! ### the signs of a kind -/
mutual
def sigs : Kd → List Str
  | .mk as a => sigsL as ++ [a]
def sigsL : List Kd → List Str
  | [] => []
  | k :: r => (if k.as.isEmpty then sigs k else ("(" : Str) :: (sigs k ++ [(")" : Str)])) ++ ((" -> " : Str) :: sigsL r)
end
end KP
/-! KP14: the text of a kind is its signs. -/
namespace KP
open PySem L2 FP
variable [FP.Tabl]
def flat (ss : List Str) : List Nat := (ss.map fun s => s.cps.toList).flatten
/-! ### the signs of a kind stand apart -/
end KP
/-! KP15: kinds grown step by step (k09). -/
namespace KP
open PySem L2 FP
variable [FP.Tabl]
theorem Kd.places_eq (i : Kd) : places i = placesL i.as ++ [i.a] := by cases i with | mk bs b => rw [places]; rfl
theorem Kd.len_eq (i : Kd) : (places i).length = (placesL i.as).length + 1 := by rw [i.places_eq, List.length_append]; rfl
end KP
/-! KP16: kinds in the place of atoms, one behind the other; names there and back. -/
namespace KP
open PySem L2 FP
/-! ### names there and back -/
end KP
/-! KP17: promises of the law k06. -/
namespace KP
open PySem L2 FP
variable [FP.Tabl]
theorem in_strsT {z : Str} {zs : List Str} {Q : D → Prop} (q : Q (.bl (decide (z ∈ zs)))) : rdIn (.str z) (.tup (zs.map .str)) Q := by
  have e : inD (.str z) (.tup (zs.map .str)) = some (decide (z ∈ zs)) := inD_strs z zs
  unfold rdIn
  rw [e]
  exact q
theorem nodup_len_le {α : Type} [DecidableEq α] : ∀ {xs ys : List α}, xs.Nodup → (∀ x ∈ xs, x ∈ ys) → xs.length ≤ ys.length
  | [], _, _, _ => Nat.zero_le _
  | x :: xs, ys, hn, h => by
    rw [List.nodup_cons] at hn
    have hx := h x List.mem_cons_self
    have h2 : ∀ y ∈ xs, y ∈ ys.erase x := fun y hy => by
      have ne : y ≠ x := fun q => hn.1 (by rw [← q]; exact hy)
      exact (List.mem_erase_of_ne ne).mpr (h y (List.mem_cons_of_mem _ hy))
    have ih := nodup_len_le hn.2 h2
    have e := List.length_erase_of_mem hx
    have pos : 0 < ys.length := List.length_pos_of_mem hx
    rw [List.length_cons]
    omega
/-! ### sizes -/
end KP
namespace KP
open PySem L2 FP
end KP
/-! KP18: a text is read exactly if it is the text of a kind: both readers, with no program in sight. -/
namespace KP
open PySem L2 FP
variable [FP.Tabl]
/-! ### signs -/
/-- the signs of a kind as an argument -/
def item (k : Kd) : List Str := if k.as.isEmpty then sigs k else ("(" : Str) :: (sigs k ++ [(")" : Str)])
theorem sigsL_cons (k : Kd) (r : List Kd) : sigsL (k :: r) = item k ++ ((" -> " : Str) :: sigsL r) := by
  rw [sigsL]
  rfl
theorem sigsL_app : ∀ xs ys : List Kd, sigsL (xs ++ ys) = sigsL xs ++ sigsL ys
  | [], ys => by rw [List.nil_append, sigsL, List.nil_append]
  | k :: r, ys => by rw [List.cons_append, sigsL_cons, sigsL_cons, sigsL_app r ys, List.append_assoc, List.cons_append]
theorem sigsL_one (k : Kd) : sigsL [k] = item k ++ [(" -> " : Str)] := by rw [sigsL_cons, sigsL]
theorem sigs_eq (k : Kd) : sigs k = sigsL k.as ++ [k.a] := by
  cases k with
  | mk as a => rw [sigs]; rfl
theorem item_plain {k : Kd} (h : k.as = []) : item k = [k.a] := by
  unfold item
  rw [h, sigs_eq, h, sigsL]
  rfl
theorem item_par {k : Kd} (h : k.as ≠ []) : item k = ("(" : Str) :: (sigs k ++ [(")" : Str)]) := by
  unfold item
  rw [if_neg fun q => h (List.isEmpty_iff.mp q)]
/-! ### the package's reader -/
def pres (pre : Rows) : List Str := (pre.map fun p => sigsL p ++ [("(" : Str)]).flatten
theorem pres_snoc (pre : Rows) (row : List Kd) : pres (pre ++ [row]) = pres pre ++ (sigsL row ++ [("(" : Str)]) := by
  unfold pres
  rw [List.map_append, List.flatten_append]
  simp
def RdOk (rows : Rows) : Prop := ∀ row ∈ rows, ∀ k ∈ row, ∀ z ∈ places k, isWordS z = true
def St (done : List Str) (pre : Rows) (row : List Kd) : Bool → Prop
  | true => done = pres pre ++ sigsL row
  | false => ∃ (r : List Kd) (k : Kd), row = r ++ [k] ∧ done = pres pre ++ (sigsL r ++ item k)
theorem RdOk.more {pre : Rows} {row : List Kd} (h : RdOk (pre ++ [row])) {k : Kd} (hk : ∀ z ∈ places k, isWordS z = true) : RdOk (pre ++ [row ++ [k]]) := fun r hr j hj => by
  rcases List.mem_append.mp hr with q | q
  · exact h r (List.mem_append_left _ q) j hj
  · rw [List.mem_singleton.mp q] at hj
    rcases List.mem_append.mp hj with q2 | q2
    · exact h row (List.mem_append_right _ (List.mem_singleton.mpr rfl)) j q2
    · rw [List.mem_singleton.mp q2]
      exact hk
theorem St.step {done : List Str} {pre : Rows} {row : List Kd} {w : Bool} {s : Str} (h : St done pre row w) (hr : RdOk (pre ++ [row])) (ht : (take1 pre row w s).1 = true) :
    ∃ (pre' : Rows) (row' : List Kd), (take1 pre row w s).2.1 = pre' ++ [row'] ∧ St (done ++ [s]) pre' row' (take1 pre row w s).2.2 ∧ RdOk (pre' ++ [row']) := by
  unfold take1 at ht ⊢
  by_cases h1 : s = "("
  · subst h1
    rw [if_pos rfl] at ht ⊢
    have hw : w = true := by
      have := Bool.and_eq_true_iff.mp ht
      exact this.1
    subst hw
    refine ⟨pre ++ [row], [], rfl, ?_, fun r hr' j hj => ?_⟩
    · show done ++ [("(" : Str)] = pres (pre ++ [row]) ++ sigsL []
      have h' : done = pres pre ++ sigsL row := h
      rw [pres_snoc, sigsL, List.append_nil, h', List.append_assoc]
    · rcases List.mem_append.mp hr' with q | q
      · exact hr r q j hj
      · rw [List.mem_singleton.mp q] at hj
        cases hj
  rw [if_neg h1] at ht ⊢
  by_cases h2 : s = " -> " ∨ s = ")"
  · rw [if_pos h2] at ht ⊢
    unfold takeEnd at ht ⊢
    cases w with
    | true => cases ht
    | false =>
      rw [if_neg Bool.false_ne_true] at ht ⊢
      obtain ⟨r, k, rfl, hd⟩ := h
      by_cases h3 : s = " -> "
      · subst h3
        rw [if_pos rfl] at ht ⊢
        refine ⟨pre, r ++ [k], rfl, ?_, hr⟩
        show done ++ [(" -> " : Str)] = pres pre ++ sigsL (r ++ [k])
        rw [hd, sigsL_app, sigsL_one]
        simp [List.append_assoc]
      · have h4 : s = ")" := h2.resolve_left h3
        subst h4
        rw [if_neg h3] at ht ⊢
        rw [List.getLast?_concat] at ht ⊢
        cases hp : pre.getLast? with
        | none =>
          rw [hp] at ht
          cases ht
        | some r0 =>
          rw [hp] at ht
          dsimp only at ht ⊢
          split at ht
          case isFalse => cases ht
          rename_i hc
          rw [if_pos hc]
          have hpre : pre = pre.dropLast ++ [r0] := by
            cases pre with
            | nil => cases hp
            | cons x xs =>
              have e := List.dropLast_concat_getLast (l := x :: xs) (List.cons_ne_nil _ _)
              rw [List.getLast?_eq_some_getLast (List.cons_ne_nil _ _)] at hp
              rw [Option.some.inj hp] at e
              exact e.symm
          generalize pre.dropLast = pp at hpre ⊢
          subst hpre
          have hrr : r ≠ [] := fun q => by
            subst q
            have := hc.1
            simp at this
          refine ⟨pp, r0 ++ [.mk (r ++ [k]).dropLast k.a], rfl, ⟨r0, .mk (r ++ [k]).dropLast k.a, rfl, ?_⟩, ?_⟩
          · rw [List.dropLast_concat, item_par (k := .mk r k.a) hrr, hd, pres_snoc, item_plain hc.2, sigs_eq]
            simp [List.append_assoc]
            rfl
          · rw [List.dropLast_concat]
            refine RdOk.more (fun q hq => hr q (List.mem_append_left _ hq)) fun z hz => ?_
            rw [places] at hz
            have hrow : ∀ j ∈ r ++ [k], ∀ z ∈ places j, isWordS z = true := hr _ (List.mem_append_right _ (List.mem_singleton.mpr rfl))
            rcases List.mem_append.mp hz with q | q
            · rw [placesL_map] at q
              obtain ⟨x, hx1, hx2⟩ := List.mem_flatten.mp q
              obtain ⟨j, hj1, rfl⟩ := List.mem_map.mp hx1
              exact hrow j (List.mem_append_left _ hj1) z hx2
            · rw [List.mem_singleton.mp q]
              refine hrow k (List.mem_append_right _ (List.mem_singleton.mpr rfl)) k.a ?_
              rw [k.places_eq]
              simp
  · rw [if_neg h2] at ht ⊢
    have hw := Bool.and_eq_true_iff.mp ht
    have hw1 : w = true := hw.1
    subst hw1
    have h' : done = pres pre ++ sigsL row := h
    refine ⟨pre, row ++ [.mk [] s], rfl, ⟨row, .mk [] s, rfl, ?_⟩, hr.more fun z hz => ?_⟩
    · rw [h', item_plain (k := .mk [] s) rfl, List.append_assoc]
      rfl
    · rw [places, placesL] at hz
      rw [List.mem_singleton.mp hz]
      exact hw.2
/-! ### the kind of a text -/
end KP
/-! KP19: the reader of law k04, with no program in sight. -/
namespace KP
open PySem L2 FP
variable [FP.Tabl]
abbrev Rd := List Nat → Option (Kd × List Nat)
/-! ### sound -/
/-! ### complete -/
def stops (r : List Nat) : Prop := r = [] ∨ ∃ r', r = 41 :: r'
/-! ### parentheses -/
/-! ### what the law finds due -/
end KP
/-! KP20: what the defs about texts of kinds promise (k04). -/
namespace KP
open PySem L2 FP
end KP
/-! KP21: what the defs about kinds promise of any arguments (k07). -/
namespace KP
open PySem L2 FP
variable [FP.Tabl]
def okI : D → Prop
  | .ins c _ => c = "Type"
  | d => okV d
theorem okV.i {d : D} (h : okV d) : okI d := by
  cases d with
  | ins c fs => exact h.elim
  | _ => exact h
/-! ### words and numbers -/
/-! ### dicts of any data -/
/-! ### making -/
/-! ### reading -/
/-! ### the word for an error -/
end KP
/-! KP22: wrong arguments, as law k07 draws them. -/
namespace KP
open PySem L2 FP
variable [FP.Tabl]
/-- no word -/
structure OddP (d : D) : Prop where
  v : okV d
  w : isWordD d = false
theorem OddP.no {d : D} (h : OddP d) {a : Str} (e : d = .str a) (hw : isWordS a = true) {α : Prop} : α := by
  subst e
  have h2 : isWordS a = false := h.w
  rw [hw] at h2
  cases h2
end KP
/-! KP23: law k07's calls that are refused. -/
namespace KP
open PySem L2 FP
variable [FP.Tabl]
theorem pkN {n : Nat} (h : (Nat.blt 0 n && Nat.blt n 1073741824) = true) : 0 < n ∧ n < 1073741824 := by
  rw [Bool.and_eq_true, Nat.blt_eq, Nat.blt_eq] at h
  exact h
end KP
/-! KP24: wrong indices, operands and names, as law k07 draws them. -/
namespace KP
open PySem L2 FP
variable [FP.Tabl]
/-! ### dicts made of rows of pairs -/
/-! ### wrong dicts of names -/
/-! ### calls on known kinds -/
theorem seq_asg {f : DTE} {g : DTS} {N : Nd} {ρ ρ' : FP.Env} {T : Tg} (d : D) (hf : Ev f ρ d) (hp : T.put d ρ = some ρ') (hg : g N ρ') : dSeq (dAsg T f) g N ρ := hf _ _ ⟨ρ', hp, hg⟩
end KP
/-! KP25: plain libraries. -/
namespace KP
open PySem L2 FP
variable [FP.Tabl]
noncomputable instance : DecidableEq Kd := fun _ _ => Classical.propDecidable _
abbrev Lib := List (Str × Kd)
def keysL (L : Lib) : List Str := L.map (·.1)
def getL (L : Lib) (z : Str) : Option Kd := (L.find? fun p => decide (p.1 = z)).map (·.2)
theorem getL_nil (z : Str) : getL [] z = none := rfl
theorem getL_cons (p : Str × Kd) (L : Lib) (z : Str) : getL (p :: L) z = if p.1 = z then some p.2 else getL L z := by
  unfold getL
  rw [List.find?_cons]
  by_cases q : p.1 = z <;> simp [q]
theorem getL_app (L M : Lib) (z : Str) : getL (L ++ M) z = (getL L z).or (getL M z) := by
  induction L with
  | nil => rfl
  | cons p r ih =>
    rw [List.cons_append, getL_cons, getL_cons, ih]
    by_cases q : p.1 = z
    · rw [if_pos q, if_pos q]
      rfl
    · rw [if_neg q, if_neg q]
theorem getL_out {L : Lib} {z : Str} : getL L z = none ↔ z ∉ keysL L := by
  induction L with
  | nil => simp [getL, keysL]
  | cons p r ih =>
    rw [getL_cons]
    by_cases q : p.1 = z
    · rw [if_pos q]
      simp [keysL, q]
    · rw [if_neg q, ih]
      simp [keysL, Ne.symm q]
theorem getL_some {L : Lib} {z : Str} {k : Kd} (h : getL L z = some k) : (z, k) ∈ L := by
  induction L with
  | nil => cases h
  | cons p r ih =>
    rw [getL_cons] at h
    by_cases q : p.1 = z
    · rw [if_pos q] at h
      cases h
      rw [← q]
      exact List.mem_cons_self
    · rw [if_neg q] at h
      exact List.mem_cons_of_mem _ (ih h)
theorem getL_of {L : Lib} (nd : (keysL L).Nodup) {z : Str} {k : Kd} (h : (z, k) ∈ L) : getL L z = some k := by
  induction L with
  | nil => cases h
  | cons p r ih =>
    have nd2 : (p.1 :: keysL r).Nodup := nd
    rw [List.nodup_cons] at nd2
    rw [getL_cons]
    rcases List.mem_cons.mp h with e | e
    · rw [← e, if_pos rfl]
    · have hm : z ∈ keysL r := List.mem_map.mpr ⟨_, e, rfl⟩
      rw [if_neg fun q => nd2.1 (by rw [q]; exact hm)]
      exact ih nd2.2 e
theorem getL_in {L : Lib} {z : Str} (h : z ∈ keysL L) : ∃ k, getL L z = some k ∧ (z, k) ∈ L := by
  cases q : getL L z with
  | none => exact absurd h (getL_out.mp q)
  | some k => exact ⟨k, rfl, getL_some q⟩
theorem key_in {L : Lib} {z : Str} {k : Kd} (h : getL L z = some k) : z ∈ keysL L := List.mem_map.mpr ⟨_, getL_some h, rfl⟩
/-- libraries with the same parts -/
def sameL (L M : Lib) : Prop := ∀ z, getL L z = getL M z
theorem sameL.keys {L M : Lib} (h : sameL L M) (z : Str) : z ∈ keysL L ↔ z ∈ keysL M := by
  constructor
  · intro m
    obtain ⟨k, hk, _⟩ := getL_in m
    rw [h z] at hk
    exact key_in hk
  · intro m
    obtain ⟨k, hk, _⟩ := getL_in m
    rw [← h z] at hk
    exact key_in hk
theorem sameL.symm {L M : Lib} (h : sameL L M) : sameL M L := fun z => (h z).symm
theorem sameL.trans {L M N : Lib} (h : sameL L M) (g : sameL M N) : sameL L N := fun z => (h z).trans (g z)
/-- a library as the package has them -/
structure LibG (L : Lib) : Prop where
  nd : (keysL L).Nodup
  w : ∀ p ∈ L, isWordS p.1 = true
  g : ∀ p ∈ L, Good p.2
theorem LibG.same {L M : Lib} (h : LibG L) (s : sameL L M) (nm : (keysL M).Nodup) : LibG M := by
  have m : ∀ p ∈ M, p ∈ L := fun p hp => by
    have e := getL_of nm (show (p.1, p.2) ∈ M from hp)
    rw [← s p.1] at e
    exact getL_some e
  exact ⟨nm, fun p hp => h.w p (m p hp), fun p hp => h.g p (m p hp)⟩
theorem LibG.sub {L M : Lib} (h : LibG L) (s : M.Sublist L) : LibG M := ⟨h.nd.sublist (s.map _), fun p hp => h.w p (s.subset hp), fun p hp => h.g p (s.subset hp)⟩
theorem LibG.kid {L : Lib} (h : LibG L) {z : Str} {k : Kd} (e : getL L z = some k) : Good k := h.g _ (getL_some e)
theorem LibG.nil : LibG [] := ⟨List.nodup_nil, fun _ h => absurd h List.not_mem_nil, fun _ h => absurd h List.not_mem_nil⟩
/-! ### lines, texts -/
/-! ### dicts of libraries -/
/-- a part more, or another kind of one -/
def putL1 (L : Lib) (z : Str) (k : Kd) : Lib := if z ∈ keysL L then L.map (fun p => if p.1 = z then (p.1, k) else p) else L ++ [(z, k)]
theorem get_put (L : Lib) (z : Str) (k : Kd) (y : Str) : getL (putL1 L z k) y = if y = z then some k else getL L y := by
  unfold putL1
  by_cases hz : z ∈ keysL L
  · rw [if_pos hz]
    induction L with
    | nil => cases hz
    | cons p r ih =>
      rw [List.map_cons, getL_cons, getL_cons]
      have ih2 : getL (r.map fun p => if p.1 = z then (p.1, k) else p) y = if y = z ∧ z ∈ keysL r then some k else getL r y := by
        by_cases hr : z ∈ keysL r
        · rw [ih hr]
          by_cases q : y = z <;> simp [q, hr]
        · have e : (r.map fun p => if p.1 = z then (p.1, k) else p) = r := by
            conv => rhs; rw [← List.map_id r]
            refine List.map_congr_left fun x hx => ?_
            rw [if_neg fun q => hr (List.mem_map.mpr ⟨x, hx, q⟩)]
            rfl
          rw [e, if_neg fun q => hr q.2]
      rw [ih2]
      by_cases q1 : p.1 = z
      · rw [if_pos q1]
        by_cases q2 : y = z
        · rw [if_pos (show p.1 = y by rw [q1, q2]), if_pos q2]
        · have n1 : ¬ p.1 = y := fun e => q2 (by rw [← e, q1])
          have n2 : ¬ (y = z ∧ z ∈ keysL r) := fun c => q2 c.1
          rw [if_neg n1, if_neg n2, if_neg q2, if_neg n1]
      · rw [if_neg q1]
        have hr : z ∈ keysL r := (List.mem_cons.mp (show z ∈ p.1 :: keysL r from hz)).resolve_left fun e => q1 e.symm
        by_cases q2 : y = z
        · rw [if_neg (show ¬ p.1 = y from fun e => q1 (by rw [e, q2])), if_pos ⟨q2, hr⟩, if_pos q2]
        · have n2 : ¬ (y = z ∧ z ∈ keysL r) := fun c => q2 c.1
          rw [if_neg q2, if_neg n2]
  · rw [if_neg hz, getL_app, getL_cons, getL_nil]
    by_cases q : y = z
    · subst q
      rw [getL_out.mpr hz]
      show (if y = y then some k else none) = if y = y then some k else none
      rfl
    · rw [if_neg q, if_neg (show ¬ (z, k).1 = y from Ne.symm q)]
      cases getL L y <;> rfl
theorem keys_put (L : Lib) (z : Str) (k : Kd) : keysL (putL1 L z k) = if z ∈ keysL L then keysL L else keysL L ++ [z] := by
  unfold putL1
  by_cases hz : z ∈ keysL L
  · rw [if_pos hz, if_pos hz]
    unfold keysL
    rw [List.map_map]
    refine List.map_congr_left fun p _ => ?_
    show (if p.1 = z then (p.1, k) else p).1 = p.1
    split <;> rfl
  · rw [if_neg hz, if_neg hz]
    unfold keysL
    rw [List.map_append]
    rfl
theorem nd_put {L : Lib} (nd : (keysL L).Nodup) (z : Str) (k : Kd) : (keysL (putL1 L z k)).Nodup := by
  rw [keys_put]
  split
  · exact nd
  · rename_i hz
    exact List.nodup_append.mpr ⟨nd, by simp, fun a ha b hb e => hz (by rw [List.mem_singleton.mp hb] at e; rw [← e]; exact ha)⟩
theorem LibG.put {L : Lib} (h : LibG L) {z : Str} {k : Kd} (hz : isWordS z = true) (hk : Good k) : LibG (putL1 L z k) := by
  have key : ∀ p ∈ putL1 L z k, p = (z, k) ∨ p ∈ L := fun p hp => by
    have e := getL_of (nd_put h.nd z k) (show (p.1, p.2) ∈ putL1 L z k from hp)
    rw [get_put] at e
    by_cases q : p.1 = z
    · rw [if_pos q] at e
      cases e
      rw [← q]
      exact .inl rfl
    · rw [if_neg q] at e
      exact .inr (getL_some e)
  refine ⟨nd_put h.nd z k, fun p hp => ?_, fun p hp => ?_⟩
  · rcases key p hp with e | e
    · rw [e]
      exact hz
    · exact h.w p e
  · rcases key p hp with e | e
    · rw [e]
      exact hk
    · exact h.g p e
end KP
/-! KP26: what the defs about libraries promise. -/
namespace KP
open PySem L2 FP
variable [FP.Tabl]
/-! ### plain kinds compared -/
mutual
def pyK : Kd → PyData
  | .mk as a => .tuple [.tuple (pyKs as), .str a]
def pyKs : List Kd → List PyData
  | [] => []
  | k :: r => pyK k :: pyKs r
end
mutual
theorem py_plain : ∀ k, toPy (plain k) = some (pyK k)
  | .mk as a => by
    rw [plain_mk, toPy, toPys, toPy, py_plains as, toPys, toPy, toPys, pyK]
theorem py_plains : ∀ ks : List Kd, toPys (ks.map plain) = some (pyKs ks)
  | [] => rfl
  | k :: r => by
    rw [List.map_cons, toPys, py_plain k, py_plains r, pyKs]
end
mutual
theorem eqv_K : ∀ k j : Kd, PyData.eqv (pyK k) (pyK j) = decide (k = j)
  | .mk as a, .mk bs b => by
    rw [pyK, pyK, PyData.eqv, PyData.eqvAll, PyData.eqv, eqv_Ks as bs, PyData.eqvAll, PyData.eqv, PyData.eqvAll, Bool.and_true]
    by_cases h1 : as = bs
    · by_cases h2 : a = b
      · rw [decide_eq_true h1, h1, h2]
        simp
      · rw [decide_eq_true h1, decide_eq_false (p := Kd.mk as a = .mk bs b) fun e => h2 (by cases e; rfl)]
        simp [h2]
    · rw [decide_eq_false h1, decide_eq_false (p := Kd.mk as a = .mk bs b) fun e => h1 (by cases e; rfl), Bool.false_and]
theorem eqv_Ks : ∀ ks js : List Kd, PyData.eqvAll (pyKs ks) (pyKs js) = decide (ks = js)
  | [], [] => by rw [pyKs, PyData.eqvAll]; simp
  | k :: r, [] => by rw [pyKs, pyKs, PyData.eqvAll]; simp
  | [], k :: r => by rw [pyKs, pyKs, PyData.eqvAll]; simp
  | k :: r, j :: t => by
    rw [pyKs, pyKs, PyData.eqvAll, eqv_K k j, eqv_Ks r t]
    by_cases h1 : k = j
    · by_cases h2 : r = t
      · rw [decide_eq_true h1, decide_eq_true h2, decide_eq_true (by rw [h1, h2])]
        rfl
      · rw [decide_eq_true h1, decide_eq_false h2, decide_eq_false fun e => h2 (List.cons.inj e).2]
        rfl
    · rw [decide_eq_false h1, decide_eq_false fun e => h1 (List.cons.inj e).1]
      rfl
end
mutual
theorem sh_plain : ∀ (n : Nat) (k : Kd), (∀ z ∈ places k, isWordS z = true) → 2 * ord k + 2 ≤ n → shD n (plain k) = true
  | n, .mk as a, hw, hn => by
    rw [plain_mk]
    obtain ⟨m, rfl⟩ : ∃ m, n = m + 2 := ⟨n - 2, by omega⟩
    refine sh_tup (sh_cons (sh_tup ?_) (sh_cons (sh_str ((strOk_iff _).mpr (word_ok (hw a (by rw [places]; simp))).2)) sh_nil))
    refine sh_plains m as (fun z hz => hw z (by rw [places]; exact List.mem_append_left _ hz)) ?_
    rw [ord] at hn
    omega
theorem sh_plains : ∀ (n : Nat) (ks : List Kd), (∀ z ∈ placesL ks, isWordS z = true) → 2 * ordL ks ≤ n → shDs n (ks.map plain) = true
  | n, [], _, _ => by rw [List.map_nil, shDs]
  | n, k :: r, hw, hn => by
    rw [ordL] at hn
    rw [List.map_cons]
    refine sh_cons (sh_plain n k (fun z hz => hw z (by rw [placesL]; exact List.mem_append_left _ hz)) (by omega)) (sh_plains n r (fun z hz => hw z (by rw [placesL]; exact List.mem_append_right _ hz)) (by omega))
end
theorem shaped_K {k : Kd} (g : Good k) : SeqAt.shaped (pyK k) = true := by
  obtain ⟨p, h1, h2, h3⟩ := shD_py 64 (plain k) (sh_plain 64 k g.w (by have := g.o; omega))
  rw [py_plain] at h1
  cases h1
  exact sh_shaped h2 h3
theorem eqS_plain (k j : Kd) : eqS (plain k) (plain j) = none := by
  cases k with
  | mk as a =>
    cases j with
    | mk bs b =>
      rw [plain_mk, plain_mk]
      rfl
theorem eqP {k j : Kd} (hk : Good k) (hj : Good j) {Q : D → Prop} (q : Q (.bl (decide (k = j)))) : rdEq (plain k) (plain j) Q := by
  unfold rdEq
  rw [eqS_plain]
  refine ⟨_, _, py_plain k, py_plain j, shaped_K hk, shaped_K hj, ?_⟩
  rw [eqv_K]
  exact q
/-! ### the package's defs -/
def noL (d : D) : Prop := isiD ["Library"] (fun _ => true) d = some false
/-! ### readings of libraries -/
end KP
/-! KP27: readings of libraries. -/
namespace KP
open PySem L2 FP
end KP
/-! KP28: what expressions about libraries come to. -/
namespace KP
open PySem L2 FP
variable [FP.Tabl]
/-! ### tuples of texts compared -/
theorem sh_strs {n : Nat} : ∀ {zs : List Str}, (∀ z ∈ zs, PyData.strOk z = true) → shDs n (zs.map D.str) = true
  | [], _ => sh_nil
  | z :: r, h => sh_cons (sh_str (h z List.mem_cons_self)) (sh_strs fun y hy => h y (List.mem_cons_of_mem _ hy))
/-! ### libraries as operands -/
end KP
/-! KP29: libraries put together: what laws ask of the plain ones. -/
namespace KP
open PySem L2 FP
variable [FP.Tabl]
/-! ### plain facts -/
/-! ### the law's own helpers -/
def f_tokT : List D → M D := fun ds Q _ => match ds with
  | [.tok] => Q (.bl true)
  | _ => False
end KP
/-! KP30: the known libraries of the laws; drawn libraries. -/
namespace KP
open PySem L2 FP
variable [FP.Tabl]
def qa : Kd := .mk [] "a"
def qb : Kd := .mk [] "b"
def qc : Kd := .mk [] "c"
def qn : Kd := .mk [] "n"
def q1 : Lib := [("z", qn), ("s", .mk [qn] "n")]
def q2 : Lib := [("f", .mk [qa] "b"), ("g", .mk [qb] "c")]
def q3 : Lib := [("k", .mk [.mk [qa] "b"] "c"), ("x", qb)]
def q4 : Lib := [("k", .mk [.mk [qa] "b"] "a"), ("g", .mk [qa] "b"), ("y", qa)]
def q5 : Lib := [("p", .mk [qa, qb] "c"), ("y", qa), ("w", qb), ("h", .mk [qc] "a")]
theorem bitS {b : Bool} {P R : Prop} (h1 : b = true → P) (h2 : b = false → R) : bit b P R := by
  cases b with
  | true => exact h1 rfl
  | false => exact h2 rfl
end KP
/-! KP31: libraries put together: the plain laws; other names of parts. -/
namespace KP
open PySem L2 FP
variable [FP.Tabl]
section
variable {L M : Lib}
noncomputable def fin (L M : Lib) : Lib := L.filter fun p => decide (getL M p.1 = some p.2)
end
/-! ### other names -/
theorem neBB {a b : Bool} (h : a = b) {Q : D → Prop} (q : Q (.bl false)) : rdNe (.bl a) (.bl b) Q := by
  show Q (.bl (!decide (a = b)))
  rw [decide_eq_true h]
  exact q
end KP
/-! KP32: libraries changed: what the defs promise; plain laws. -/
namespace KP
open PySem L2 FP
variable [FP.Tabl]
/-! ### any values asked for among the parts -/
def strsOf : List D → List Str
  | [] => []
  | .str z :: r => z :: strsOf r
  | _ :: r => strsOf r
/-! ### loops with a first bad one -/
end KP
/-! KP33: other names of parts and atoms: what the defs promise. -/
namespace KP
open PySem L2 FP
end KP
/-! KP34: lines of libraries read. -/
namespace KP
open PySem L2 FP
end KP
/-! KP35: libraries changed step by step: plain laws and what the law's defs promise. -/
namespace KP
open PySem L2 FP
variable [FP.Tabl]
/-! ### dicts of names -/
theorem sortU_full {ys : List Str} (h : ys.Nodup) : (sortU ys).length = ys.length := Nat.le_antisymm (sortU_len ys) (nodup_len_le h fun y hy => sortU_mem.mpr hy)
/-! ### what the law's defs promise -/
/-! ### dicts made by the law -/
/-! ### the law itself -/
theorem end_v {N : Nd} {i : Nat} {f : DTE} {ρ : FP.Env} (d : D) (hf : Ev f ρ d) (h : N.nx (ρ.set i (.d d))) : dSet i f N ρ := hf _ _ h
theorem ev_prop {f : DTE} {ρ : FP.Env} {d : D} {cl : Str} {F : List D → M D} {fs : List (Str × D)} (ho : Ev f ρ (.ins cl fs)) (h : ∀ Q : D → Prop, Q d → F [.ins cl fs] Q F0) : Ev (dProp cl F f) ρ d := fun Q E q => ho _ _ ⟨rfl, h _ q⟩
end KP
/-! KP36: the lines of a library taken apart. -/
namespace KP
open PySem L2 FP
end KP
/-! KP37: spoilt lines tell no part. -/
namespace KP
open PySem L2 FP
end KP
/-! KP38: a line's separator exchanged; the law's spoilt lines. -/
namespace KP
open PySem L2 FP
end KP
/-! KP39: law k11: what its defs promise; spoilt lines; small steps. -/
namespace KP
open PySem L2 FP
variable [FP.Tabl]
/-! ### small steps -/
section
variable {ρ : FP.Env} {f fa fb : DTE} {g : DTS} {N : Nd} {i j : Nat}
theorem seq_par {ga : DTA} (x y : D) (h : EvA ga ρ [x, y]) (hg : g N ((ρ.set i (.d x)).set j (.d y))) : dSeq (dPar i j ga) g N ρ := h _ _ hg
theorem sl_to {xs : List D} {n : Nat} (ha : Ev fa ρ (.lst xs)) (hb : Ev fb ρ (.int n)) (h : n ≤ xs.length) : Ev (dSl fa dONone (dOSome fb)) ρ (.lst (xs.take n)) := fun Q E q => ha _ _ (hb _ _ (by
  have e : cutD xs none (some (n : Int)) = xs.take n := by
    unfold cutD
    have e1 : HT.sIx xs.length 0 none = 0 := rfl
    rw [e1, HT.sIx_nat, List.drop_zero, Nat.sub_zero]
    congr 1
    omega
  show Q (.lst (cutD xs none (some (n : Int))))
  rw [e]
  exact q))
theorem sl_from {xs : List D} {n : Nat} {m : Int} (ha : Ev fa ρ (.lst xs)) (hb : Ev fb ρ (.int m)) (hm : m = (n : Int)) (h : n ≤ xs.length) : Ev (dSl fa (dOSome fb) dONone) ρ (.lst (xs.drop n)) := fun Q E q => ha _ _ (hb _ _ (by
  have e := cut_from xs (n := (n : Int)) (by omega) (by omega)
  rw [hm]
  show Q (.lst (cutD xs (some (n : Int)) none))
  rw [e]
  exact q))
end
/-! ### reading lines -/
/-! ### what the law's defs promise -/
/-! ### spoilt lines -/
/-! ### lines in any order -/
theorem LibG.take {L : Lib} (h : LibG L) (n : Nat) : LibG (L.take n) := h.sub (List.take_sublist n L)
theorem LibG.drop {L : Lib} (h : LibG L) (n : Nat) : LibG (L.drop n) := h.sub (List.drop_sublist n L)
/-! ### nine lines -/
end KP
/-! KP40: nodes of programs: pure. -/
namespace KP
open PySem L2 FP
variable [FP.Tabl]
/-- a node: binders, head, number of arguments -/
abbrev Nod := Nat × Str × Nat
def nodD (n : Nod) : D := .tup [.int (n.1 : Nat), .str n.2.1, .int (n.2.2 : Nat)]
def headG (h : Str) : Bool := isWordS h || (levelS h).isSome
def isNodeD : D → Bool
  | .tup [x, .str h, y] => inRow x 0 15 && (inRow y 0 15 && headG h)
  | _ => false
def okNodeD : D → Prop
  | .tup [x, y, z] => okV x ∧ okV y ∧ okV z
  | d => okV d
def toNod : D → Nod
  | .tup [.int b, .str h, .int c] => (b.toNat, h, c.toNat)
  | _ => (0, Str.empty, 0)
/-- a node as it should be -/
structure NodG (n : Nod) : Prop where
  b : n.1 ≤ 15
  c : n.2.2 ≤ 15
  h : headG n.2.1 = true
theorem inRow_int {x : D} (h : inRow x 0 15 = true) : ∃ n : Nat, x = .int n ∧ n ≤ 15 := by
  cases x with
  | int i =>
    unfold inRow at h
    simp only [Bool.and_eq_true, decide_eq_true_eq] at h
    exact ⟨i.toNat, by rw [Int.toNat_of_nonneg h.2.1], by omega⟩
  | _ => cases h
theorem isNode_nod {d : D} (h : isNodeD d = true) : d = nodD (toNod d) ∧ NodG (toNod d) := by
  unfold isNodeD at h
  split at h
  · rename_i x hd y
    simp only [Bool.and_eq_true] at h
    obtain ⟨h1, h2, h3⟩ := h
    obtain ⟨b, rfl, hb⟩ := inRow_int h1
    obtain ⟨c, rfl, hc⟩ := inRow_int h2
    exact ⟨by simp [toNod, nodD], by simpa [toNod] using hb, by simpa [toNod] using hc, h3⟩
  · cases h
theorem toNod_nod (n : Nod) : toNod (nodD n) = n := by
  obtain ⟨b, h, c⟩ := n
  simp [toNod, nodD]
theorem inRow_nat {n : Nat} (h : n ≤ 15) : inRow (.int n) 0 15 = true := by
  unfold inRow isIntD
  simp only [Bool.and_eq_true, decide_eq_true_eq]
  refine ⟨⟨?_, ?_⟩, by omega, by omega⟩
  · have : (0 : Int) < 10 ^ 60 := by decide
    omega
  · have : (15 : Int) < 10 ^ 60 := by decide
    omega
theorem nod_isNode {n : Nod} (g : NodG n) : isNodeD (nodD n) = true := by
  show (inRow (.int n.1) 0 15 && (inRow (.int n.2.2) 0 15 && headG n.2.1)) = true
  rw [inRow_nat g.b, inRow_nat g.c, g.h]
  rfl
/-- the roots of the trees from place i on, the first at the left; the places below each place -/
def stP : Nat → List Nod → Option (List Nat × List (List Nat))
  | _, [] => some ([], [])
  | i, n :: r => match stP (i + 1) r with
    | none => none
    | some (w, K) => if n.2.2 ≤ w.length then some (i :: w.drop n.2.2, w.take n.2.2 :: K) else none
def kidsP (ns : List Nod) : Option (List (List Nat)) := match stP 0 ns with
  | some (w, K) => if w = [0] then some K else none
  | none => none
theorem stP_cons {i : Nat} {n : Nod} {r : List Nod} {w : List Nat} {K : List (List Nat)} (h : stP i (n :: r) = some (w, K)) : ∃ w' K', stP (i + 1) r = some (w', K') ∧ n.2.2 ≤ w'.length ∧ w = i :: w'.drop n.2.2 ∧ K = w'.take n.2.2 :: K' := by
  rw [stP] at h
  cases hs : stP (i + 1) r with
  | none =>
    rw [hs] at h
    cases h
  | some p =>
    obtain ⟨w', K'⟩ := p
    rw [hs] at h
    have h2 : (if n.2.2 ≤ w'.length then some (i :: w'.drop n.2.2, w'.take n.2.2 :: K') else none) = some (w, K) := h
    by_cases hl : n.2.2 ≤ w'.length
    · rw [if_pos hl] at h2
      cases h2
      exact ⟨w', K', rfl, hl, rfl, rfl⟩
    · rw [if_neg hl] at h2
      cases h2
theorem stP_len : ∀ {ns : List Nod} {i : Nat} {w : List Nat} {K : List (List Nat)}, stP i ns = some (w, K) → K.length = ns.length
  | [], _, _, _, h => by
    rw [stP] at h
    cases h
    rfl
  | n :: r, i, w, K, h => by
    obtain ⟨w', K', h1, _, _, rfl⟩ := stP_cons h
    rw [List.length_cons, stP_len h1, List.length_cons]
theorem stP_inc : ∀ {ns : List Nod} {i : Nat} {w : List Nat} {K : List (List Nat)}, stP i ns = some (w, K) → w.Pairwise (· < ·) ∧ (∀ x ∈ w, i ≤ x ∧ x < i + ns.length) ∧ ∀ (j : Nat) (ks : List Nat), K[j]? = some ks → ∀ x ∈ ks, i + j < x ∧ x < i + ns.length
  | [], _, _, _, h => by
    rw [stP] at h
    cases h
    exact ⟨.nil, fun x hx => absurd hx List.not_mem_nil, fun j ks hk => by simp at hk⟩
  | n :: r, i, w, K, h => by
    obtain ⟨w', K', h1, _, rfl, rfl⟩ := stP_cons h
    obtain ⟨a1, a2, a3⟩ := stP_inc h1
    refine ⟨List.pairwise_cons.mpr ⟨fun x hx => ?_, a1.sublist (List.drop_sublist _ _)⟩, fun x hx => ?_, fun j ks hk x hx => ?_⟩
    · have := a2 x (List.mem_of_mem_drop hx)
      omega
    · rw [List.length_cons]
      rcases List.mem_cons.mp hx with rfl | hx
      · omega
      · have := a2 x (List.mem_of_mem_drop hx)
        omega
    · rw [List.length_cons]
      cases j with
      | zero =>
        simp at hk
        subst hk
        have := a2 x (List.mem_of_mem_take hx)
        omega
      | succ j =>
        have := a3 j ks (by simpa using hk) x hx
        omega
theorem kids_st {ns : List Nod} {K : List (List Nat)} (h : kidsP ns = some K) : stP 0 ns = some ([0], K) := by
  unfold kidsP at h
  cases hs : stP 0 ns with
  | none =>
    rw [hs] at h
    cases h
  | some p =>
    obtain ⟨w, K'⟩ := p
    rw [hs] at h
    have h2 : (if w = [0] then some K' else none) = some K := h
    by_cases hw : w = [0]
    · rw [if_pos hw] at h2
      cases h2
      rw [hw]
    · rw [if_neg hw] at h2
      cases h2
/-- the bound variables ahead of each node -/
def bndsP : List Nat → List Nod → List Nat
  | _, [] => []
  | e, n :: r => e.headD 0 :: bndsP (List.replicate n.2.2 (e.headD 0 + n.1) ++ e.tail) r
theorem bnds_len : ∀ (e : List Nat) (ns : List Nod), (bndsP e ns).length = ns.length
  | _, [] => rfl
  | e, n :: r => by rw [bndsP, List.length_cons, bnds_len, List.length_cons]
def rowOk (b : Nat) (n : Nod) : Bool := decide (b + n.1 ≤ 100) && (match levelS n.2.1 with
  | none => true
  | some l => decide (l < ((b + n.1 : Nat) : Int)))
def rowsOk : List Nat → List Nod → Bool
  | b :: bs, n :: ns => rowOk b n && rowsOk bs ns
  | _, _ => true
def areN (ns : List Nod) : Bool := (kidsP ns).isSome && rowsOk (bndsP [0] ns) ns
def areP : D → Bool
  | .tup xs => decide (1 ≤ xs.length) && (decide (xs.length ≤ 40) && (xs.all isNodeD && areN (xs.map toNod)))
  | _ => false
/-! ### the law's own look -/
def xS (k : Nat) : Str := "x" ++ Str.ofString (toString (k : Int))
/-- heads as the law draws them -/
def headL : List Str := ["f", "g", "cons", "", "F", "x00", "?"]
def headW (h : Str) : Prop := h ∈ headL ∨ ∃ k, k < 100 ∧ h = xS k
theorem x_level : ∀ k < 100, levelS (xS k) = some (k : Int) ∧ isWordS (xS k) = false ∧ xS k ∉ (["f", "g", "cons"] : List Str) := by decide +kernel
end KP
/-! KP41: nodes of programs: what the package's defs promise; loops. -/
namespace KP
open PySem L2 FP
variable [FP.Tabl]
/-! ### loops by what is left -/
theorem for_st {T : Tg} {b : DTS} {N : Nd} (S : List D → FP.Env → Prop) (hend : ∀ ρ, S [] ρ → N.nx ρ) (hstep : ∀ d r ρ, S (d :: r) ρ → ∃ ρ1, T.put d ρ = some ρ1 ∧ ∀ K : FP.Env → Prop, (∀ ρ', S r ρ' → K ρ') → b { N with nx := K, ct := K, bk := N.nx } ρ1) : ∀ (xs : List D) (ρ : FP.Env), S xs ρ → forD T b N xs ρ
  | [], ρ, h => hend ρ h
  | d :: r, ρ, h => by
    obtain ⟨ρ1, h1, h2⟩ := hstep d r ρ h
    exact ⟨ρ1, h1, h2 _ fun ρ' h' => for_st S hend hstep r ρ' h'⟩
def natsD (xs : List Nat) : List D := xs.map fun k => D.int (k : Nat)
theorem intsD_len (xs : List Nat) : (natsD xs).length = xs.length := List.length_map _
/-- k - 1, .., 0 -/
def downD : Nat → List D
  | 0 => []
  | k + 1 => .int (k : Nat) :: downD k
theorem range_down : ∀ n : Nat, rangeC ((n : Int) - 1) (-1) n = downD n
  | 0 => rfl
  | n + 1 => by
    have ih := range_down n
    unfold rangeC at ih ⊢
    rw [List.range_succ_eq_map, List.map_cons, List.map_map, downD, ← ih]
    congr 1
    · simp
    · refine List.map_congr_left fun i _ => ?_
      show D.int (((n + 1 : Nat) : Int) - 1 + ((i + 1 : Nat) : Int) * -1) = D.int ((n : Int) - 1 + (i : Int) * -1)
      congr 1
      omega
/-! ### places below places -/
def kidD (ks : List Nat) : D := .tup (natsD ks)
theorem stP_none : ∀ {ns : List Nod} {k : Nat}, stP k (ns.drop k) = none → stP 0 ns = none
  | ns, 0, h => by simpa using h
  | ns, k + 1, h => by
    refine stP_none (k := k) ?_
    by_cases hk : k < ns.length
    · rw [List.drop_eq_getElem_cons hk, stP, h]
    · rw [List.drop_of_length_le (by omega), stP] at h
      cases h
theorem kidsP_none {ns : List Nod} {k : Nat} (h : stP k (ns.drop k) = none) : kidsP ns = none := by
  unfold kidsP
  rw [stP_none h]
def f_isnode : List D → M D := fun ds Q _ => match ds with
  | [d, .bl false] => okNodeD d ∧ Q (.bl (isNodeD d))
  | _ => False
def f_kids : List D → M D := fun ds Q _ => match ds with
  | [.tup xs] => ∃ ns : List Nod, xs = ns.map nodD ∧ ns.length ≤ 900 ∧ Q (match kidsP ns with
    | none => .non
    | some K => .lst (K.map kidD))
  | _ => False
/-- the place behind the last one below -/
def endsP : Nat → List (List Nat) → List Nat
  | _, [] => []
  | i, ks :: r => (match ks.getLast? with
    | none => i + 1
    | some p => (endsP (i + 1) r).getD (p - (i + 1)) 0) :: endsP (i + 1) r
theorem ends_len : ∀ (i : Nat) (K : List (List Nat)), (endsP i K).length = K.length
  | _, [] => rfl
  | i, ks :: r => by rw [endsP, List.length_cons, ends_len, List.length_cons]
/-- the places below lie behind, within the row -/
def kidsIn (K : List (List Nat)) : Prop := ∀ (j : Nat) (ks : List Nat), K[j]? = some ks → ∀ x ∈ ks, j < x ∧ x < K.length
theorem kids_in {ns : List Nod} {K : List (List Nat)} (h : kidsP ns = some K) : kidsIn K := fun j ks hj x hx => by
  have h1 := kids_st h
  have h2 := (stP_inc h1).2.2 j ks hj x hx
  rw [stP_len h1]
  omega
def f_ends : List D → M D := fun ds Q _ => match ds with
  | [.tup ys] => ∃ K : List (List Nat), ys = K.map kidD ∧ K.length ≤ 900 ∧ kidsIn K ∧ Q (.lst (natsD (endsP 0 K)))
  | _ => False
def f_bound : List D → M D := fun ds Q _ => match ds with
  | [.tup xs, y] => ∃ (ns : List Nod) (K : List (List Nat)), xs = ns.map nodD ∧ (y = .lst (K.map kidD) ∨ y = .tup (K.map kidD)) ∧ kidsP ns = some K ∧ ns.length ≤ 900 ∧ Q (.lst (natsD (bndsP [0] ns)))
  | _ => False
def okNs : D → Prop
  | .tup xs => ∀ x ∈ xs, okNodeD x
  | d => okV d
theorem okNs.v {d : D} (h : okNs d) : okV d := by
  cases d with
  | tup xs => exact trivial
  | _ => exact h
def f_arenodes : List D → M D := fun ds Q _ => match ds with
  | [d, .bl false] => okNs d ∧ Q (.bl (areP d))
  | _ => False
def progF (xs : List D) : List (Str × D) := [("own_nodes", .tup xs), ("own_kids", .tup (((kidsP (xs.map toNod)).getD []).map kidD)), ("own_ends", .tup (natsD (endsP 0 ((kidsP (xs.map toNod)).getD [])))), ("own_bound", .tup (natsD (bndsP [0] (xs.map toNod))))]
abbrev progX : XD := ⟨"InvalidProgram", []⟩
def f_initP : List D → ((List (Str × D)) → Prop) → (XD → Prop) → Prop := fun ds Q Ex => match ds with
  | [d] => okNs d ∧ isiD ["Nodes"] (fun _ => true) d = some false ∧ (∀ xs, d = .tup xs → areP d = true → Q (progF xs)) ∧ (areP d = false → Ex progX)
  | _ => False
theorem areP_tup {d : D} (h : areP d = true) : ∃ ns : List Nod, d = .tup (ns.map nodD) ∧ (∀ n ∈ ns, NodG n) ∧ 1 ≤ ns.length ∧ ns.length ≤ 40 ∧ areN ns = true := by
  cases d with
  | tup xs =>
    have h2 : (decide (1 ≤ xs.length) && (decide (xs.length ≤ 40) && (xs.all isNodeD && areN (xs.map toNod)))) = true := h
    simp only [Bool.and_eq_true, decide_eq_true_eq] at h2
    obtain ⟨h3, h4, h5, h6⟩ := h2
    rw [List.all_eq_true] at h5
    refine ⟨xs.map toNod, ?_, fun n hn => ?_, by rw [List.length_map]; exact h3, by rw [List.length_map]; exact h4, h6⟩
    · rw [List.map_map]
      congr 1
      conv => lhs; rw [← List.map_id xs]
      exact List.map_congr_left fun d hd => (isNode_nod (h5 d hd)).1
    · obtain ⟨d, hd, rfl⟩ := List.mem_map.mp hn
      exact (isNode_nod (h5 d hd)).2
  | _ => cases h
theorem toNods (ns : List Nod) : (ns.map nodD).map toNod = ns := by
  rw [List.map_map]
  conv => rhs; rw [← List.map_id ns]
  exact List.map_congr_left fun n _ => toNod_nod n
theorem nods_of {xs : List D} (h : xs.all isNodeD = true) : ∃ ns : List Nod, xs = ns.map nodD ∧ (∀ n ∈ ns, NodG n) ∧ ns = xs.map toNod := by
  rw [List.all_eq_true] at h
  refine ⟨xs.map toNod, ?_, fun n hn => ?_, rfl⟩
  · rw [List.map_map]
    conv => lhs; rw [← List.map_id xs]
    exact List.map_congr_left fun d hd => (isNode_nod (h d hd)).1
  · obtain ⟨d, hd, rfl⟩ := List.mem_map.mp hn
    exact (isNode_nod (h d hd)).2
/-! ### lists of ints compared -/
theorem sh_ints {n : Nat} : ∀ xs : List Nat, shDs n (natsD xs) = true
  | [] => sh_nil
  | x :: r => sh_cons sh_int (sh_ints r)
theorem py_ints : ∀ xs : List Nat, toPys (natsD xs) = some (xs.map fun k => PyData.int (k : Nat))
  | [] => rfl
  | x :: r => by
    have h := py_ints r
    unfold natsD at h ⊢
    rw [List.map_cons, toPys, toPy, h]
    rfl
theorem eqv_ints : ∀ xs ys : List Nat, PyData.eqvAll (xs.map fun k => PyData.int (k : Nat)) (ys.map fun k => PyData.int (k : Nat)) = decide (xs = ys)
  | [], [] => by rw [List.map_nil, PyData.eqvAll]; simp
  | z :: r, [] => by rw [List.map_nil, List.map_cons, PyData.eqvAll]; simp
  | [], z :: r => by rw [List.map_nil, List.map_cons, PyData.eqvAll]; simp
  | z :: r, y :: t => by
    rw [List.map_cons, List.map_cons, PyData.eqvAll, eqv_ints r t]
    have e : PyData.eqv (.int (z : Nat)) (.int (y : Nat)) = decide (z = y) := by
      simp only [PyData.eqv]
      rw [Bool.eq_iff_iff, beq_iff_eq, decide_eq_true_iff]
      omega
    rw [e]
    by_cases h1 : z = y
    · by_cases h2 : r = t
      · rw [decide_eq_true h2, decide_eq_true (p := z :: r = y :: t) (by rw [h1, h2])]
        simp [h1]
      · rw [decide_eq_false h2, decide_eq_false (p := z :: r = y :: t) fun e => h2 (List.cons.inj e).2, Bool.and_false]
    · rw [decide_eq_false (p := z :: r = y :: t) fun e => h1 (List.cons.inj e).1]
      simp [h1]
theorem eqInts {xs ys : List Nat} {Q : D → Prop} (q : Q (.bl (decide (xs = ys)))) : rdEq (.lst (natsD xs)) (.lst (natsD ys)) Q := by
  obtain ⟨p, p1, p2, p3⟩ := shD_py 64 (.lst (natsD xs)) (sh_lst (sh_ints xs))
  obtain ⟨r, r1, r2, r3⟩ := shD_py 64 (.lst (natsD ys)) (sh_lst (sh_ints ys))
  show ∃ p q, toPy _ = some p ∧ toPy _ = some q ∧ SeqAt.shaped p = true ∧ SeqAt.shaped q = true ∧ Q (.bl (PyData.eqv p q))
  refine ⟨p, r, p1, r1, sh_shaped p2 p3, sh_shaped r2 r3, ?_⟩
  rw [toPy, py_ints] at p1 r1
  cases p1
  cases r1
  rw [PyData.eqv, eqv_ints]
  exact q
theorem set_mid {α : Type} (x v : α) (K : List α) (k : Nat) : (List.replicate (k + 1) x ++ K).set k v = List.replicate k x ++ v :: K := by
  rw [List.replicate_succ', List.append_assoc, List.set_append_right _ _ (by rw [List.length_replicate]; exact Nat.le_refl k), List.length_replicate, Nat.sub_self]
  rfl
/-! ### small facts -/
def isTupD : D → Bool
  | .tup _ => true
  | _ => false
theorem inc_len : ∀ {w : List Nat} {i n : Nat}, w.Pairwise (· < ·) → (∀ x ∈ w, i ≤ x ∧ x < i + n) → w.length ≤ n
  | [], _, _, _, _ => Nat.zero_le _
  | x :: r, i, n, h, hb => by
    obtain ⟨h1, h2⟩ := List.pairwise_cons.mp h
    have hx := hb x List.mem_cons_self
    have ih := inc_len (i := x + 1) (n := i + n - (x + 1)) h2 fun y hy => by
      have a := h1 y hy
      have b := hb y (List.mem_cons_of_mem _ hy)
      omega
    rw [List.length_cons]
    omega
theorem rev_drop (w : List Nat) (c : Nat) : (w.drop c).reverse = w.reverse.take (w.length - c) := by
  rw [← List.reverse_drop]
theorem ints_rev_drop (w : List Nat) (c : Nat) : ((natsD w.reverse).drop (w.length - c)).reverse = natsD (w.take c) := by
  unfold natsD
  rw [← List.map_drop, ← List.map_reverse]
  congr 1
  rw [List.drop_reverse, List.reverse_reverse]
  by_cases h : c ≤ w.length
  · congr 1
    omega
  · rw [List.take_of_length_le (by omega), List.take_of_length_le (by omega)]
theorem ints_take (xs : List Nat) (n : Nat) : (natsD xs).take n = natsD (xs.take n) := (List.map_take ..).symm
theorem ints_snoc (xs : List Nat) (k : Nat) : D.lst (natsD xs ++ [.int (k : Nat)]) = .lst (natsD (xs ++ [k])) := by
  unfold natsD
  rw [List.map_append]
  rfl
theorem isi_tup {d : D} (h : okV d) : ∃ n, tyName d = some n ∧ kitB n "tuple" = some (isTupD d) := by
  cases d with
  | fz _ => exact h.elim
  | ins _ _ => exact h.elim
  | cl _ => exact h.elim
  | fn _ _ => exact h.elim
  | non => exact ⟨_, rfl, by show kitB "NoneType" "tuple" = some false; decide +kernel⟩
  | bl _ => exact ⟨_, rfl, by show kitB "bool" "tuple" = some false; decide +kernel⟩
  | int _ => exact ⟨_, rfl, by show kitB "int" "tuple" = some false; decide +kernel⟩
  | str _ => exact ⟨_, rfl, by show kitB "str" "tuple" = some false; decide +kernel⟩
  | tup _ => exact ⟨_, rfl, by show kitB "tuple" "tuple" = some true; decide +kernel⟩
  | lst _ => exact ⟨_, rfl, by show kitB "list" "tuple" = some false; decide +kernel⟩
  | dct _ => exact ⟨_, rfl, by show kitB "dict" "tuple" = some false; decide +kernel⟩
  | tok => exact ⟨_, rfl, by show kitB "list" "tuple" = some false; decide +kernel⟩
theorem isNode_len {xs : List D} (h : ¬ xs.length = 3) : isNodeD (.tup xs) = false := by
  unfold isNodeD
  split
  · rename_i e
    cases e
    exact absurd rfl h
  · rfl
theorem seq_oC {ρ : FP.Env} {i : Nat} {N : Nd} {ga : DTA} {gs : DTS} {xs : List D} (hf : EvA ga ρ xs) (hg : gs N (ρ.set i (.own xs))) : dSeq (dSetO i ga) gs N ρ := hf _ _ hg
/-- a test of the kind of a value -/
theorem ev_tup_isi {ρ : FP.Env} {i : Nat} {d : D} (h : okV d) (hr : ρ[i]? = some (.d d)) : Ev (dIsi "tuple" (dVar i)) ρ (.bl (isTupD d)) := fun Q E q => by
  obtain ⟨n, hn, hk⟩ := isi_tup h
  show (match ρ[i]? with | some (Sl.d x) => (match tyName x with | some n => ∃ b, kitB n "tuple" = some b ∧ Q (.bl b) | none => False) | _ => False)
  rw [hr]
  show (match tyName d with | some n => ∃ b, kitB n "tuple" = some b ∧ Q (.bl b) | none => False)
  rw [hn]
  exact ⟨_, hk, q⟩
theorem at_last {xs : List D} {d : D} (h : xs.getLast? = some d) : atI xs (-1) = some d := by
  rw [List.getLast?_eq_getElem?] at h
  have hl : xs.length - 1 < xs.length := (List.getElem?_eq_some_iff.mp h).1
  unfold atI ixN
  rw [if_neg (by decide), if_pos (by omega)]
  show xs[((-1 : Int) + xs.length).toNat]? = some d
  rw [show ((-1 : Int) + xs.length).toNat = xs.length - 1 by omega]
  exact h
theorem take_one {v : List Nat} {i h : Nat} (e : v[i]? = some h) : v.take (i + 1) = v.take i ++ [h] := by
  rw [List.take_succ, e]
  rfl
theorem inc_ne {w : List Nat} (h : w.Pairwise (· < ·)) {s t : Nat} (hs : s < w.length) (ht : t < w.length) (ne : s ≠ t) : w.getD s 0 ≠ w.getD t 0 := by
  rw [List.getD_eq_getElem?_getD, List.getD_eq_getElem?_getD, List.getElem?_eq_getElem hs, List.getElem?_eq_getElem ht]
  rw [List.pairwise_iff_getElem] at h
  show w[s] ≠ w[t]
  rcases Nat.lt_or_gt_of_ne ne with q | q
  · exact Nat.ne_of_lt (h s t hs ht q)
  · exact Nat.ne_of_gt (h t s ht hs q)
theorem end_ifT {c : DTT} {f1 f2 : DTS} {N : Nd} {ρ : FP.Env} (hc : EvT c ρ true) (h : f1 N ρ) : dIfS c f1 f2 N ρ := hc _ _ h
theorem end_ifF {c : DTT} {f1 f2 : DTS} {N : Nd} {ρ : FP.Env} (hc : EvT c ρ false) (h : f2 N ρ) : dIfS c f1 f2 N ρ := hc _ _ h
theorem progF_eq {ns : List Nod} {K : List (List Nat)} (hk : kidsP ns = some K) : progF (ns.map nodD) = ([("own_nodes", .tup (ns.map nodD)), ("own_kids", .tup (K.map kidD)), ("own_ends", .tup (natsD (endsP 0 K))), ("own_bound", .tup (natsD (bndsP [0] ns)))] : List (Str × D)) := by
  unfold progF
  rw [toNods, hk]
  rfl
theorem ar_kids {ns : List Nod} (h : areN ns = true) : ∃ K, kidsP ns = some K := by
  unfold areN at h
  rw [Bool.and_eq_true] at h
  exact Option.isSome_iff_exists.mp h.1
theorem kids_len {ns : List Nod} {K : List (List Nat)} (h : kidsP ns = some K) : K.length = ns.length := stP_len (kids_st h)
end KP
/-! KP42: rows of nodes, the law's own look at lists of values. -/
namespace KP
open PySem L2 FP
variable [FP.Tabl]
def rowsP (bs : List Nat) (ns : List Nod) : List Nat := List.zipWith (fun b n => b + n.1) bs ns
theorem rowsP_len {bs : List Nat} {ns : List Nod} (h : bs.length = ns.length) : (rowsP bs ns).length = ns.length := by
  unfold rowsP
  rw [List.length_zipWith, h, Nat.min_self]
def rowB (r : Nat) (n : Nod) : Bool := decide (r ≤ 100) && (match levelS n.2.1 with
  | none => true
  | some l => decide (l < (r : Int)))
theorem rowsOk_all : ∀ (bs : List Nat) (ns : List Nod), bs.length = ns.length → ((List.zip (rowsP bs ns) ns).all fun p => rowB p.1 p.2) = rowsOk bs ns
  | [], [], _ => rfl
  | [], _ :: _, h => by cases h
  | _ :: _, [], h => by cases h
  | b :: bs, n :: ns, h => by
    have ih := rowsOk_all bs ns (Nat.succ.inj h)
    show (rowB (b + n.1) n && ((List.zip (rowsP bs ns) ns).all fun p => rowB p.1 p.2)) = (rowOk b n && rowsOk bs ns)
    rw [ih]
    rfl
theorem zip_bn : ∀ (bs : List Nat) (ns : List Nod), zipD (natsD bs) (ns.map nodD) = (List.zip bs ns).map fun p => D.tup [.int (p.1 : Nat), nodD p.2]
  | [], _ => rfl
  | _ :: _, [] => rfl
  | b :: bs, n :: ns => by
    have ih := zip_bn bs ns
    show pairD (.int (b : Nat)) (nodD n) :: zipD (natsD bs) (ns.map nodD) = _
    rw [ih]
    rfl
theorem zip_rl : ∀ (rs : List Nat) (ns : List Nod), zipD (natsD rs) (ns.map fun n => ofO (levelS n.2.1)) = (List.zip rs ns).map fun p => D.tup [.int (p.1 : Nat), ofO (levelS p.2.2.1)]
  | [], _ => rfl
  | _ :: _, [] => rfl
  | b :: bs, n :: ns => by
    have ih := zip_rl bs ns
    show pairD (.int (b : Nat)) (ofO (levelS n.2.1)) :: zipD (natsD bs) (ns.map fun n => ofO (levelS n.2.1)) = _
    rw [ih]
    rfl
theorem zip_rows (bs : List Nat) (ns : List Nod) : ((List.zip bs ns).map fun p : Nat × Nod => D.int ((p.1 + p.2.1 : Nat) : Int)) = natsD (rowsP bs ns) := by
  unfold natsD rowsP
  rw [List.map_zipWith]
  induction bs generalizing ns with
  | nil => rfl
  | cons b bs ih =>
    cases ns with
    | nil => rfl
    | cons n ns =>
      rw [List.zip_cons_cons, List.map_cons, List.zipWith_cons_cons, ih ns]
theorem ev_zip {ρ : FP.Env} {ga : DTA} {x y : D} {xs ys : List D} (h : EvA ga ρ [x, y]) (hx : seqD x = some xs) (hy : seqD y = some ys) : EvI (dIZip ga) ρ (zipD xs ys) := fun Q E q => h _ _ ⟨xs, ys, hx, hy, q⟩
/-! ### the law's own look at values -/
def oddL : List D := [.tup [.str "f", .int 0, .int 0], .tup [.int 0, .str "f"], .tup [.int 0, .str "f", .int 0, .int 0], .lst [.int 0, .str "f", .int 0], .non, .tup [.bl true, .str "f", .int 0]]
/-- a value as the law puts it into rows of nodes -/
def nodeC (d : D) : Prop := (∃ (b : Int) (h : Str) (c : Int), d = .tup [.int b, .str h, .int c] ∧ headW h ∧ -1 ≤ b ∧ b ≤ 900 ∧ -1 ≤ c ∧ c ≤ 900) ∨ d ∈ oddL
end KP
/-! KP43: plain programs. -/
namespace KP
open PySem L2 FP
variable [FP.Tabl]
/-- a plain program: binders, head, arguments -/
inductive Pt where
  | mk (b : Nat) (h : Str) (as : List Pt)
def Pt.b : Pt → Nat
  | .mk b _ _ => b
def Pt.h : Pt → Str
  | .mk _ h _ => h
def Pt.as : Pt → List Pt
  | .mk _ _ as => as
mutual
def ptD : Pt → D
  | .mk b h as => .tup [.int (b : Nat), .str h, .tup (ptDs as)]
def ptDs : List Pt → List D
  | [] => []
  | p :: r => ptD p :: ptDs r
end
theorem ptDs_map : ∀ as : List Pt, ptDs as = as.map ptD
  | [] => by rw [ptDs, List.map_nil]
  | p :: r => by rw [ptDs, ptDs_map r, List.map_cons]
theorem ptD_eq (b : Nat) (h : Str) (as : List Pt) : ptD (.mk b h as) = .tup [.int (b : Nat), .str h, .tup (as.map ptD)] := by rw [ptD, ptDs_map]
mutual
def nodesT : Pt → List Nod
  | .mk b h as => (b, h, as.length) :: nodesTs as
def nodesTs : List Pt → List Nod
  | [] => []
  | p :: r => nodesT p ++ nodesTs r
end
mutual
def partsT : Pt → List Pt
  | .mk b h as => .mk b h as :: partsTs as
def partsTs : List Pt → List Pt
  | [] => []
  | p :: r => partsT p ++ partsTs r
end
mutual
def sizeT : Pt → Nat
  | .mk _ _ as => 1 + sizeTs as
def sizeTs : List Pt → Nat
  | [] => 0
  | p :: r => sizeT p + sizeTs r
end
mutual
theorem nodes_len : ∀ p : Pt, (nodesT p).length = sizeT p
  | .mk b h as => by rw [nodesT, List.length_cons, nodes_lens as, sizeT, Nat.add_comm]
theorem nodes_lens : ∀ ps : List Pt, (nodesTs ps).length = sizeTs ps
  | [] => by rw [nodesTs, sizeTs]; rfl
  | p :: r => by rw [nodesTs, List.length_append, nodes_len p, nodes_lens r, sizeTs]
end
mutual
theorem parts_lenT : ∀ p : Pt, (partsT p).length = sizeT p
  | .mk b h as => by rw [partsT, List.length_cons, parts_lenTs as, sizeT, Nat.add_comm]
theorem parts_lenTs : ∀ ps : List Pt, (partsTs ps).length = sizeTs ps
  | [] => by rw [partsTs, sizeTs]; rfl
  | p :: r => by rw [partsTs, List.length_append, parts_lenT p, parts_lenTs r, sizeTs]
end
theorem nodesTs_app : ∀ ps qs : List Pt, nodesTs (ps ++ qs) = nodesTs ps ++ nodesTs qs
  | [], _ => by rw [List.nil_append, nodesTs, List.nil_append]
  | p :: r, qs => by rw [List.cons_append, nodesTs, nodesTs, nodesTs_app r, List.append_assoc]
theorem partsTs_app : ∀ ps qs : List Pt, partsTs (ps ++ qs) = partsTs ps ++ partsTs qs
  | [], _ => by rw [List.nil_append, partsTs, List.nil_append]
  | p :: r, qs => by rw [List.cons_append, partsTs, partsTs, partsTs_app r, List.append_assoc]
theorem sizeTs_app : ∀ ps qs : List Pt, sizeTs (ps ++ qs) = sizeTs ps + sizeTs qs
  | [], _ => by rw [List.nil_append, sizeTs, Nat.zero_add]
  | p :: r, qs => by rw [List.cons_append, sizeTs, sizeTs, sizeTs_app r, Nat.add_assoc]
theorem size_pos (p : Pt) : 1 ≤ sizeT p := by
  cases p with
  | mk b h as =>
    rw [sizeT]
    omega
theorem size_in : ∀ {ps : List Pt} {p : Pt}, p ∈ ps → sizeT p ≤ sizeTs ps
  | [], _, h => absurd h List.not_mem_nil
  | q :: r, p, h => by
    rw [sizeTs]
    rcases List.mem_cons.mp h with rfl | h
    · omega
    · have := size_in h
      omega
theorem sizeTs_len : ∀ ps : List Pt, ps.length ≤ sizeTs ps
  | [] => Nat.zero_le _
  | p :: r => by
    have h1 := size_pos p
    have h2 := sizeTs_len r
    rw [sizeTs, List.length_cons]
    omega
/-! ### drawn programs -/
/-- nodes of the law's rows -/
structure NodW (n : Nod) : Prop where
  g : NodG n
  w : headW n.2.1
/-! ### what the law's defs promise -/
def f_pnodes (d : Nat) : List D → M D := fun ds Q _ => match ds with
  | [x] => ∃ p : Pt, x = ptD p ∧ sizeT p < d ∧ sizeT p ≤ 60 ∧ Q (.lst ((nodesT p).map nodD))
  | _ => False
def f_ppartsT (d : Nat) : List D → M D := fun ds Q _ => match ds with
  | [x] => ∃ p : Pt, x = ptD p ∧ sizeT p < d ∧ sizeT p ≤ 60 ∧ Q (.lst ((partsT p).map ptD))
  | _ => False
theorem nope_pnodes (ds : List D) (Q : D → Prop) (E : XD → Prop) (h : f_pnodes 0 ds Q E) : False := by
  unfold f_pnodes at h
  split at h
  · obtain ⟨_, _, h, _⟩ := h
    omega
  · exact h
theorem nope_ppartsT (ds : List D) (Q : D → Prop) (E : XD → Prop) (h : f_ppartsT 0 ds Q E) : False := by
  unfold f_ppartsT at h
  split at h
  · obtain ⟨_, _, h, _⟩ := h
    omega
  · exact h
/-! ### small steps -/
section
variable {ρ : FP.Env} {f f1 f2 : DTE} {g : DTA} {gs : DTS} {N : Nd} {i j l : Nat}
theorem seq_par3L {xs : List D} (P : D → Prop) (d2 : D) (hf : EvP f1 ρ P) (h2 : Ev f2 ρ d2) (ha : EvA g ρ xs) (hg : ∀ d, P d → gs N (((ρ.set i (.d d)).set j (.d d2)).set l (.own xs))) : dSeq (dPar3L i j l f1 f2 g) gs N ρ := hf _ _ fun d p => h2 _ _ (ha _ _ (hg d p))
theorem seq_appP {xs : List D} (h : ρ[i]? = some (.own xs)) (P : D → Prop) (hs : xs.length < sizeLine) (hf : EvP f ρ P) (hg : ∀ d, P d → gs N (ρ.set i (.own (xs ++ [d])))) : dSeq (dApp i f) gs N ρ := by
  show dApp i f _ ρ
  unfold dApp
  rw [h]
  exact hf _ _ fun d p => ⟨hs, hg d p⟩
end
theorem x_len : ∀ k : Nat, k < 100 → (Str.ofString (toString (k : Int))).length ≤ 2 := by decide +kernel
theorem ev_xs {ρ : FP.Env} {f : DTE} {n : Nat} (hn : n < 100) (h : Ev f ρ (.int (n : Nat))) : Ev (dOp rdAdd (dC (.str "x")) (dCB rdStr (dCons f dNil))) ρ (.str (xS n)) := ev_op (x := .str "x") (y := .str (Str.ofString (toString (n : Int)))) (fun Q E q => q) (ev_cb (a1 h a0) fun Q q => ⟨log_small (by omega) (by omega), q⟩) fun Q q => ⟨by
  have h1 := x_len n hn
  have e1 : ("x" : Str).length = 1 := by decide +kernel
  rw [e1]
  exact size_small (by omega), q⟩
/-- ['x' + str(i) for i in range(e)] -/
theorem ev_names {ρ : FP.Env} {f : DTE} {n i : Nat} {vs : List Nat} (hn : n < 100) (h : Ev f ρ (.int (n : Nat))) (hi : ∀ k : Nat, ((wipeD ρ vs).set i (.d (.int ((0 : Int) + k))))[i]? = some (.d (.int ((0 : Int) + k)))) : Ev (dLc (dIRng1 (dCons f dNil)) (.one i) dYes (dOp rdAdd (dC (.str "x")) (dCB rdStr (dCons (dVar i) dNil))) vs) ρ (.lst ((List.range n).map fun k => .str (xS k))) :=
  ev_lc (fun k : Nat => D.int ((0 : Int) + k)) (fun k => .str (xS k)) (xs := List.range n) (fun Q E q => h _ _ ⟨by omega, by omega, by
    rw [Int.toNat_natCast]
    exact q⟩) (size_small (by rw [List.length_range]; omega)) fun k hk => ⟨_, rfl, ev_xs (by have := List.mem_range.mp hk; omega) fun Q E q => by
      show (match ((wipeD ρ vs).set i (.d (.int ((0 : Int) + k))))[i]? with | some (Sl.d x) => Q x | _ => False)
      rw [hi k]
      show Q (.int ((0 : Int) + k))
      rw [Int.zero_add]
      exact q⟩
end KP
/-! KP44: values near rows of nodes: small facts. -/
namespace KP
open PySem L2 FP
variable [FP.Tabl]
/-! ### steps -/
section
variable {ρ : FP.Env} {f f1 f2 : DTE} {g : DTA} {gs : DTS} {N : Nd} {i j l : Nat}
theorem ev_isi {t : String} {d : D} {n : String} {b : Bool} (h : Ev f ρ d) (hn : tyName d = some n) (hk : kitB n t = some b) : Ev (dIsi t f) ρ (.bl b) := fun Q E q => h _ _ (by
  rw [hn]
  exact ⟨b, hk, q⟩)
theorem neNil {xs : List D} {Q : D → Prop} (h : shDs 63 xs = true) (q : Q (.bl (!xs.isEmpty))) : rdNe (.lst xs) (.lst []) Q := by
  obtain ⟨p, p1, p2, p3⟩ := shD_py 64 (.lst xs) (sh_lst h)
  obtain ⟨r, r1, r2, r3⟩ := shD_py 64 (.lst []) (sh_lst sh_nil)
  show ∃ p q, toPy _ = some p ∧ toPy _ = some q ∧ SeqAt.shaped p = true ∧ SeqAt.shaped q = true ∧ Q (.bl (!PyData.eqv p q))
  refine ⟨p, r, p1, r1, sh_shaped p2 p3, sh_shaped r2 r3, ?_⟩
  obtain ⟨ps, q1, _, _⟩ := shDs_py 63 xs h
  rw [toPy, q1] at p1
  cases p1
  rw [toPy, toPys] at r1
  cases r1
  rw [PyData.eqv]
  have e : PyData.eqvAll ps [] = xs.isEmpty := by
    cases xs with
    | nil =>
      rw [toPys] at q1
      cases q1
      simp [PyData.eqvAll]
    | cons x r =>
      rw [toPys] at q1
      split at q1
      · cases q1
        simp [PyData.eqvAll]
      · cases q1
  rw [e]
  exact q
end
/-! ### values near nodes -/
theorem l_ok : ∀ h ∈ headL, PyData.strOk h = true ∧ (h.length ≤ 1000 ∧ (h.cps.toList.all fun c => decide (c < 1114112)) = true) := by decide +kernel
theorem x_ok : ∀ k < 100, PyData.strOk (xS k) = true ∧ ((xS k).length ≤ 1000 ∧ ((xS k).cps.toList.all fun c => decide (c < 1114112)) = true) := by decide +kernel
theorem headW.ok {h : Str} (w : headW h) : PyData.strOk h = true ∧ okStr h := by
  have e : PyData.strOk h = true ∧ (h.length ≤ 1000 ∧ (h.cps.toList.all fun c => decide (c < 1114112)) = true) := by
    rcases w with w | ⟨k, hk, rfl⟩
    · exact l_ok h w
    · exact x_ok k hk
  refine ⟨e.1, e.2.1, fun c hc => ?_⟩
  have h2 := e.2.2
  rw [List.all_eq_true] at h2
  exact of_decide_eq_true (h2 c hc)
theorem okStr_f : okStr "f" := (headW.ok (.inl (by decide +kernel))).2
theorem nodeC.ok {d : D} (h : nodeC d) : okNodeD d := by
  rcases h with ⟨b, h, c, rfl, w, _⟩ | h
  · exact ⟨trivial, w.ok.2, trivial⟩
  · simp only [oddL, List.mem_cons, List.not_mem_nil, or_false] at h
    rcases h with rfl | rfl | rfl | rfl | rfl | rfl
    · exact ⟨okStr_f, trivial, trivial⟩
    · exact trivial
    · exact trivial
    · exact trivial
    · exact trivial
    · exact ⟨trivial, okStr_f, trivial⟩
theorem NodW.c {n : Nod} (w : NodW n) : nodeC (nodD n) := .inl ⟨_, _, _, rfl, w.w, by have := w.g.b; omega, by have := w.g.b; omega, by have := w.g.c; omega, by have := w.g.c; omega⟩
/-! ### open rows -/
/-! ### odd values -/
/-! ### rows changed at a place -/
/-! ### what is taken -/
end KP
/-! KP45: steps over own lists. -/
namespace KP
open PySem L2 FP
end KP
/-! KP46: law k18: what is asked at the end. -/
namespace KP
open PySem L2 FP
/-! ### the four rows at the end -/
end KP
/-! KP47: plain programs and their rows of nodes: places, bound variables, ends, texts. -/
namespace KP
open PySem L2 FP
variable [FP.Tabl]
/-! ### places -/
def startsP : Nat → List Pt → List (Nat × Pt)
  | _, [] => []
  | i, p :: r => (i, p) :: startsP (i + sizeT p) r
def startsT (i : Nat) (ps : List Pt) : List Nat := (startsP i ps).map (·.1)
mutual
def kidsT : Nat → Pt → List (List Nat)
  | i, .mk _ _ as => startsT (i + 1) as :: kidsTs (i + 1) as
def kidsTs : Nat → List Pt → List (List Nat)
  | _, [] => []
  | i, p :: r => kidsT i p ++ kidsTs (i + sizeT p) r
end
mutual
def bndsT : Nat → Pt → List Nat
  | bd, .mk b _ as => bd :: bndsTs (bd + b) as
def bndsTs : Nat → List Pt → List Nat
  | _, [] => []
  | bd, p :: r => bndsT bd p ++ bndsTs bd r
end
mutual
def endsT : Nat → Pt → List Nat
  | i, .mk _ _ as => (i + 1 + sizeTs as) :: endsTs (i + 1) as
def endsTs : Nat → List Pt → List Nat
  | _, [] => []
  | i, p :: r => endsT i p ++ endsTs (i + sizeT p) r
end
mutual
theorem kidsT_len : ∀ (i : Nat) (p : Pt), (kidsT i p).length = sizeT p
  | i, .mk b h as => by rw [kidsT, List.length_cons, kidsTs_len, sizeT, Nat.add_comm]
theorem kidsTs_len : ∀ (i : Nat) (ps : List Pt), (kidsTs i ps).length = sizeTs ps
  | _, [] => by rw [kidsTs, sizeTs]; rfl
  | i, p :: r => by rw [kidsTs, List.length_append, kidsT_len, kidsTs_len, sizeTs]
end
mutual
theorem bndsT_len : ∀ (i : Nat) (p : Pt), (bndsT i p).length = sizeT p
  | i, .mk b h as => by rw [bndsT, List.length_cons, bndsTs_len, sizeT, Nat.add_comm]
theorem bndsTs_len : ∀ (i : Nat) (ps : List Pt), (bndsTs i ps).length = sizeTs ps
  | _, [] => by rw [bndsTs, sizeTs]; rfl
  | i, p :: r => by rw [bndsTs, List.length_append, bndsT_len, bndsTs_len, sizeTs]
end
mutual
theorem endsT_len : ∀ (i : Nat) (p : Pt), (endsT i p).length = sizeT p
  | i, .mk b h as => by rw [endsT, List.length_cons, endsTs_len, sizeT, Nat.add_comm]
theorem endsTs_len : ∀ (i : Nat) (ps : List Pt), (endsTs i ps).length = sizeTs ps
  | _, [] => by rw [endsTs, sizeTs]; rfl
  | i, p :: r => by rw [endsTs, List.length_append, endsT_len, endsTs_len, sizeTs]
end
theorem startsT_len (i : Nat) : ∀ (ps : List Pt), (startsT i ps).length = ps.length := by
  intro ps
  unfold startsT
  rw [List.length_map]
  induction ps generalizing i with
  | nil => rfl
  | cons p r ih => rw [startsP, List.length_cons, ih, List.length_cons]
theorem startsP_mem : ∀ {ps : List Pt} {i : Nat} {x : Nat × Pt}, x ∈ startsP i ps → ∃ pre post, ps = pre ++ x.2 :: post ∧ x.1 = i + sizeTs pre
  | [], _, _, h => absurd h List.not_mem_nil
  | p :: r, i, x, h => by
    rw [startsP] at h
    rcases List.mem_cons.mp h with rfl | h
    · exact ⟨[], r, rfl, by rw [sizeTs]; rfl⟩
    · obtain ⟨pre, post, h1, h2⟩ := startsP_mem h
      refine ⟨p :: pre, post, by rw [h1]; rfl, ?_⟩
      rw [h2, sizeTs]
      omega
theorem startsT_app (i : Nat) : ∀ (ps qs : List Pt), startsT i (ps ++ qs) = startsT i ps ++ startsT (i + sizeTs ps) qs := by
  intro ps qs
  unfold startsT
  rw [← List.map_append]
  congr 1
  induction ps generalizing i with
  | nil => rw [sizeTs]; rfl
  | cons p r ih =>
    rw [List.cons_append, startsP, startsP, ih, sizeTs, List.cons_append]
    congr 3
    omega
theorem kidsTs_app : ∀ (ps qs : List Pt) (i : Nat), kidsTs i (ps ++ qs) = kidsTs i ps ++ kidsTs (i + sizeTs ps) qs
  | [], qs, i => by rw [kidsTs, sizeTs]; rfl
  | p :: r, qs, i => by
    rw [List.cons_append, kidsTs, kidsTs, kidsTs_app r qs, sizeTs, List.append_assoc]
    congr 3
    omega
theorem bndsTs_app : ∀ (ps qs : List Pt) (bd : Nat), bndsTs bd (ps ++ qs) = bndsTs bd ps ++ bndsTs bd qs
  | [], qs, bd => by rw [bndsTs]; rfl
  | p :: r, qs, bd => by rw [List.cons_append, bndsTs, bndsTs, bndsTs_app r qs, List.append_assoc]
theorem endsTs_app : ∀ (ps qs : List Pt) (i : Nat), endsTs i (ps ++ qs) = endsTs i ps ++ endsTs (i + sizeTs ps) qs
  | [], qs, i => by rw [endsTs, sizeTs]; rfl
  | p :: r, qs, i => by
    rw [List.cons_append, endsTs, endsTs, endsTs_app r qs, sizeTs, List.append_assoc]
    congr 3
    omega
/-! ### what the program's rows are -/
mutual
theorem st_T : ∀ (p : Pt) (i : Nat) (r : List Nod) (w : List Nat) (K : List (List Nat)), stP (i + sizeT p) r = some (w, K) → stP i (nodesT p ++ r) = some (i :: w, kidsT i p ++ K)
  | .mk b h as, i, r, w, K, hs => by
    rw [sizeT] at hs
    have h1 := st_Ts as (i + 1) r w K (by rw [← hs]; congr 1; omega)
    rw [nodesT, List.cons_append, stP, h1]
    have e1 : (startsT (i + 1) as ++ w).take as.length = startsT (i + 1) as := List.take_left' (startsT_len _ _)
    have e2 : (startsT (i + 1) as ++ w).drop as.length = w := List.drop_left' (startsT_len _ _)
    have e3 : as.length ≤ (startsT (i + 1) as ++ w).length := by
      rw [List.length_append, startsT_len]
      omega
    show (if as.length ≤ (startsT (i + 1) as ++ w).length then some (i :: (startsT (i + 1) as ++ w).drop as.length, (startsT (i + 1) as ++ w).take as.length :: (kidsTs (i + 1) as ++ K)) else none) = _
    rw [if_pos e3, e1, e2, kidsT]
    rfl
theorem st_Ts : ∀ (ps : List Pt) (i : Nat) (r : List Nod) (w : List Nat) (K : List (List Nat)), stP (i + sizeTs ps) r = some (w, K) → stP i (nodesTs ps ++ r) = some (startsT i ps ++ w, kidsTs i ps ++ K)
  | [], i, r, w, K, hs => by
    rw [sizeTs] at hs
    rw [nodesTs, kidsTs]
    exact hs
  | p :: q, i, r, w, K, hs => by
    rw [sizeTs] at hs
    have h1 := st_Ts q (i + sizeT p) r w K (by rw [← hs]; congr 1; omega)
    have h2 := st_T p i (nodesTs q ++ r) _ _ h1
    rw [nodesTs, List.append_assoc, h2, kidsTs, List.append_assoc]
    unfold startsT
    rw [startsP]
    rfl
end
theorem kidsP_T (p : Pt) : kidsP (nodesT p) = some (kidsT 0 p) := by
  have h := st_T p 0 [] [] [] rfl
  rw [List.append_nil, List.append_nil] at h
  unfold kidsP
  rw [h]
  rfl
mutual
theorem bnds_T : ∀ (p : Pt) (bd : Nat) (t : List Nat) (r : List Nod), bndsP (bd :: t) (nodesT p ++ r) = bndsT bd p ++ bndsP t r
  | .mk b h as, bd, t, r => by
    rw [nodesT, List.cons_append, bndsP, bndsT]
    show bd :: bndsP (List.replicate as.length (bd + b) ++ t) (nodesTs as ++ r) = _
    rw [bnds_Ts as (bd + b) t r]
    rfl
theorem bnds_Ts : ∀ (ps : List Pt) (bd : Nat) (t : List Nat) (r : List Nod), bndsP (List.replicate ps.length bd ++ t) (nodesTs ps ++ r) = bndsTs bd ps ++ bndsP t r
  | [], bd, t, r => by
    rw [nodesTs, bndsTs]
    rfl
  | p :: q, bd, t, r => by
    rw [List.length_cons, List.replicate_succ, List.cons_append, nodesTs, List.append_assoc, bnds_T p bd _ _, bnds_Ts q bd t r, bndsTs, List.append_assoc]
end
theorem bndsP_T (p : Pt) : bndsP [0] (nodesT p) = bndsT 0 p := by
  have h := bnds_T p 0 [] []
  rw [List.append_nil] at h
  rw [h, bndsP, List.append_nil]
theorem endsTs_at (pre post : List Pt) (q : Pt) (i : Nat) (R : List Nat) : (endsTs i (pre ++ q :: post) ++ R)[sizeTs pre]? = some (i + sizeTs pre + sizeT q) := by
  rw [endsTs_app, endsTs, List.append_assoc, List.append_assoc, List.getElem?_append_right (by rw [endsTs_len]; exact Nat.le_refl _), endsTs_len, Nat.sub_self]
  cases q with
  | mk b h as =>
    rw [endsT, List.cons_append, List.getElem?_cons_zero, sizeT, Nat.add_assoc]
mutual
theorem ends_T : ∀ (p : Pt) (i : Nat) (R : List (List Nat)), endsP i (kidsT i p ++ R) = endsT i p ++ endsP (i + sizeT p) R
  | .mk b h as, i, R => by
    have ih := ends_Ts as (i + 1) R
    rw [kidsT, List.cons_append, endsP, ih, endsT, sizeT, List.cons_append]
    have e0 : i + 1 + sizeTs as = i + (1 + sizeTs as) := by omega
    rw [e0]
    congr 1
    cases hl : as.getLast? with
    | none =>
      have ha : as = [] := List.getLast?_eq_none_iff.mp hl
      subst ha
      rw [sizeTs]
      rfl
    | some q =>
      obtain ⟨pre, rfl⟩ := List.getLast?_eq_some_iff.mp hl
      have e1 : (startsT (i + 1) (pre ++ [q])).getLast? = some (i + 1 + sizeTs pre) := by
        rw [startsT_app]
        unfold startsT
        rw [startsP, startsP, List.map_cons, List.map_nil, List.getLast?_append]
        rfl
      rw [e1]
      show (endsTs (i + 1) (pre ++ [q]) ++ endsP (i + (1 + sizeTs (pre ++ [q]))) R).getD (i + 1 + sizeTs pre - (i + 1)) 0 = _
      rw [Nat.add_sub_cancel_left, List.getD_eq_getElem?_getD, endsTs_at, sizeTs_app, sizeTs, sizeTs]
      show i + 1 + sizeTs pre + sizeT q = _
      omega
theorem ends_Ts : ∀ (ps : List Pt) (i : Nat) (R : List (List Nat)), endsP i (kidsTs i ps ++ R) = endsTs i ps ++ endsP (i + sizeTs ps) R
  | [], i, R => by
    rw [kidsTs, endsTs, sizeTs]
    rfl
  | p :: q, i, R => by
    rw [kidsTs, List.append_assoc, ends_T p i _, ends_Ts q (i + sizeT p) R, endsTs, sizeTs, List.append_assoc]
    congr 3
    omega
end
theorem endsP_T (p : Pt) : endsP 0 (kidsT 0 p) = endsT 0 p := by
  have h := ends_T p 0 []
  rw [List.append_nil] at h
  rw [h, endsP, List.append_nil]
/-! ### a tree at a place of the rows -/
structure AtP (ns : List Nod) (K : List (List Nat)) (B E : List Nat) (p : Pt) (bd i : Nat) : Prop where
  n : ∃ r, ns.drop i = nodesT p ++ r
  k : ∃ r, K.drop i = kidsT i p ++ r
  b : ∃ r, B.drop i = bndsT bd p ++ r
  e : ∃ r, E.drop i = endsT i p ++ r
theorem AtP.root (p : Pt) : AtP (nodesT p) (kidsT 0 p) (bndsT 0 p) (endsT 0 p) p 0 0 := ⟨⟨[], (List.append_nil _).symm⟩, ⟨[], (List.append_nil _).symm⟩, ⟨[], (List.append_nil _).symm⟩, ⟨[], (List.append_nil _).symm⟩⟩
theorem drop_at {α : Type} {l a b : List α} {i n : Nat} (h : l.drop i = a ++ b) (hn : a.length = n) : l.drop (i + n) = b := by
  rw [← List.drop_drop, h, List.drop_left' hn]
theorem head_at {α : Type} {l r : List α} {x : α} {i : Nat} (h : l.drop i = x :: r) : l[i]? = some x := by
  have e : (l.drop i)[0]? = some x := by rw [h]; rfl
  rw [List.getElem?_drop, Nat.add_zero] at e
  exact e
section
variable {ns : List Nod} {K : List (List Nat)} {B E : List Nat} {b bd i : Nat} {h : Str} {as : List Pt}
theorem AtP.node (a : AtP ns K B E (.mk b h as) bd i) : ns[i]? = some (b, h, as.length) := by
  obtain ⟨r, e⟩ := a.n
  rw [nodesT, List.cons_append] at e
  exact head_at e
theorem AtP.kids (a : AtP ns K B E (.mk b h as) bd i) : K[i]? = some (startsT (i + 1) as) := by
  obtain ⟨r, e⟩ := a.k
  rw [kidsT, List.cons_append] at e
  exact head_at e
theorem AtP.bound (a : AtP ns K B E (.mk b h as) bd i) : B[i]? = some bd := by
  obtain ⟨r, e⟩ := a.b
  rw [bndsT, List.cons_append] at e
  exact head_at e
theorem AtP.endd (a : AtP ns K B E (.mk b h as) bd i) : E[i]? = some (i + sizeT (.mk b h as)) := by
  obtain ⟨r, e⟩ := a.e
  rw [endsT, List.cons_append] at e
  rw [head_at e, sizeT]
  congr 1
  omega
theorem AtP.kid {pre post : List Pt} {q : Pt} (a : AtP ns K B E (.mk b h (pre ++ q :: post)) bd i) : AtP ns K B E q (bd + b) (i + 1 + sizeTs pre) := by
  obtain ⟨⟨r1, e1⟩, ⟨r2, e2⟩, ⟨r3, e3⟩, ⟨r4, e4⟩⟩ := a
  rw [nodesT, nodesTs_app, nodesTs, List.cons_append, List.append_assoc, List.append_assoc, ← List.cons_append] at e1
  rw [kidsT, kidsTs_app, kidsTs, List.cons_append, List.append_assoc, List.append_assoc, ← List.cons_append] at e2
  rw [bndsT, bndsTs_app, bndsTs, List.cons_append, List.append_assoc, List.append_assoc, ← List.cons_append] at e3
  rw [endsT, endsTs_app, endsTs, List.cons_append, List.append_assoc, List.append_assoc, ← List.cons_append] at e4
  have d1 := drop_at e1 (n := 1 + sizeTs pre) (by rw [List.length_cons, nodes_lens]; omega)
  have d2 := drop_at e2 (n := 1 + sizeTs pre) (by rw [List.length_cons, kidsTs_len]; omega)
  have d3 := drop_at e3 (n := 1 + sizeTs pre) (by rw [List.length_cons, bndsTs_len]; omega)
  have d4 := drop_at e4 (n := 1 + sizeTs pre) (by rw [List.length_cons, endsTs_len]; omega)
  rw [← Nat.add_assoc] at d1 d2 d3 d4
  exact ⟨⟨_, d1⟩, ⟨_, d2⟩, ⟨_, d3⟩, ⟨_, d4⟩⟩
end
/-- the places above a place: those whose programs reach behind it -/
structure AbE (E : List Nat) (i sz : Nat) (above : List Nat) : Prop where
  d : ∀ j < i, E.getD j 0 ≤ i ∨ i + sz ≤ E.getD j 0
  f : ((List.range i).filter fun j => decide (i < E.getD j 0)) = above
theorem endsTs_le : ∀ (ps : List Pt) (i : Nat), ∀ x ∈ endsTs i ps, x ≤ i + sizeTs ps
  | [], _, x, h => by
    rw [endsTs] at h
    exact absurd h List.not_mem_nil
  | .mk b h as :: r, i, x, hx => by
    rw [endsTs, endsT] at hx
    rw [sizeTs, sizeT]
    rcases List.mem_append.mp hx with hx | hx
    · rcases List.mem_cons.mp hx with rfl | hx
      · omega
      · have := endsTs_le as (i + 1) x hx
        omega
    · have := endsTs_le r (i + sizeT (.mk b h as)) x hx
      rw [sizeT] at this
      omega
theorem filter_cut {f g : Nat → Bool} {i c : Nat} (hic : i < c) (h1 : ∀ j < i, f j = g j) (h2 : f i = true) (h3 : ∀ j, i < j → j < c → f j = false) : (List.range c).filter f = (List.range i).filter g ++ [i] := by
  have e : List.range c = List.range i ++ (i :: (List.range (c - (i + 1))).map fun k => i + 1 + k) := by
    have e1 : c = (i + 1) + (c - (i + 1)) := by omega
    conv => lhs; rw [e1, List.range_add, List.range_succ]
    rw [List.append_assoc]
    rfl
  rw [e, List.filter_append, List.filter_cons, h2]
  congr 1
  · exact List.filter_congr fun j hj => h1 j (List.mem_range.mp hj)
  · rw [if_pos rfl, List.filter_eq_nil_iff.mpr fun x hx => ?_]
    obtain ⟨k, hk, rfl⟩ := List.mem_map.mp hx
    have hk := List.mem_range.mp hk
    rw [h3 _ (by omega) (by omega)]
    decide
theorem AbE.kid {E : List Nat} {b bd i : Nat} {h : Str} {pre post : List Pt} {q : Pt} {above : List Nat} {ns : List Nod} {K : List (List Nat)} {B : List Nat} (a : AtP ns K B E (.mk b h (pre ++ q :: post)) bd i) (ab : AbE E i (sizeT (.mk b h (pre ++ q :: post))) above) : AbE E (i + 1 + sizeTs pre) (sizeT q) (above ++ [i]) := by
  have hq := size_pos q
  have hsz : sizeT (.mk b h (pre ++ q :: post)) = 1 + (sizeTs pre + (sizeT q + sizeTs post)) := by rw [sizeT, sizeTs_app, sizeTs]
  have hi : E.getD i 0 = i + sizeT (.mk b h (pre ++ q :: post)) := by
    rw [List.getD_eq_getElem?_getD, a.endd]
    rfl
  have hmid : ∀ j, i < j → j < i + 1 + sizeTs pre → E.getD j 0 ≤ i + 1 + sizeTs pre := by
    intro j h1 h2
    obtain ⟨r, e⟩ := a.e
    rw [endsT, endsTs_app, List.cons_append, List.append_assoc] at e
    have e2 : E[j]? = (endsTs (i + 1) pre)[j - (i + 1)]? := by
      have e3 : (E.drop i)[j - i]? = E[j]? := by rw [List.getElem?_drop]; congr 1; omega
      rw [← e3, e, show j - i = (j - (i + 1)) + 1 by omega, List.getElem?_cons_succ, List.getElem?_append_left (by rw [endsTs_len]; omega)]
    rw [List.getD_eq_getElem?_getD, e2]
    have hl : j - (i + 1) < (endsTs (i + 1) pre).length := by rw [endsTs_len]; omega
    rw [List.getElem?_eq_getElem hl]
    exact endsTs_le pre (i + 1) _ (List.getElem_mem hl)
  constructor
  · intro j hj
    by_cases h1 : j < i
    · rcases ab.d j h1 with h2 | h2
      · exact .inl (by omega)
      · exact .inr (by omega)
    · by_cases h3 : j = i
      · subst h3
        exact .inr (by omega)
      · exact .inl (hmid j (by omega) hj)
  · rw [filter_cut (f := fun j => decide (i + 1 + sizeTs pre < E.getD j 0)) (g := fun j => decide (i < E.getD j 0)) (i := i) (c := i + 1 + sizeTs pre) (by omega) (fun j hj => ?_) (decide_eq_true (by omega)) fun j h1 h2 => decide_eq_false (by have := hmid j h1 h2; omega), ab.f]
    refine decide_eq_decide.mpr ?_
    rcases ab.d j hj with h2 | h2 <;> omega
theorem AbE.way {E : List Nat} {i sz : Nat} {above : List Nat} (ab : AbE E i sz above) (hi : i < E.getD i 0) : ((List.range (i + 1)).filter fun j => decide (i < E.getD j 0)) = above ++ [i] := by
  rw [List.range_succ, List.filter_append, ab.f]
  congr 1
  rw [List.filter_cons, decide_eq_true hi, if_pos rfl]
  rfl
theorem AbE.root (E : List Nat) (sz : Nat) : AbE E 0 sz [] := ⟨fun j hj => absurd hj (Nat.not_lt_zero j), rfl⟩
end KP
/-! KP48: trees with heads in their scope are programs; their texts. -/
namespace KP
open PySem L2 FP
variable [FP.Tabl]
/-- a head: one of some words, or a variable in scope -/
def scH (W : Str → Prop) (inner : Nat) (h : Str) : Prop := W h ∨ ∃ k, k < inner ∧ h = xS k
mutual
def scT (W : Str → Prop) : Nat → Pt → Prop
  | bd, .mk b h as => b ≤ 15 ∧ as.length ≤ 15 ∧ bd + b ≤ 100 ∧ scH W (bd + b) h ∧ scTs W (bd + b) as
def scTs (W : Str → Prop) : Nat → List Pt → Prop
  | _, [] => True
  | bd, p :: r => scT W bd p ∧ scTs W bd r
end
theorem scTs_mem {W : Str → Prop} {bd : Nat} : ∀ {ps : List Pt}, scTs W bd ps → ∀ p ∈ ps, scT W bd p
  | [], _, p, h => absurd h List.not_mem_nil
  | q :: r, hs, p, h => by
    rw [scTs] at hs
    rcases List.mem_cons.mp h with rfl | h
    · exact hs.1
    · exact scTs_mem hs.2 p h
theorem letter_no_digit : ∀ c ∈ letters, c ∉ digL := by decide +kernel
theorem word_level {z : Str} (h : isWordS z = true) : levelS z = none := by
  have hl := word_letters h
  unfold levelS
  split
  · rename_i x a e
    rw [e] at hl
    rw [if_neg]
    rintro ⟨_, h2⟩
    exact letter_no_digit a (hl a (by simp)) h2
  · rename_i x a b e
    rw [e] at hl
    rw [if_neg]
    rintro ⟨_, h2, _⟩
    exact letter_no_digit a (hl a (by simp)) h2
  · rfl
/-- the words that are meant are words -/
def WordsP (W : Str → Prop) : Prop := ∀ h, W h → isWordS h = true
section
variable {W : Str → Prop} (hW : WordsP W)
include hW
theorem scH.g {inner : Nat} {h : Str} (hi : inner ≤ 100) (o : scH W inner h) : headG h = true := by
  unfold headG
  rcases o with o | ⟨k, hk, rfl⟩
  · rw [hW h o]
    rfl
  · rw [(x_level k (by omega)).1]
    simp
theorem scH.row {bd b c : Nat} {h : Str} (hi : bd + b ≤ 100) (o : scH W (bd + b) h) : rowOk bd (b, h, c) = true := by
  unfold rowOk
  rw [decide_eq_true (show bd + b ≤ 100 from hi), Bool.true_and]
  rcases o with o | ⟨k, hk, rfl⟩
  · show (match levelS h with | none => true | some l => decide (l < ((bd + b : Nat) : Int))) = true
    rw [word_level (hW h o)]
  · show (match levelS (xS k) with | none => true | some l => decide (l < ((bd + b : Nat) : Int))) = true
    rw [(x_level k (by omega)).1]
    exact decide_eq_true (by omega)
omit hW in
theorem rows_app : ∀ (a c : List Nat) (x y : List Nod), a.length = x.length → rowsOk (a ++ c) (x ++ y) = (rowsOk a x && rowsOk c y)
  | [], c, [], y, _ => rfl
  | [], _, _ :: _, _, h => by cases h
  | _ :: _, _, [], _, h => by cases h
  | a :: as, c, x :: xs, y, h => by
    show (rowOk a x && rowsOk (as ++ c) (xs ++ y)) = ((rowOk a x && rowsOk as xs) && rowsOk c y)
    rw [rows_app as c xs y (Nat.succ.inj h), Bool.and_assoc]
mutual
theorem rows_T : ∀ (p : Pt) (bd : Nat), scT W bd p → rowsOk (bndsT bd p) (nodesT p) = true
  | .mk b h as, bd, o => by
    rw [scT] at o
    rw [bndsT, nodesT]
    show (rowOk bd (b, h, as.length) && rowsOk (bndsTs (bd + b) as) (nodesTs as)) = true
    rw [scH.row hW o.2.2.1 o.2.2.2.1, rows_Ts as (bd + b) o.2.2.2.2]
    rfl
theorem rows_Ts : ∀ (ps : List Pt) (bd : Nat), scTs W bd ps → rowsOk (bndsTs bd ps) (nodesTs ps) = true
  | [], bd, _ => by
    rw [bndsTs, nodesTs]
    rfl
  | p :: r, bd, o => by
    rw [scTs] at o
    rw [bndsTs, nodesTs, rows_app _ _ _ _ (by rw [bndsT_len, nodes_len]), rows_T p bd o.1, rows_Ts r bd o.2]
    rfl
end
mutual
theorem good_T : ∀ (p : Pt) (bd : Nat), scT W bd p → ∀ n ∈ nodesT p, NodG n ∧ scH W 100 n.2.1
  | .mk b h as, bd, o, n, hn => by
    rw [scT] at o
    rw [nodesT] at hn
    rcases List.mem_cons.mp hn with rfl | hn
    · exact ⟨⟨o.1, o.2.1, scH.g hW o.2.2.1 o.2.2.2.1⟩, o.2.2.2.1.imp (fun x => x) fun ⟨k, hk, e⟩ => ⟨k, by omega, e⟩⟩
    · exact good_Ts as (bd + b) o.2.2.2.2 n hn
theorem good_Ts : ∀ (ps : List Pt) (bd : Nat), scTs W bd ps → ∀ n ∈ nodesTs ps, NodG n ∧ scH W 100 n.2.1
  | [], bd, _, n, hn => by
    rw [nodesTs] at hn
    exact absurd hn List.not_mem_nil
  | p :: r, bd, o, n, hn => by
    rw [scTs] at o
    rw [nodesTs] at hn
    rcases List.mem_append.mp hn with hn | hn
    · exact good_T p bd o.1 n hn
    · exact good_Ts r bd o.2 n hn
end
theorem are_T {p : Pt} (o : scT W 0 p) (h40 : sizeT p ≤ 40) : areP (.tup ((nodesT p).map nodD)) = true := by
  have h1 := size_pos p
  show (decide (1 ≤ ((nodesT p).map nodD).length) && (decide (((nodesT p).map nodD).length ≤ 40) && (((nodesT p).map nodD).all isNodeD && areN (((nodesT p).map nodD).map toNod)))) = true
  rw [toNods, List.length_map, nodes_len, decide_eq_true h1, decide_eq_true h40]
  have e : ((nodesT p).map nodD).all isNodeD = true := by
    rw [List.all_eq_true]
    intro x hx
    obtain ⟨n, hn, rfl⟩ := List.mem_map.mp hx
    exact nod_isNode (good_T hW p 0 o n hn).1
  rw [e]
  unfold areN
  rw [kidsP_T, bndsP_T, rows_T hW p 0 o]
  rfl
theorem scH.ok {h : Str} (o : scH W 100 h) : PyData.strOk h = true ∧ okStr h ∧ h.length ≤ 8 := by
  rcases o with o | ⟨k, hk, rfl⟩
  · exact ⟨(strOk_iff h).mpr (word_ok (hW h o)).2, word_ok (hW h o), (word_len (hW h o)).2⟩
  · have hx := headW.ok (.inr ⟨k, hk, rfl⟩)
    refine ⟨hx.1, hx.2, ?_⟩
    unfold xS
    rw [str_len, str_app, List.length_append, ← str_len, ← str_len]
    have h2 := x_len k hk
    have h1 : ("x" : Str).length = 1 := by decide +kernel
    omega
theorem okNs_T {p : Pt} {bd : Nat} (o : scT W bd p) : okNs (.tup ((nodesT p).map nodD)) := by
  intro x hx
  obtain ⟨n, hn, rfl⟩ := List.mem_map.mp hx
  exact ⟨trivial, (scH.ok hW (good_T hW p bd o n hn).2).2.1, trivial⟩
theorem sh_T {p : Pt} {bd n : Nat} (o : scT W bd p) : shDs (n + 1) ((nodesT p).map nodD) = true := shDs_of fun x hx => by
  obtain ⟨m, hm, rfl⟩ := List.mem_map.mp hx
  exact sh_tup (sh_cons sh_int (sh_cons (sh_str (scH.ok hW (good_T hW p bd o m hm).2).1) (sh_cons sh_int sh_nil)))
end
/-! ### texts -/
def xsL (bd b : Nat) : List Str := (List.range b).map fun k => xS (bd + k)
def headT (bd b : Nat) : Str := if b = 0 then "" else (("\\" : Str) ++ Str.join " " (xsL bd b)) ++ ". "
def flatT : Pt → Bool
  | .mk b _ as => decide (b = 0) && as.isEmpty
def parT (f : Bool) (t : Str) : Str := if f = true then t else (("(" : Str) ++ t) ++ ")"
mutual
def textT : Nat → Pt → Str
  | bd, .mk b h as => headT bd b ++ Str.join " " (h :: argsT (bd + b) as)
def argsT : Nat → List Pt → List Str
  | _, [] => []
  | bd, q :: r => parT (flatT q) (textT bd q) :: argsT bd r
end
theorem argsT_map (bd : Nat) : ∀ as : List Pt, argsT bd as = as.map fun q => parT (flatT q) (textT bd q)
  | [] => by rw [argsT, List.map_nil]
  | q :: r => by rw [argsT, argsT_map bd r, List.map_cons]
theorem join1_len (ys : List Str) : (Str.join " " ys).length ≤ (ys.map (·.length)).sum + ys.length * 1 := by
  have h := StrLaws.join_length_le " " ys
  have h1 : (" " : Str).length = 1 := by decide +kernel
  rw [h1] at h
  exact h
theorem xS_len {k : Nat} (h : k < 100) : (xS k).length ≤ 3 := by
  unfold xS
  rw [len_app]
  have h2 := x_len k h
  have h1 : ("x" : Str).length = 1 := by decide +kernel
  omega
theorem names_sum {bd b : Nat} (h : bd + b ≤ 100) : ((xsL bd b).map (·.length)).sum ≤ 3 * b := by
  induction b with
  | zero => exact Nat.le_refl 0
  | succ b ih =>
    have ih := ih (by omega)
    have hx := xS_len (k := bd + b) (by omega)
    unfold xsL at ih ⊢
    rw [List.range_succ, List.map_append, List.map_append, List.sum_append]
    show _ + ((xS (bd + b)).length + 0) ≤ _
    omega
theorem xsL_len (bd b : Nat) : (xsL bd b).length = b := by
  unfold xsL
  rw [List.length_map, List.length_range]
theorem headT_len {bd b : Nat} (hb : b ≤ 15) (h : bd + b ≤ 100) : (headT bd b).length ≤ 63 := by
  unfold headT
  split
  · exact Nat.zero_le _
  · have e1 : ("\\" : Str).length = 1 := by decide +kernel
    have e2 : (". " : Str).length = 2 := by decide +kernel
    have h1 := join1_len (xsL bd b)
    have h2 := names_sum h
    rw [xsL_len] at h1
    rw [len_app, len_app]
    omega
theorem parT_len (f : Bool) (t : Str) : (parT f t).length ≤ t.length + 2 := by
  unfold parT
  split
  · omega
  · have e1 : ("(" : Str).length = 1 := by decide +kernel
    have e2 : (")" : Str).length = 1 := by decide +kernel
    rw [len_app, len_app]
    omega
section
variable {W : Str → Prop} (hW : WordsP W)
include hW
theorem scH.len {inner : Nat} {h : Str} (hi : inner ≤ 100) (o : scH W inner h) : h.length ≤ 8 := (scH.ok hW (o.imp (fun x => x) fun ⟨k, hk, e⟩ => ⟨k, by omega, e⟩)).2.2
mutual
theorem txt_len : ∀ (p : Pt) (bd : Nat), scT W bd p → (textT bd p).length + 3 ≤ 83 * sizeT p
  | .mk b h as, bd, o => by
    rw [scT] at o
    have h1 := headT_len o.1 o.2.2.1
    have h2 := scH.len hW o.2.2.1 o.2.2.2.1
    have h3 := args_len as (bd + b) o.2.2.2.2
    have h4 := join1_len (h :: argsT (bd + b) as)
    rw [List.map_cons, List.sum_cons, List.length_cons] at h4
    rw [textT, len_app, sizeT]
    omega
theorem args_len : ∀ (ps : List Pt) (bd : Nat), scTs W bd ps → ((argsT bd ps).map (·.length)).sum + (argsT bd ps).length ≤ 83 * sizeTs ps
  | [], bd, _ => by
    rw [argsT]
    exact Nat.zero_le _
  | p :: r, bd, o => by
    rw [scTs] at o
    have h1 := txt_len p bd o.1
    have h2 := args_len r bd o.2
    have h3 := parT_len (flatT p) (textT bd p)
    have h4 := size_pos p
    rw [argsT, List.map_cons, List.sum_cons, List.length_cons, sizeTs]
    omega
end
end
end KP
/-! KP49: what the defs of programs promise; small steps. -/
namespace KP
open PySem L2 FP
variable [FP.Tabl]
/-- a program at hand -/
structure PG (W : Str → Prop) (p : Pt) : Prop where
  w : WordsP W
  s : scT W 0 p
  z : sizeT p ≤ 40
def progT (p : Pt) : List (Str × D) := [("own_nodes", .tup ((nodesT p).map nodD)), ("own_kids", .tup ((kidsT 0 p).map kidD)), ("own_ends", .tup (natsD (endsT 0 p))), ("own_bound", .tup (natsD (bndsT 0 p)))]
theorem progF_T (p : Pt) : progF ((nodesT p).map nodD) = progT p := by
  rw [progF_eq (kidsP_T p), endsP_T, bndsP_T]
  rfl
def progD (p : Pt) : D := .ins "Program" (progT p)
/-! ### texts -/
def f_vartext : List D → M D := fun ds Q _ => match ds with
  | [.int l] => ∃ k : Nat, l = (k : Int) ∧ k < 100 ∧ Q (.str (xS k))
  | _ => False
def f_ntext (d : Nat) : List D → M D := fun ds Q _ => match ds with
  | [.tup xs, .tup ys, .tup zs, .int at'] => ∃ (ns : List Nod) (K : List (List Nat)) (B E : List Nat) (W : Str → Prop) (p : Pt) (bd i : Nat), WordsP W ∧ xs = ns.map nodD ∧ ys = K.map kidD ∧ zs = natsD B ∧ at' = (i : Int) ∧ AtP ns K B E p bd i ∧ scT W bd p ∧ sizeT p < d ∧ sizeT p ≤ 60 ∧ Q (.str (textT bd p))
  | _ => False
def f_atext (d : Nat) : List D → M D := fun ds Q _ => match ds with
  | [.tup xs, .tup ys, .tup zs, .int at'] => ∃ (ns : List Nod) (K : List (List Nat)) (B E : List Nat) (W : Str → Prop) (p : Pt) (bd i : Nat), WordsP W ∧ xs = ns.map nodD ∧ ys = K.map kidD ∧ zs = natsD B ∧ at' = (i : Int) ∧ AtP ns K B E p bd i ∧ scT W bd p ∧ sizeT p < d ∧ sizeT p ≤ 60 ∧ Q (.str (parT (flatT p) (textT bd p)))
  | _ => False
theorem nope_ntext (ds : List D) (Q : D → Prop) (E : XD → Prop) (h : f_ntext 0 ds Q E) : False := by
  unfold f_ntext at h
  split at h
  · obtain ⟨_, _, _, _, _, _, _, _, _, _, _, _, _, _, _, h, _⟩ := h
    omega
  · exact h
/-! ### programs told -/
def f_initN : List D → ((List (Str × D)) → Prop) → (XD → Prop) → Prop := fun ds Q _ => match ds with
  | [d] => Q [("told_nodes", d)]
  | _ => False
def f_initPN : List D → ((List (Str × D)) → Prop) → (XD → Prop) → Prop := fun ds Q Ex => match ds with
  | [d] => f_initP [d] Q Ex ∨ ∃ p : Pt, d = .ins "Nodes" [("told_nodes", .tup ((nodesT p).map nodD))] ∧ sizeT p ≤ 900 ∧ Q (progT p)
  | _ => False
def f_progin : List D → M D := fun ds Q _ => match ds with
  | [d] => ∃ p : Pt, d = .tup ((nodesT p).map nodD) ∧ sizeT p ≤ 900 ∧ Q (progD p)
  | _ => False
def f_nodesT : List D → M D := fun ds Q _ => match ds with
  | [x] => ∃ p : Pt, x = progD p ∧ Q (.tup ((nodesT p).map nodD))
  | _ => False
def f_textP : List D → M D := fun ds Q _ => match ds with
  | [x] => ∃ (W : Str → Prop) (p : Pt), x = progD p ∧ PG W p ∧ Q (.str (textT 0 p))
  | _ => False
def f_sizeP : List D → M D := fun ds Q _ => match ds with
  | [x] => ∃ p : Pt, x = progD p ∧ Q (.int (sizeT p))
  | _ => False
def headsT (p : Pt) : List Str := (nodesT p).map fun n => n.2.1
def partsU (p : Pt) : List Str := sortU ((headsT p).filter fun h => isWordS h)
def f_partsused : List D → M D := fun ds Q _ => match ds with
  | [x] => ∃ (W : Str → Prop) (p : Pt), x = .tup ((nodesT p).map nodD) ∧ PG W p ∧ Q (.tup ((partsU p).map .str))
  | _ => False
def f_partsP : List D → M D := fun ds Q _ => match ds with
  | [x] => ∃ (W : Str → Prop) (p : Pt), x = progD p ∧ PG W p ∧ Q (.tup ((partsU p).map .str))
  | _ => False
def countsK (p : Pt) : List (Key × D) := (partsU p).foldl (fun a z => putKD a (.inr z) (.int ((headsT p).count z : Nat))) []
def f_countsP : List D → M D := fun ds Q _ => match ds with
  | [x] => ∃ (W : Str → Prop) (p : Pt), x = progD p ∧ PG W p ∧ Q (.dct (countsK p))
  | _ => False
def f_reqplace : List D → M D := fun ds Q _ => match ds with
  | [x, .int at'] => ∃ (p : Pt) (i : Nat), x = progD p ∧ sizeT p ≤ 40 ∧ at' = (i : Int) ∧ i < sizeT p ∧ Q .non
  | _ => False
/-- a tree at a place of a program -/
def AtT (p q : Pt) (bd i : Nat) : Prop := AtP (nodesT p) (kidsT 0 p) (bndsT 0 p) (endsT 0 p) q bd i
theorem AtT.lt {p q : Pt} {bd i : Nat} (h : AtT p q bd i) : i + sizeT q ≤ sizeT p := by
  obtain ⟨r, e⟩ := h.n
  have h1 := congrArg List.length e
  rw [List.length_drop, List.length_append, nodes_len, nodes_len] at h1
  have := size_pos q
  omega
def f_atP (g : Pt → Nat → Nat → D) : List D → M D := fun ds Q _ => match ds with
  | [x, .int at'] => ∃ (p q : Pt) (bd i : Nat), x = progD p ∧ sizeT p ≤ 40 ∧ at' = (i : Int) ∧ AtT p q bd i ∧ Q (g q bd i)
  | _ => False
def f_wayP : List D → M D := fun ds Q _ => match ds with
  | [x, .int at'] => ∃ (p q : Pt) (bd i : Nat) (above : List Nat), x = progD p ∧ sizeT p ≤ 40 ∧ at' = (i : Int) ∧ AtT p q bd i ∧ AbE (endsT 0 p) i (sizeT q) above ∧ Q (.tup (natsD (above ++ [i])))
  | _ => False
def f_contP : List D → M D := fun ds Q _ => match ds with
  | [x, .str z] => ∃ (W : Str → Prop) (p : Pt), x = progD p ∧ PG W p ∧ okStr z ∧ Q (.bl (decide (z ∈ partsU p)))
  | _ => False
/-! ### order and equality of nodes -/
def pyN (ns : List Nod) : List PyData := ns.map fun n => .tuple [.int (n.1 : Nat), .str n.2.1, .int (n.2.2 : Nat)]
theorem py_nods : ∀ ns : List Nod, toPys (ns.map nodD) = some (pyN ns)
  | [] => rfl
  | n :: r => by
    have ih := py_nods r
    rw [List.map_cons, toPys, ih]
    rfl
theorem py_tup (ns : List Nod) : toPy (.tup (ns.map nodD)) = some (.tuple (pyN ns)) := by
  rw [toPy, py_nods]
theorem py_lst (ns : List Nod) : toPy (.lst (ns.map nodD)) = some (.list (pyN ns)) := by
  rw [toPy, py_nods]
theorem alike_nods : ∀ ns ms : List Nod, PySem.W.alikeAll (pyN ns) (pyN ms) = true
  | [], _ => by
    unfold pyN
    rw [List.map_nil, PySem.W.alikeAll]
  | _ :: _, [] => by
    unfold pyN
    rw [List.map_nil, List.map_cons, PySem.W.alikeAll]
  | n :: ns, m :: ms => by
    have ih := alike_nods ns ms
    unfold pyN at ih ⊢
    rw [List.map_cons, List.map_cons, PySem.W.alikeAll, ih]
    simp [PySem.W.alike, PySem.W.alikeAll]
theorem depth_nods : ∀ ns : List Nod, PyData.depthAll (pyN ns) ≤ 1
  | [] => Nat.zero_le _
  | n :: r => by
    have ih := depth_nods r
    unfold pyN at ih ⊢
    rw [List.map_cons, PyData.depthAll]
    have e : PyData.depth (.tuple [.int (n.1 : Nat), .str n.2.1, .int (n.2.2 : Nat)]) = 1 := by
      simp [PyData.depth, PyData.depthAll]
    omega
def eqNd (ns ms : List Nod) : Bool := PyData.eqvAll (pyN ns) (pyN ms)
def lenPair (ns : List Nod) : PyData := .tuple [.int (ns.length : Nat), .tuple (pyN ns)]
def aheadN (ns ms : List Nod) : Bool := PySem.W.dataLt (lenPair ns) (lenPair ms)
theorem alike_pair (ns ms : List Nod) : PySem.W.alike (lenPair ns) (lenPair ms) = true := by
  unfold lenPair
  rw [PySem.W.alike, PySem.W.alikeAll, PySem.W.alikeAll, PySem.W.alikeAll, PySem.W.alike, PySem.W.alike, alike_nods]
  rfl
/-- the shorter one comes ahead, among equally long ones the less one -/
theorem ahead_eq (ns ms : List Nod) : aheadN ns ms = (decide (ns.length < ms.length) || (decide (ns.length = ms.length) && PySem.W.dataLt (.list (pyN ns)) (.list (pyN ms)))) := by
  unfold aheadN lenPair
  rw [PySem.W.dataLt_tuple]
  have hal : PySem.W.alike (.int (ns.length : Nat)) (.int (ms.length : Nat)) = true := by rw [PySem.W.alike]
  have hal2 : PySem.W.alike (.tuple (pyN ns)) (.tuple (pyN ms)) = true := by rw [PySem.W.alike, alike_nods]
  by_cases h : ns.length = ms.length
  · have e : PyData.eqv (.int (ns.length : Nat)) (.int (ms.length : Nat)) = true := by
      rw [h]
      simp [PyData.eqv]
    rw [PySem.W.dataLt_all_yes hal e, decide_eq_true h, decide_eq_false (by omega), Bool.false_or, Bool.true_and]
    cases e2 : PyData.eqv (.tuple (pyN ns)) (.tuple (pyN ms)) with
    | false =>
      rw [PySem.W.dataLt_all_no hal2 e2, PySem.W.dataLt_tuple, PySem.W.dataLt_list]
    | true =>
      rw [PySem.W.dataLt_all_yes hal2 e2]
      have e3 : pyN ns = pyN ms ∨ True := .inr trivial
      have h1 := (PySem.W.toks_eqv _ _ hal2).1 e2
      rw [PySem.W.keyToks, PySem.W.keyToks] at h1
      rw [PySem.W.dataLt_list, h1]
      exact (PyProof.Rows.lex_irrefl (O := PyProof.Rows.itemOrd) _).trans (PyProof.Rows.lex_irrefl (O := PyProof.Rows.itemOrd) _).symm
  · have e : PyData.eqv (.int (ns.length : Nat)) (.int (ms.length : Nat)) = false := by
      simp [PyData.eqv]
      omega
    rw [PySem.W.dataLt_all_no hal e, PySem.W.dataLt_int, decide_eq_false h, Bool.false_and, Bool.or_false]
    exact decide_eq_decide.mpr (by omega)
theorem ahead_self (ns : List Nod) : aheadN ns ns = false := by
  unfold aheadN PySem.W.dataLt
  exact PyProof.Rows.lex_irrefl (O := PyProof.Rows.itemOrd) _
def f_eqP : List D → M D := fun ds Q _ => match ds with
  | [x, y] => ∃ p : Pt, x = progD p ∧ shDs 63 ((nodesT p).map nodD) = true ∧ ((∃ q : Pt, y = progD q ∧ shDs 63 ((nodesT q).map nodD) = true ∧ Q (.bl (eqNd (nodesT p) (nodesT q)))) ∨ (isiD ["Program"] (fun _ => true) y = some false ∧ Q (.bl false)))
  | _ => False
def f_aheadP : List D → M D := fun ds Q _ => match ds with
  | [x, y] => ∃ p q : Pt, x = progD p ∧ y = progD q ∧ Q (.bl (aheadN (nodesT p) (nodesT q)))
  | _ => False
/-! ### other words -/
mutual
def renT (f : Str → Str) : Pt → Pt
  | .mk b h as => .mk b (f h) (renTs f as)
def renTs (f : Str → Str) : List Pt → List Pt
  | [] => []
  | p :: r => renT f p :: renTs f r
end
theorem renTs_len (f : Str → Str) : ∀ ps : List Pt, (renTs f ps).length = ps.length
  | [] => by rw [renTs]
  | p :: r => by rw [renTs, List.length_cons, renTs_len f r, List.length_cons]
def renN (f : Str → Str) (n : Nod) : Nod := (n.1, f n.2.1, n.2.2)
mutual
theorem ren_nodes (f : Str → Str) : ∀ p : Pt, nodesT (renT f p) = (nodesT p).map (renN f)
  | .mk b h as => by
    rw [renT, nodesT, nodesT, List.map_cons, ren_nodess f as, renTs_len]
    rfl
theorem ren_nodess (f : Str → Str) : ∀ ps : List Pt, nodesTs (renTs f ps) = (nodesTs ps).map (renN f)
  | [] => by rw [renTs, nodesTs, List.map_nil]
  | p :: r => by rw [renTs, nodesTs, nodesTs, List.map_append, ren_nodes f p, ren_nodess f r]
end
mutual
theorem ren_sc {W W' : Str → Prop} {f : Str → Str} (hf : ∀ h, W h → W' (f h)) (hx : ∀ k, k < 100 → f (xS k) = xS k) : ∀ (p : Pt) (bd : Nat), scT W bd p → scT W' bd (renT f p)
  | .mk b h as, bd, o => by
    rw [scT] at o
    rw [renT, scT, renTs_len]
    refine ⟨o.1, o.2.1, o.2.2.1, ?_, ren_scs hf hx as (bd + b) o.2.2.2.2⟩
    rcases o.2.2.2.1 with q | ⟨k, hk, rfl⟩
    · exact .inl (hf h q)
    · exact .inr ⟨k, hk, hx k (by have := o.2.2.1; omega)⟩
theorem ren_scs {W W' : Str → Prop} {f : Str → Str} (hf : ∀ h, W h → W' (f h)) (hx : ∀ k, k < 100 → f (xS k) = xS k) : ∀ (ps : List Pt) (bd : Nat), scTs W bd ps → scTs W' bd (renTs f ps)
  | [], bd, _ => by
    rw [renTs]
    exact trivial
  | p :: r, bd, o => by
    rw [scTs] at o
    rw [renTs, scTs]
    exact ⟨ren_sc hf hx p bd o.1, ren_scs hf hx r bd o.2⟩
end
theorem ren_size (f : Str → Str) (p : Pt) : sizeT (renT f p) = sizeT p := by
  rw [← nodes_len, ren_nodes, List.length_map, nodes_len]
/-- a dict of other words -/
def dictS (kvs : List (Str × Str)) : List (Key × D) := kvs.map fun p => (.inr p.1, .str p.2)
def lookS (kvs : List (Str × Str)) (h : Str) : Str := ((kvs.find? fun p => decide (p.1 = h)).map (·.2)).getD h
def f_renP : List D → M D := fun ds Q _ => match ds with
  | [x, .dct ks] => ∃ (W : Str → Prop) (p : Pt) (kvs : List (Str × Str)), x = progD p ∧ PG W p ∧ ks = dictS kvs ∧ kvs.length ≤ 100 ∧ (∀ z ∈ partsU p, z ∈ kvs.map (·.1)) ∧ (∀ q ∈ kvs, isWordS q.1 = true ∧ isWordS q.2 = true) ∧ (kvs.map (·.2)).Nodup ∧ Q (progD (renT (lookS kvs) p))
  | _ => False
/-! ### small steps -/
section
variable {ρ : FP.Env} {f fo fe fa : DTE} {g : DTA} {gs : DTS} {N : Nd} {i : Nat}
theorem ev_joinS {a : Str} {ys : List Str} (ho : Ev fo ρ (.str a)) (he : Ev fe ρ (.lst (ys.map D.str))) (h : (ys.map (·.length)).sum + ys.length * a.length ≤ 16777216) : Ev (dJoin fo fe) ρ (.str (Str.join a ys)) := fun Q E q => ho _ _ (he _ _ ⟨ys, strsD_map ys, h, by
  rw [txt_join]
  exact q⟩)
theorem a_star {xs ys : List D} (h : Ev f ρ (.lst xs)) (hg : EvA g ρ ys) : EvA (dStar f g) ρ (xs ++ ys) := fun Q E q => h _ _ (hg _ _ q)
theorem ev_paren {t : Str} (h : Ev f ρ (.str t)) (ht : t.length ≤ 10000) : Ev (dJoined (dJCons (dC (.str "(")) (dJCons (dFmt f) (dJCons (dC (.str ")")) dJNil)))) ρ (.str ((("(" : Str) ++ t) ++ ")")) := fun Q E q => by
  have e0 : Str.empty ++ ("(" : Str) = "(" := by decide +kernel
  have e1 : ("(" : Str).length = 1 := by decide +kernel
  have e2 : (")" : Str).length = 1 := by decide +kernel
  have hl : t.length + 2 ≤ sizeLine := Nat.le_trans (show t.length + 2 ≤ 10002 by omega) (by decide)
  refine ⟨by rw [e0, e1]; exact Nat.le_trans (by omega) hl, h _ _ ?_⟩
  refine ⟨Nat.le_trans (by omega) hl, ?_⟩
  rw [e0]
  refine ⟨by rw [len_app, e1]; exact Nat.le_trans (by omega) hl, ⟨by rw [len_app, len_app, e1, e2]; exact Nat.le_trans (by omega) hl, q⟩⟩
theorem ev_sortU {ss : List Str} (h : Ev f ρ (.lst (ss.map D.str))) (hl : ss.length < 4000) : Ev (dSortSet f) ρ (.lst ((sortU ss).map .str)) := fun Q E q => h _ _ ⟨ss, strsD_map ss, hl, q⟩
end
theorem starts_map {α : Type} (f : Pt → α) : ∀ (as : List Pt) (i : Nat), (startsP i as).map (fun x => f x.2) = as.map f
  | [], _ => rfl
  | p :: r, i => by
    rw [startsP, List.map_cons, List.map_cons, starts_map f r]
theorem starts_nats (i : Nat) (as : List Pt) : natsD (startsT i as) = (startsP i as).map fun x => D.int (x.1 : Nat) := by
  unfold natsD startsT
  rw [List.map_map]
  rfl
theorem starts_len (i : Nat) (as : List Pt) : (startsP i as).length = as.length := by
  have h := startsT_len i as
  unfold startsT at h
  rw [List.length_map] at h
  exact h
end KP
/-! KP50: small facts for the defs of programs. -/
namespace KP
open PySem L2 FP
variable [FP.Tabl]
theorem inRow_at {i n : Nat} (h : i < n) (hn : n ≤ 900) : inRow (.int (i : Nat)) 0 ((n : Int) - 1) = true := by
  unfold inRow isIntD
  simp only [Bool.and_eq_true, decide_eq_true_eq]
  refine ⟨⟨?_, ?_⟩, by omega, by omega⟩
  · have : (0 : Int) < 10 ^ 60 := by decide
    omega
  · have : (900 : Int) < 10 ^ 60 := by decide
    omega
theorem isi_own (c : Str) (fs : List (Str × D)) : isiD [c] (fun _ => true) (.ins c fs) = some true := by
  show (if c ∈ [c] then some true else none) = some true
  rw [if_pos List.mem_cons_self]
theorem isi_prog (p : Pt) : isiD ["Program"] (fun _ => true) (progD p) = some true := isi_own _ _
theorem partsU_len (p : Pt) : (partsU p).length ≤ sizeT p := by
  refine Nat.le_trans (sortU_len _) (Nat.le_trans (List.length_filter_le _ _) ?_)
  unfold headsT
  rw [List.length_map, nodes_len]
  exact Nat.le_refl _
theorem in_word (z : Str) (p : Pt) : (isWordS z && decide (z ∈ partsU p)) = decide (z ∈ partsU p) := by
  by_cases h : z ∈ partsU p
  · have h2 := sortU_mem.mp h
    rw [List.mem_filter] at h2
    rw [h2.2]
    rfl
  · rw [decide_eq_false h, Bool.and_false]
theorem eq_nods {ns ms : List Nod} (h1 : shDs 63 (ns.map nodD) = true) (h2 : shDs 63 (ms.map nodD) = true) {Q : D → Prop} (q : Q (.bl (eqNd ns ms))) : rdEq (.tup (ns.map nodD)) (.tup (ms.map nodD)) Q := by
  obtain ⟨p, p1, p2, p3⟩ := shD_py 64 (.tup (ns.map nodD)) (sh_tup h1)
  obtain ⟨r, r1, r2, r3⟩ := shD_py 64 (.tup (ms.map nodD)) (sh_tup h2)
  show ∃ p q, toPy _ = some p ∧ toPy _ = some q ∧ SeqAt.shaped p = true ∧ SeqAt.shaped q = true ∧ Q (.bl (PyData.eqv p q))
  refine ⟨p, r, p1, r1, sh_shaped p2 p3, sh_shaped r2 r3, ?_⟩
  rw [py_tup] at p1 r1
  cases p1
  cases r1
  rw [PyData.eqv]
  exact q
theorem eq_nodsL {ns ms : List Nod} (h1 : shDs 63 (ns.map nodD) = true) (h2 : shDs 63 (ms.map nodD) = true) {Q : D → Prop} (q : Q (.bl (eqNd ns ms))) : rdEq (.lst (ns.map nodD)) (.lst (ms.map nodD)) Q := by
  obtain ⟨p, p1, p2, p3⟩ := shD_py 64 (.lst (ns.map nodD)) (sh_lst h1)
  obtain ⟨r, r1, r2, r3⟩ := shD_py 64 (.lst (ms.map nodD)) (sh_lst h2)
  show ∃ p q, toPy _ = some p ∧ toPy _ = some q ∧ SeqAt.shaped p = true ∧ SeqAt.shaped q = true ∧ Q (.bl (PyData.eqv p q))
  refine ⟨p, r, p1, r1, sh_shaped p2 p3, sh_shaped r2 r3, ?_⟩
  rw [py_lst] at p1 r1
  cases p1
  cases r1
  rw [PyData.eqv]
  exact q
theorem eqNd_refl (ns : List Nod) (h : shDs 63 (ns.map nodD) = true) : eqNd ns ns = true := by
  obtain ⟨ps, q1, q2, _⟩ := shDs_py 63 _ h
  rw [py_nods] at q1
  cases q1
  exact eqvAll_refl _ q2
theorem py_pair (ns : List Nod) : toPy (.tup [.int (ns.length : Nat), .tup (ns.map nodD)]) = some (lenPair ns) := by
  rw [toPy, toPys, toPys, toPys, py_tup]
  rfl
theorem pair_depth (ns : List Nod) : (lenPair ns).depth ≤ 64 := by
  have h := depth_nods ns
  unfold lenPair
  simp only [PyData.depth, PyData.depthAll]
  omega
theorem ltPair {ns ms : List Nod} {Q : D → Prop} (q : Q (.bl (aheadN ns ms))) : rdLtD (.tup [.int (ns.length : Nat), .tup (ns.map nodD)]) (.tup [.int (ms.length : Nat), .tup (ms.map nodD)]) Q := ⟨lenPair ns, lenPair ms, py_pair ns, py_pair ms, alike_pair ns ms, by unfold lenPair; exact fun h => PyData.noConfusion h, pair_depth ns, q⟩
theorem ltList {ns ms : List Nod} {Q : D → Prop} (q : Q (.bl (PySem.W.dataLt (.list (pyN ns)) (.list (pyN ms))))) : rdLtD (.lst (ns.map nodD)) (.lst (ms.map nodD)) Q := ⟨.list (pyN ns), .list (pyN ms), py_lst ns, py_lst ms, by rw [PySem.W.alike, alike_nods], fun h => PyData.noConfusion h, by
  have h := depth_nods ns
  simp only [PyData.depth]
  omega, q⟩
/-! ### dicts of words -/
theorem keys_dictS (kvs : List (Str × Str)) : ((dictS kvs).map fun kv => kD kv.1) = (kvs.map (·.1)).map D.str := by
  unfold dictS
  rw [List.map_map, List.map_map]
  rfl
theorem vals_dictS (kvs : List (Str × Str)) : (dictS kvs).map (·.2) = (kvs.map (·.2)).map D.str := by
  unfold dictS
  rw [List.map_map, List.map_map]
  rfl
theorem val_dictS (h : Str) : ∀ kvs : List (Str × Str), valD (dictS kvs) (.inr h) = ((kvs.find? fun p => decide (p.1 = h)).map (·.2)).map D.str
  | [] => rfl
  | p :: r => by
    have ih := val_dictS h r
    unfold valD dictS at ih ⊢
    rw [List.map_cons, List.find?_cons, List.find?_cons]
    by_cases e : p.1 = h
    · rw [show decide ((Sum.inr p.1 : Key) = .inr h) = true from decide_eq_true (by rw [e]), decide_eq_true e]
      rfl
    · rw [show decide ((Sum.inr p.1 : Key) = .inr h) = false from decide_eq_false fun q => e (Sum.inr.inj q), decide_eq_false e]
      exact ih
theorem val_look (kvs : List (Str × Str)) (h : Str) : (valD (dictS kvs) (.inr h)).getD (.str h) = .str (lookS kvs h) := by
  rw [val_dictS]
  unfold lookS
  cases (kvs.find? fun p => decide (p.1 = h)) with
  | none => rfl
  | some p => rfl
theorem val_in {kvs : List (Str × Str)} {z : Str} (h : z ∈ kvs.map (·.1)) : (valD (dictS kvs) (.inr z)).isSome = true := by
  rw [val_dictS]
  obtain ⟨p, hp, e⟩ := List.mem_map.mp h
  cases q : (kvs.find? fun p => decide (p.1 = z)) with
  | none =>
    have := List.find?_eq_none.mp q p hp
    exact absurd (decide_eq_true e) this
  | some p => rfl
theorem words_both {kvs : List (Str × Str)} (hw : ∀ q ∈ kvs, isWordS q.1 = true ∧ isWordS q.2 = true) {z : Str} (hz : z ∈ kvs.map (·.1) ++ kvs.map (·.2)) : isWordS z = true ∧ okStr z := by
  rcases List.mem_append.mp hz with h | h
  · obtain ⟨q, hq, rfl⟩ := List.mem_map.mp h
    exact ⟨(hw q hq).1, word_ok (hw q hq).1⟩
  · obtain ⟨q, hq, rfl⟩ := List.mem_map.mp h
    exact ⟨(hw q hq).2, word_ok (hw q hq).2⟩
theorem all_true {α : Type} (xs : List α) : (xs.map fun _ => true).all id = true := by
  rw [List.all_map]
  exact List.all_eq_true.mpr fun _ _ => rfl
end KP
/-! KP51: drawn plain programs with some words; law k15 in plain words. -/
namespace KP
open PySem L2 FP
variable [FP.Tabl]
/-! ### drawn -/
mutual
def drT (L : List Str) : Nat → Pt → Prop
  | bd, .mk b h as => b ≤ 2 ∧ as.length ≤ 3 ∧ scH (fun z => z ∈ L) (bd + b) h ∧ drTs L (bd + b) as
def drTs (L : List Str) : Nat → List Pt → Prop
  | _, [] => True
  | bd, p :: r => drT L bd p ∧ drTs L bd r
end
theorem drTs_app {L : List Str} : ∀ {bd : Nat} {ps qs : List Pt}, drTs L bd ps → drTs L bd qs → drTs L bd (ps ++ qs)
  | _, [], _, _, h => h
  | bd, p :: r, qs, h1, h2 => by
    rw [List.cons_append, drTs]
    rw [drTs] at h1
    exact ⟨h1.1, drTs_app h1.2 h2⟩
mutual
theorem dr_sc {L : List Str} : ∀ (p : Pt) (bd : Nat), drT L bd p → bd + 2 * sizeT p ≤ 100 → scT (fun z => z ∈ L) bd p
  | .mk b h as, bd, hs, hl => by
    rw [drT] at hs
    rw [sizeT] at hl
    rw [scT]
    exact ⟨by omega, by omega, by omega, hs.2.2.1, dr_scs as (bd + b) hs.2.2.2 (by omega)⟩
theorem dr_scs {L : List Str} : ∀ (ps : List Pt) (bd : Nat), drTs L bd ps → bd + 2 * sizeTs ps ≤ 100 → scTs (fun z => z ∈ L) bd ps
  | [], _, _, _ => trivial
  | p :: r, bd, hs, hl => by
    rw [drTs] at hs
    rw [sizeTs] at hl
    rw [scTs]
    exact ⟨dr_sc p bd hs.1 (by omega), dr_scs r bd hs.2 (by omega)⟩
end
def f_drawnL (L : List Str) (d : Nat) : List D → M D := fun ds Q _ => match ds with
  | [.tok, .int bd, .int most] => ∃ (b m : Nat), bd = (b : Int) ∧ most = (m : Int) ∧ 1 ≤ m ∧ m < d ∧ m ≤ 40 ∧ b + 2 * m ≤ 90 ∧ ∀ p, drT L b p → sizeT p ≤ m → Q (ptD p)
  | _ => False
theorem nope_drawnL (L : List Str) (ds : List D) (Q : D → Prop) (E : XD → Prop) (h : f_drawnL L 0 ds Q E) : False := by
  unfold f_drawnL at h
  split at h
  · obtain ⟨_, _, _, _, _, h, _⟩ := h
    omega
  · exact h
def f_lptext (d : Nat) : List D → M D := fun ds Q _ => match ds with
  | [x, .int bd'] => ∃ (W : Str → Prop) (p : Pt) (bd : Nat), WordsP W ∧ x = ptD p ∧ bd' = (bd : Int) ∧ scT W bd p ∧ sizeT p < d ∧ sizeT p ≤ 60 ∧ Q (.str (textT bd p))
  | _ => False
theorem nope_lptext (ds : List D) (Q : D → Prop) (E : XD → Prop) (h : f_lptext 0 ds Q E) : False := by
  unfold f_lptext at h
  split at h
  · obtain ⟨_, _, _, _, _, _, _, h, _⟩ := h
    omega
  · exact h
/-- the binders at some places -/
def sumAt (p : Pt) (above : List Nat) : Nat := (above.map fun j => ((nodesT p).getD j (0, Str.empty, 0)).1).sum
def f_places (d : Nat) : List D → M D := fun ds Q _ => match ds with
  | [x, y, .int at', .lst ab] => ∃ (W : Str → Prop) (p q : Pt) (bd i : Nat) (above : List Nat), x = progD p ∧ PG W p ∧ y = ptD q ∧ at' = (i : Int) ∧ ab = natsD above ∧ AtT p q bd i ∧ AbE (endsT 0 p) i (sizeT q) above ∧ sumAt p above = bd ∧ (∀ j ∈ above, j < i) ∧ above.length ≤ i ∧ sizeT q < d ∧ Q (.int ((i + sizeT q : Nat) : Int))
  | _ => False
theorem nope_places (ds : List D) (Q : D → Prop) (E : XD → Prop) (h : f_places 0 ds Q E) : False := by
  unfold f_places at h
  split at h
  · obtain ⟨_, _, _, _, _, _, _, _, _, _, _, _, _, _, _, _, h, _⟩ := h
    omega
  · exact h
def f_isahead : List D → M D := fun ds Q _ => match ds with
  | [.lst xs, .lst ys] => ∃ ns ms : List Nod, xs = ns.map nodD ∧ ys = ms.map nodD ∧ Q (.bl (aheadN ns ms))
  | _ => False
/-! ### words of a drawn program -/
def wL15 : List Str := ["f", "g", "z"]
theorem wL15_w : WordsP (fun z => z ∈ wL15) := fun h hh => by
  simp only [wL15, List.mem_cons, List.not_mem_nil, or_false] at hh
  rcases hh with rfl | rfl | rfl <;> decide +kernel
theorem x_not15 : ∀ k < 100, xS k ∉ wL15 := by decide +kernel
theorem lawHeads15 {p : Pt} (hs : scT (fun z => z ∈ wL15) 0 p) : ((headsT p).filter fun h => decide (h ∈ wL15)) = (headsT p).filter fun h => isWordS h := by
  refine List.filter_congr fun h hh => ?_
  unfold headsT at hh
  obtain ⟨n, hn, rfl⟩ := List.mem_map.mp hh
  rcases (good_T wL15_w p 0 hs n hn).2 with q | ⟨k, hk, e⟩
  · rw [decide_eq_true q, wL15_w _ q]
  · rw [e, decide_eq_false (x_not15 k hk), (x_level k hk).2.1]
/-- how often the words are -/
theorem counts15 (p : Pt) : mergeD [] ((partsU p).map fun z => ((.inr z : Key), D.int (((headsT p).filter fun h => isWordS h).count z : Nat))) = countsK p := by
  have e : ((partsU p).map fun z => ((.inr z : Key), D.int (((headsT p).filter fun h => isWordS h).count z : Nat))) = (partsU p).map fun z => ((.inr z : Key), D.int ((headsT p).count z : Nat)) := by
    refine List.map_congr_left fun z hz => ?_
    have h2 := sortU_mem.mp hz
    rw [List.mem_filter] at h2
    rw [List.count_filter h2.2]
  rw [e]
  unfold mergeD countsK
  rw [List.foldl_map]
theorem pairs15 (f : Str → Nat) : ∀ zs : List Str, pairsD (zs.map fun z => D.tup [.str z, .int (f z : Nat)]) = some (zs.map fun z => ((.inr z : Key), D.int (f z : Nat)))
  | [] => rfl
  | z :: r => by
    have ih := pairs15 f r
    rw [List.map_cons, pairsD, ih]
    rfl
/-! ### shown -/
mutual
def wP : PyData → Nat
  | .none => 4
  | .bool _ => 5
  | .int i => i.natAbs.log2 + 3
  | .str x => 10 * x.length + 2
  | .list xs => wPs xs + 2
  | .tuple xs => wPs xs + 3
  | .dict kvs => wPk kvs + 2
def wPs : List PyData → Nat
  | [] => 0
  | x :: r => wP x + 2 + wPs r
def wPk : List (PyData × PyData) → Nat
  | [] => 0
  | (k, v) :: r => wP k + wP v + 4 + wPk r
end
mutual
def chP : PyData → Bool
  | .str x => x.cps.toList.all fun c => decide (c < 16 ^ 8)
  | .list xs => chPs xs
  | .tuple xs => chPs xs
  | .dict kvs => chPk kvs
  | _ => true
def chPs : List PyData → Bool
  | [] => true
  | x :: r => chP x && chPs r
def chPk : List (PyData × PyData) → Bool
  | [] => true
  | (k, v) :: r => chP k && (chP v && chPk r)
end
theorem join2_len (ts : List Str) : (Str.join ", " ts).length ≤ (ts.map (·.length)).sum + ts.length * 2 := by
  have h := StrLaws.join_length_le ", " ts
  have h1 : (", " : Str).length = 2 := by decide +kernel
  rw [h1] at h
  exact h
theorem listT_len (ts : List Str) : (listText ts).length ≤ (ts.map (·.length)).sum + ts.length * 2 + 2 := by
  have hgen : ∀ (ts : List Str) (k : Nat) (acc : Str), (textFrom k acc ts).length ≤ acc.length + (ts.map (·.length)).sum + ts.length * 2 := by
    intro ts
    induction ts with
    | nil => intro k acc; exact Nat.le_refl _
    | cons t r ih =>
      intro k acc
      have h := ih (k + 1) (acc ++ (if k > 0 then ", " else "" : String) ++ t)
      have e : ((if k > 0 then ", " else "" : String) : Str).length ≤ 2 := by
        split <;> decide +kernel
      rw [len_app, len_app] at h
      show (textFrom (k + 1) (acc ++ (if k > 0 then ", " else "" : String) ++ t) r).length ≤ _
      rw [List.map_cons, List.sum_cons, List.length_cons]
      omega
  have h := hgen ts 0 "["
  have e1 : ("[" : Str).length = 1 := by decide +kernel
  have e2 : ("]" : Str).length = 1 := by decide +kernel
  unfold listText
  rw [len_app]
  omega
theorem tupT_len (ts : List Str) : (tupleText ts).length ≤ (ts.map (·.length)).sum + ts.length * 2 + 3 := by
  have h := join2_len ts
  have e1 : ("(" : Str).length = 1 := by decide +kernel
  have e2 : ((if ts.length == 1 then ",)" else ")" : String) : Str).length ≤ 2 := by split <;> decide +kernel
  unfold tupleText
  rw [len_app, len_app]
  omega
theorem dictT_len (ts : List Str) : (dictText ts).length ≤ (ts.map (·.length)).sum + ts.length * 2 + 2 := by
  have h := join2_len ts
  have e1 : ("{" : Str).length = 1 := by decide +kernel
  have e2 : ("}" : Str).length = 1 := by decide +kernel
  unfold dictText
  rw [len_app, len_app]
  omega
theorem int_len (i : Int) : (PyData.shown (.int i)).length ≤ i.natAbs.log2 + 3 := by
  rw [PyData.shown]
  have hn : ∀ n : Nat, (Nat.repr n).length ≤ n.log2 + 1 := fun n => nat_repr_length_le (Nat.succ_pos _) Nat.lt_log2_self
  have hs : ∀ s : String, (Str.ofString s).length = s.length := ofString_length
  cases i with
  | ofNat n =>
    show (Str.ofString (Nat.repr n)).length ≤ n.log2 + 3
    rw [hs]
    have := hn n
    omega
  | negSucc n =>
    show (Str.ofString ("-" ++ Nat.repr (n + 1))).length ≤ (n + 1).log2 + 3
    rw [hs, String.length_append]
    have := hn (n + 1)
    have e : ("-" : String).length = 1 := rfl
    omega
mutual
theorem shown_len : ∀ d : PyData, chP d = true → d.shown.length ≤ wP d
  | .none, _ => by rw [PyData.shown, wP]; decide +kernel
  | .bool b, _ => by rw [PyData.shown, wP]; cases b <;> decide +kernel
  | .int i, _ => by rw [wP]; exact int_len i
  | .str x, h => by
    rw [chP, List.all_eq_true] at h
    rw [PyData.shown, wP]
    exact StrLaws.reprText_len x fun c hc => of_decide_eq_true (h c hc)
  | .list xs, h => by
    rw [chP] at h
    rw [PyData.shown, wP]
    have h1 := listT_len (PyData.shownAll xs)
    have h2 := showns_len xs h
    omega
  | .tuple xs, h => by
    rw [chP] at h
    rw [PyData.shown, wP]
    have h1 := tupT_len (PyData.shownAll xs)
    have h2 := showns_len xs h
    omega
  | .dict kvs, h => by
    rw [chP] at h
    rw [PyData.shown, wP]
    have h1 := dictT_len (PyData.shownKv kvs)
    have h2 := shownk_len kvs h
    omega
theorem showns_len : ∀ xs : List PyData, chPs xs = true → ((PyData.shownAll xs).map (·.length)).sum + (PyData.shownAll xs).length * 2 ≤ wPs xs
  | [], _ => by rw [PyData.shownAll, wPs]; exact Nat.le_refl _
  | x :: r, h => by
    rw [chPs, Bool.and_eq_true] at h
    have h1 := shown_len x h.1
    have h2 := showns_len r h.2
    rw [PyData.shownAll, wPs, List.map_cons, List.sum_cons, List.length_cons]
    omega
theorem shownk_len : ∀ kvs : List (PyData × PyData), chPk kvs = true → ((PyData.shownKv kvs).map (·.length)).sum + (PyData.shownKv kvs).length * 2 ≤ wPk kvs
  | [], _ => by rw [PyData.shownKv, wPk]; exact Nat.le_refl _
  | (k, v) :: r, h => by
    rw [chPk, Bool.and_eq_true, Bool.and_eq_true] at h
    have h1 := shown_len k h.1
    have h2 := shown_len v h.2.1
    have h3 := shownk_len r h.2.2
    have e : (": " : Str).length = 2 := by decide +kernel
    rw [PyData.shownKv, wPk, List.map_cons, List.sum_cons, List.length_cons, len_app, len_app]
    omega
end
end KP
/-! KP52: what a program tells, shown; the end of law k15. -/
namespace KP
open PySem L2 FP
variable [FP.Tabl]
theorem put_new (f : Str → D) : ∀ (zs : List Str) (acc : List (Key × D)), zs.Nodup → (∀ z ∈ zs, ∀ kv ∈ acc, kv.1 ≠ .inr z) → zs.foldl (fun a z => putKD a (.inr z) (f z)) acc = acc ++ zs.map fun z => ((.inr z : Key), f z)
  | [], acc, _, _ => by rw [List.map_nil, List.append_nil]; rfl
  | z :: r, acc, hn, ha => by
    rw [List.nodup_cons] at hn
    have e : putKD acc (.inr z) (f z) = acc ++ [((.inr z : Key), f z)] := by
      unfold putKD
      rw [if_neg]
      intro h
      rw [List.any_eq_true] at h
      obtain ⟨kv, hkv, hk⟩ := h
      exact ha z List.mem_cons_self kv hkv (of_decide_eq_true hk)
    rw [List.foldl_cons, e, put_new f r _ hn.2 fun y hy kv hkv => ?_, List.append_assoc, List.map_cons]
    · rfl
    · rcases List.mem_append.mp hkv with h | h
      · exact ha y (List.mem_cons_of_mem _ hy) kv h
      · rw [List.mem_singleton.mp h]
        intro q
        have q := Sum.inr.inj q
        exact hn.1 (q ▸ hy)
theorem countsK_map (p : Pt) : countsK p = (partsU p).map fun z => ((.inr z : Key), D.int ((headsT p).count z : Nat)) := by
  unfold countsK
  rw [put_new (fun z => .int ((headsT p).count z : Nat)) (partsU p) [] (sortU_nodup _) fun _ _ _ h => absurd h List.not_mem_nil]
  rfl
section
variable {W : Str → Prop} (hW : WordsP W)
include hW
mutual
theorem txt_ok : ∀ (p : Pt) (bd : Nat), scT W bd p → PyData.strOk (textT bd p) = true
  | .mk b h as, bd, o => by
    rw [scT] at o
    have hsp : PyData.strOk " " = true := by decide +kernel
    have hh : PyData.strOk h = true := (scH.ok hW (o.2.2.2.1.imp (fun x => x) fun ⟨k, hk, e⟩ => ⟨k, by have := o.2.2.1; omega, e⟩)).1
    rw [textT]
    refine strOk_app ?_ (strOk_join hsp fun t ht => ?_)
    · unfold headT
      split
      · decide +kernel
      · refine strOk_app (strOk_app (by decide +kernel) (strOk_join hsp fun t ht => ?_)) (by decide +kernel)
        unfold xsL at ht
        obtain ⟨k, hk, rfl⟩ := List.mem_map.mp ht
        have hk := List.mem_range.mp hk
        exact (x_ok (bd + k) (by have := o.2.2.1; omega)).1
    · rcases List.mem_cons.mp ht with rfl | ht
      · exact hh
      · exact arg_ok as (bd + b) o.2.2.2.2 t ht
theorem arg_ok : ∀ (ps : List Pt) (bd : Nat), scTs W bd ps → ∀ t ∈ argsT bd ps, PyData.strOk t = true
  | [], bd, _, t, ht => by
    rw [argsT] at ht
    exact absurd ht List.not_mem_nil
  | p :: r, bd, o, t, ht => by
    rw [scTs] at o
    rw [argsT] at ht
    rcases List.mem_cons.mp ht with rfl | ht
    · unfold parT
      split
      · exact txt_ok p bd o.1
      · exact strOk_app (strOk_app (by decide +kernel) (txt_ok p bd o.1)) (by decide +kernel)
    · exact arg_ok r bd o.2 t ht
end
end
theorem ch_str {z : Str} (h : PyData.strOk z = true) : chP (.str z) = true := by
  rw [chP, List.all_eq_true]
  intro c hc
  have h2 := (strOk_iff z).mp h c hc
  exact decide_eq_true (Nat.lt_trans h2 (by decide))
theorem ch_int (i : Int) : chP (.int i) = true := by simp [chP]
theorem ch_tup (xs : List PyData) : chP (.tuple xs) = chPs xs := by rw [chP]
theorem ch_lst (xs : List PyData) : chP (.list xs) = chPs xs := by rw [chP]
theorem ch_dic (xs : List (PyData × PyData)) : chP (.dict xs) = chPk xs := by rw [chP]
/-- small whole numbers -/
theorem log_le {n : Nat} (h : n ≤ 1000) : n.log2 ≤ 9 := by
  by_cases h0 : n = 0
  · rw [h0]
    decide
  · have := (Nat.log2_lt h0 (k := 10)).mpr (by omega)
    omega
theorem nod_facts : ∀ (ns : List Nod), (∀ n ∈ ns, NodG n ∧ PyData.strOk n.2.1 = true ∧ n.2.1.length ≤ 8) → PyData.showableAll (pyN ns) = true ∧ PyData.hasDictAll (pyN ns) = false ∧ chPs (pyN ns) = true ∧ wPs (pyN ns) ≤ 130 * ns.length
  | [], _ => ⟨by rw [show pyN [] = [] from rfl, PyData.showableAll], by rw [show pyN [] = [] from rfl, PyData.hasDictAll], by rw [show pyN [] = [] from rfl, chPs], by rw [show pyN [] = [] from rfl, wPs]; exact Nat.zero_le _⟩
  | n :: r, h => by
    obtain ⟨i1, i2, i3, i4⟩ := nod_facts r fun x hx => h x (List.mem_cons_of_mem _ hx)
    obtain ⟨g, hs, hl⟩ := h n List.mem_cons_self
    have e : pyN (n :: r) = .tuple [.int (n.1 : Nat), .str n.2.1, .int (n.2.2 : Nat)] :: pyN r := rfl
    have l1 := log_le (n := n.1) (by have := g.b; omega)
    have l2 := log_le (n := n.2.2) (by have := g.c; omega)
    have a1 : ((n.1 : Nat) : Int).natAbs = n.1 := Int.natAbs_natCast _
    have a2 : ((n.2.2 : Nat) : Int).natAbs = n.2.2 := Int.natAbs_natCast _
    have hc := ch_str hs
    rw [e]
    refine ⟨?_, ?_, ?_, ?_⟩
    · rw [PyData.showableAll, i1, Bool.and_true, PyData.showable, PyData.showableAll, PyData.showableAll, PyData.showableAll, PyData.showableAll, PyData.showable, PyData.showable, PyData.showable, a1, a2, decide_eq_true (show n.1.log2 < 1920 by omega), decide_eq_true (show n.2.2.log2 < 1920 by omega)]
      rfl
    · rw [PyData.hasDictAll, i2, Bool.or_false, PyData.hasDict, PyData.hasDictAll, PyData.hasDictAll, PyData.hasDictAll, PyData.hasDictAll, PyData.hasDict, PyData.hasDict, PyData.hasDict]
      rfl
    · simp only [chPs, i3, ch_tup, ch_int, hc, Bool.and_self]
    · rw [wPs, wP, wPs, wPs, wPs, wPs, wP, wP, wP, a1, a2, List.length_cons]
      omega
theorem str_facts : ∀ (zs : List Str), (∀ z ∈ zs, PyData.strOk z = true ∧ z.length ≤ 8) → toPys (zs.map .str) = some (zs.map .str) ∧ PyData.showableAll (zs.map .str) = true ∧ PyData.hasDictAll (zs.map .str) = false ∧ chPs (zs.map .str) = true ∧ wPs (zs.map .str) ≤ 100 * zs.length ∧ PyData.depthAll (zs.map .str) = 0
  | [], _ => ⟨rfl, by rw [List.map_nil, PyData.showableAll], by rw [List.map_nil, PyData.hasDictAll], by rw [List.map_nil, chPs], by rw [List.map_nil, wPs]; exact Nat.zero_le _, rfl⟩
  | z :: r, h => by
    obtain ⟨i0, i1, i2, i3, i4, i5⟩ := str_facts r fun x hx => h x (List.mem_cons_of_mem _ hx)
    obtain ⟨hs, hl⟩ := h z List.mem_cons_self
    have hc := ch_str hs
    refine ⟨?_, ?_, ?_, ?_, ?_, ?_⟩
    · rw [List.map_cons, List.map_cons, toPys, i0]
      rfl
    · rw [List.map_cons, PyData.showableAll, i1, PyData.showable]
      rfl
    · rw [List.map_cons, PyData.hasDictAll, i2, PyData.hasDict]
      rfl
    · rw [List.map_cons, chPs, i3, hc]
      rfl
    · rw [List.map_cons, wPs, wP, List.length_cons]
      omega
    · rw [List.map_cons, PyData.depthAll, i5]
      rfl
def cntP (f : Str → Nat) (zs : List Str) : List (PyData × PyData) := zs.map fun z => (.str z, .int (f z : Nat))
theorem cnt_facts (f : Str → Nat) : ∀ (zs : List Str), (∀ z ∈ zs, PyData.strOk z = true ∧ z.length ≤ 8 ∧ f z ≤ 1000) → toPqKV (zs.map fun z => ((.inr z : Key), D.int (f z : Nat))) = some (cntP f zs) ∧ PyData.showableKv (cntP f zs) = true ∧ chPk (cntP f zs) = true ∧ wPk (cntP f zs) ≤ 130 * zs.length ∧ PyData.depthKv (cntP f zs) = 0
  | [], _ => ⟨by rw [List.map_nil, toPqKV]; rfl, by rw [show cntP f [] = [] from rfl, PyData.showableKv], by rw [show cntP f [] = [] from rfl, chPk], by rw [show cntP f [] = [] from rfl, wPk]; exact Nat.zero_le _, rfl⟩
  | z :: r, h => by
    obtain ⟨i0, i1, i2, i3, i4⟩ := cnt_facts f r fun x hx => h x (List.mem_cons_of_mem _ hx)
    obtain ⟨hs, hl, hf⟩ := h z List.mem_cons_self
    have hc := ch_str hs
    have l1 := log_le hf
    have a1 : ((f z : Nat) : Int).natAbs = f z := Int.natAbs_natCast _
    have e : cntP f (z :: r) = (.str z, .int (f z : Nat)) :: cntP f r := rfl
    refine ⟨?_, ?_, ?_, ?_, ?_⟩
    · rw [List.map_cons, toPqKV, i0, toPq]
      rfl
    · rw [e, PyData.showableKv, i1, PyData.showable, PyData.showable, a1, decide_eq_true (show (f z).log2 < 1920 by omega)]
      rfl
    · simp only [e, chPk, i2, hc, ch_int, Bool.and_self]
    · rw [e, wPk, wP, wP, a1, List.length_cons]
      omega
    · rw [e, PyData.depthKv, i4]
      rfl
/-- what a program tells of itself -/
def toldL (p : Pt) : List D := [.tup ((nodesT p).map nodD), .str (textT 0 p), .str (textT 0 p), .int (sizeT p : Nat), .int (sizeT p : Nat), .tup ((partsU p).map .str), .dct (countsK p)]
def toldP (p : Pt) : List PyData := [.tuple (pyN (nodesT p)), .str (textT 0 p), .str (textT 0 p), .int (sizeT p : Nat), .int (sizeT p : Nat), .tuple ((partsU p).map .str), .dict (cntP (fun z => (headsT p).count z) (partsU p))]
theorem told_shown {W : Str → Prop} {p : Pt} (hg : PG W p) {Q : D → Prop} (q : Q (.str (PyData.shown (.list (toldP p))))) : rdReprQ [.lst (toldL p)] Q := by
  have hz := hg.z
  have hn := nod_facts (nodesT p) fun n hn => ⟨(good_T hg.w p 0 hg.s n hn).1, (scH.ok hg.w (good_T hg.w p 0 hg.s n hn).2).1, (scH.ok hg.w (good_T hg.w p 0 hg.s n hn).2).2.2⟩
  have hpl := partsU_len p
  have hpw : ∀ z ∈ partsU p, PyData.strOk z = true ∧ z.length ≤ 8 := fun z hz => by
    have h2 := sortU_mem.mp hz
    rw [List.mem_filter] at h2
    have h3 : isWordS z = true := h2.2
    exact ⟨(strOk_iff z).mpr (word_ok h3).2, (word_len h3).2⟩
  have hs := str_facts (partsU p) hpw
  have hc := cnt_facts (fun z => (headsT p).count z) (partsU p) fun z hz => ⟨(hpw z hz).1, (hpw z hz).2, by
    have h1 : (headsT p).count z ≤ (headsT p).length := List.count_le_length
    unfold headsT at h1
    rw [List.length_map, nodes_len] at h1
    unfold headsT
    omega⟩
  obtain ⟨n1, n2, n3, n4⟩ := hn
  obtain ⟨s0, s1, s2, s3, s4, s5⟩ := hs
  obtain ⟨c0, c1, c2, c3, c4⟩ := hc
  rw [nodes_len] at n4
  have ht := txt_len hg.w p 0 hg.s
  have htc := ch_str (txt_ok hg.w p 0 hg.s)
  have lz := log_le (n := sizeT p) (by omega)
  have az : ((sizeT p : Nat) : Int).natAbs = sizeT p := Int.natAbs_natCast _
  have dn := depth_nods (nodesT p)
  refine ⟨toldP p, ?_, by unfold toldP; exact List.cons_ne_nil _ _, ?_, ?_, ?_, q⟩
  · have e1 : elP (.tup ((nodesT p).map nodD)) = some (.tuple (pyN (nodesT p))) := by
      unfold elP
      rw [py_tup]
      show (if PyData.hasDict (.tuple (pyN (nodesT p))) = true then none else some _) = _
      rw [PyData.hasDict, n2]
      rfl
    have e2 : elP (.str (textT 0 p)) = some (.str (textT 0 p)) := by
      unfold elP
      rw [toPy]
      show (if PyData.hasDict (.str (textT 0 p)) = true then none else some _) = _
      rw [PyData.hasDict]
      rfl
    have e3 : elP (.int (sizeT p : Nat)) = some (.int (sizeT p : Nat)) := by
      unfold elP
      rw [toPy]
      show (if PyData.hasDict (.int (sizeT p : Nat)) = true then none else some _) = _
      rw [PyData.hasDict]
      rfl
    have e4 : elP (.tup ((partsU p).map .str)) = some (.tuple ((partsU p).map .str)) := by
      unfold elP
      rw [toPy, s0]
      show (if PyData.hasDict (.tuple ((partsU p).map .str)) = true then none else some _) = _
      rw [PyData.hasDict, s2]
      rfl
    have e5 : elP (.dct (countsK p)) = some (.dict (cntP (fun z => (headsT p).count z) (partsU p))) := by
      unfold elP
      rw [toPy]
      show toPq (.dct (countsK p)) = _
      rw [toPq, countsK_map, c0]
    unfold toldL toldP
    simp only [elPs, e1, e2, e3, e4, e5]
  · unfold toldP
    simp only [PyData.showableAll, PyData.showable, n1, s1, c1, az, decide_eq_true (show (sizeT p).log2 < 1920 by omega)]
    rfl
  · unfold toldP
    simp only [PyData.depthAll, PyData.depth, s5, c4]
    omega
  · refine Nat.le_trans (shown_len _ ?_) (Nat.le_trans (show _ ≤ 100000 from ?_) (by decide))
    · rw [ch_lst]
      unfold toldP
      simp only [chPs, htc, ch_int, ch_tup, ch_dic, n3, s3, c2, Bool.and_self]
    · rw [wP]
      unfold toldP
      simp only [wPs, wP, az]
      omega
/-! ### the other words of the law -/
def names15 : List (Str × Str) := [("f", "g"), ("g", "f"), ("z", "xx"), ("h", "q")]
def wR15 : List Str := ["g", "f", "xx", "q"]
theorem wR15_w : WordsP (fun z => z ∈ wR15) := fun h hh => by
  simp only [wR15, List.mem_cons, List.not_mem_nil, or_false] at hh
  rcases hh with rfl | rfl | rfl | rfl <;> decide +kernel
theorem names15_f : ∀ h ∈ wL15, lookS names15 h ∈ wR15 := by decide +kernel
theorem names15_x : ∀ k < 100, lookS names15 (xS k) = xS k := by decide +kernel
theorem names15_w : ∀ q ∈ names15, isWordS q.1 = true ∧ isWordS q.2 = true := by decide +kernel
theorem names15_n : (names15.map (·.2)).Nodup := by decide +kernel
theorem names15_k : ∀ h ∈ wL15, h ∈ names15.map (·.1) := by decide +kernel
theorem ren15 {p : Pt} (hs : scT (fun z => z ∈ wL15) 0 p) (hz : sizeT p ≤ 40) : PG (fun z => z ∈ wR15) (renT (lookS names15) p) := ⟨wR15_w, ren_sc (W' := fun z => z ∈ wR15) (fun h hh => names15_f h hh) names15_x p 0 hs, by rw [ren_size]; exact hz⟩
theorem parts15 {p : Pt} (hs : scT (fun z => z ∈ wL15) 0 p) : ∀ z ∈ partsU p, z ∈ wL15 := fun z hz => by
  have h2 := sortU_mem.mp hz
  rw [← lawHeads15 hs, List.mem_filter] at h2
  exact of_decide_eq_true h2.2
theorem merge_newS : ∀ (zs : List (Str × Str)) (acc : List (Key × D)), (zs.map (·.1)).Nodup → (∀ z ∈ zs, ∀ kv ∈ acc, kv.1 ≠ .inr z.1) → mergeD acc (dictS zs) = acc ++ dictS zs
  | [], acc, _, _ => by
    show acc = acc ++ []
    rw [List.append_nil]
  | z :: r, acc, hn, ha => by
    rw [List.map_cons, List.nodup_cons] at hn
    have e : putKD acc (.inr z.1) (.str z.2) = acc ++ [((.inr z.1 : Key), .str z.2)] := by
      unfold putKD
      rw [if_neg]
      intro h
      rw [List.any_eq_true] at h
      obtain ⟨kv, hkv, hk⟩ := h
      exact ha z List.mem_cons_self kv hkv (of_decide_eq_true hk)
    show mergeD (putKD acc (.inr z.1) (.str z.2)) (dictS r) = _
    rw [e, merge_newS r _ hn.2 fun y hy kv hkv => ?_, List.append_assoc]
    · rfl
    · rcases List.mem_append.mp hkv with h | h
      · exact ha y (List.mem_cons_of_mem _ hy) kv h
      · rw [List.mem_singleton.mp h]
        intro q
        have q := Sum.inr.inj q
        exact hn.1 (q ▸ List.mem_map.mpr ⟨y, hy, rfl⟩)
theorem disp15 : mergeD [] (dictS names15) = dictS names15 := merge_newS names15 [] (by decide +kernel) fun _ _ _ h => absurd h List.not_mem_nil
end KP
/-! KP53: law k15: small steps and the last program. -/
namespace KP
open PySem L2 FP
variable [FP.Tabl]
section
variable {ρ : FP.Env} {f f1 f2 : DTE} {g : DTA} {gs : DTS} {N : Nd} {i j : Nat}
theorem end_app {xs : List D} (h : ρ[i]? = some (.own xs)) (d : D) (hs : xs.length < sizeLine) (hf : Ev f ρ d) (hn : N.nx (ρ.set i (.own (xs ++ [d])))) : dApp i f N ρ := by
  show dApp i f N ρ
  unfold dApp
  rw [h]
  exact hf _ _ ⟨hs, hn⟩
theorem seq_parP (P1 P2 : D → Prop) (h1 : EvP f1 ρ P1) (h2 : EvP f2 ρ P2) (hg : ∀ d d2, P1 d → P2 d2 → gs N ((ρ.set i (.d d)).set j (.d d2))) : dSeq (dPar i j (dCons f1 (dCons f2 dNil))) gs N ρ := h1 _ _ fun d p => h2 _ _ fun d2 p2 => hg d d2 p p2
theorem seq_parO {xs : List D} (d : D) (ha : EvA g ρ xs) (hf : Ev f ρ d) (hg : gs N ((ρ.set i (.own xs)).set j (.d d))) : dSeq (dParO i j g f) gs N ρ := ha _ _ (hf _ _ hg)
end
theorem env_eq {ρ ρ' : FP.Env} {gs : DTS} {N : Nd} (h : ρ = ρ') (hg : gs N ρ') : gs N ρ := h ▸ hg
theorem sum_cast : ∀ xs : List Nat, (xs.map fun k : Nat => (k : Int)).sum = ((xs.sum : Nat) : Int)
  | [] => rfl
  | x :: r => by
    rw [List.map_cons, List.sum_cons, List.sum_cons, sum_cast r]
    omega
theorem intsD_nats (xs : List Nat) : intsD (natsD xs) = some (xs.map fun k : Nat => (k : Int)) := by
  have h := intsD_map (xs.map fun k : Nat => (k : Int))
  rw [List.map_map] at h
  exact h
theorem ok5 {z : Str} (h : z ∈ (["f", "g", "z", "x0", "h"] : List Str)) : okStr z := by
  have e : ∀ y ∈ (["f", "g", "z", "x0", "h"] : List Str), y.length ≤ 1000 ∧ (y.cps.toList.all fun c => decide (c < 1114112)) = true := by decide +kernel
  obtain ⟨e1, e2⟩ := e z h
  refine ⟨e1, fun c hc => ?_⟩
  rw [List.all_eq_true] at e2
  exact of_decide_eq_true (e2 c hc)
/-- the program at the end of the law -/
def one15 : Pt := .mk 1 "k" [.mk 1 "x0" [.mk 0 "x1" []], .mk 0 "y" []]
def wE15 : List Str := ["k", "y"]
theorem wE15_w : WordsP (fun z => z ∈ wE15) := fun h hh => by
  simp only [wE15, List.mem_cons, List.not_mem_nil, or_false] at hh
  rcases hh with rfl | rfl <;> decide +kernel
theorem one15_g : PG (fun z => z ∈ wE15) one15 := by
  refine ⟨wE15_w, ?_, by decide⟩
  unfold one15
  rw [scT, scTs, scTs, scTs, scT, scTs, scTs, scT, scT]
  exact ⟨by decide, by decide, by decide, .inl (show ("k" : Str) ∈ wE15 by decide +kernel), ⟨by decide, by decide, by decide, .inr ⟨0, by decide, by decide +kernel⟩, ⟨by decide, by decide, by decide, .inr ⟨1, by decide, by decide +kernel⟩, trivial⟩, trivial⟩, ⟨by decide, by decide, by decide, .inl (show ("y" : Str) ∈ wE15 by decide +kernel), trivial⟩, trivial⟩
theorem one15_at : AtT one15 (.mk 0 "x1" []) 2 2 := by
  have h1 : AtT one15 (.mk 1 "x0" [.mk 0 "x1" []]) 1 1 := AtP.kid (pre := []) (AtP.root one15)
  exact AtP.kid (pre := []) h1
theorem one15_ab : AbE (endsT 0 one15) 2 (sizeT (.mk 0 "x1" [])) [0, 1] := by
  have h0 : AbE (endsT 0 one15) 0 (sizeT one15) [] := AbE.root _ _
  have h1 : AbE (endsT 0 one15) 1 (sizeT (.mk 1 "x0" [.mk 0 "x1" []])) [0] := AbE.kid (pre := []) (AtP.root one15) h0
  have a1 : AtT one15 (.mk 1 "x0" [.mk 0 "x1" []]) 1 1 := AtP.kid (pre := []) (AtP.root one15)
  exact AbE.kid (pre := []) a1 h1
theorem one15_t : textT 0 one15 = "\\x0. k (\\x1. x0 x1) y" := by decide +kernel
theorem one15_s : PyData.strOk (textT 0 one15) = true := by decide +kernel
end KP
namespace K15
open PySem L2 FP
variable [FP.Tabl]
def topS (i : Nat) : Stmt := PySem.Challenge.pw_fromparts_k15_programs_told.main.body.getD i (.Pass ⟨0, 0, 0, 0⟩)
abbrev s_is_integer : Stmt := topS 8
abbrev s_is_within : Stmt := topS 9
abbrev s_is_word : Stmt := topS 10
abbrev s_level_of : Stmt := topS 11
abbrev s_is_node : Stmt := topS 23
abbrev s_kids_of : Stmt := topS 24
abbrev s_ends_of : Stmt := topS 25
abbrev s_bound_of : Stmt := topS 26
abbrev s_are_nodes : Stmt := topS 27
abbrev s_variable_text : Stmt := topS 28
abbrev s_node_text : Stmt := topS 29
abbrev s_argument_text : Stmt := topS 30
abbrev s_Nodes___init__ : Stmt := inClass (topS 34) 0
abbrev s_program_in : Stmt := topS 35
abbrev s_Program___init__ : Stmt := inClass (topS 36) 0
abbrev s_Program_nodes : Stmt := inClass (topS 36) 2
abbrev s_Program_text : Stmt := inClass (topS 36) 3
abbrev s_Program_size : Stmt := inClass (topS 36) 4
abbrev s_Program_parts : Stmt := inClass (topS 36) 5
abbrev s_Program_counts : Stmt := inClass (topS 36) 6
abbrev s_Program_require_place : Stmt := inClass (topS 36) 7
abbrev s_Program_arguments : Stmt := inClass (topS 36) 8
abbrev s_Program_bound : Stmt := inClass (topS 36) 9
abbrev s_Program_way_to : Stmt := inClass (topS 36) 10
abbrev s_Program_end : Stmt := inClass (topS 36) 11
abbrev s_Program_renamed : Stmt := inClass (topS 36) 12
abbrev s_Program_comes_ahead : Stmt := inClass (topS 36) 13
abbrev s_Program___getitem__ : Stmt := inClass (topS 36) 14
abbrev s_Program___len__ : Stmt := inClass (topS 36) 15
abbrev s_Program___contains__ : Stmt := inClass (topS 36) 17
abbrev s_Program___eq__ : Stmt := inClass (topS 36) 18
abbrev s_Program___str__ : Stmt := inClass (topS 36) 19
abbrev s_parts_used : Stmt := topS 37
abbrev s__law_dice : Stmt := topS 39
abbrev s__law_roll : Stmt := topS 40
abbrev s__law_pick : Stmt := topS 41
abbrev s__law_program_nodes : Stmt := topS 42
abbrev s__law_program_text : Stmt := topS 43
abbrev s__law_program_parts : Stmt := topS 44
abbrev s__law_drawn : Stmt := topS 45
abbrev s__law_places_right : Stmt := topS 46
abbrev s__law_is_ahead : Stmt := topS 47
abbrev s__law_right : Stmt := topS 48
abbrev s_law : Stmt := topS 49
theorem sc_is_integer : FnScope ["value"] ["value"] (defScope s_is_integer) := ⟨rfl, rfl, rfl, by decide +kernel, rfl, by decide +kernel, by decide +kernel⟩
theorem sc_is_within : FnScope ["value", "least", "most"] ["value", "least", "most"] (defScope s_is_within) := ⟨rfl, rfl, rfl, by decide +kernel, rfl, by decide +kernel, by decide +kernel⟩
theorem sc_is_word : FnScope ["value", "sign"] ["value"] (defScope s_is_word) := ⟨rfl, rfl, rfl, by decide +kernel, rfl, by decide +kernel, by decide +kernel⟩
theorem sc_level_of : FnScope ["value", "digits", "sign"] ["value"] (defScope s_level_of) := ⟨rfl, rfl, rfl, by decide +kernel, rfl, by decide +kernel, by decide +kernel⟩
theorem sc_is_node : FnScope ["value", "has_gaps"] ["value", "has_gaps"] (defScope s_is_node) := ⟨rfl, rfl, rfl, by decide +kernel, rfl, by decide +kernel, by decide +kernel⟩
theorem sc_kids_of : FnScope ["nodes", "found", "waiting", "at", "cut", "node"] ["nodes"] (defScope s_kids_of) := ⟨rfl, rfl, rfl, by decide +kernel, rfl, by decide +kernel, by decide +kernel⟩
theorem sc_ends_of : FnScope ["kids", "found", "at"] ["kids"] (defScope s_ends_of) := ⟨rfl, rfl, rfl, by decide +kernel, rfl, by decide +kernel, by decide +kernel⟩
theorem sc_bound_of : FnScope ["nodes", "kids", "found", "at", "places", "place", "node"] ["nodes", "kids"] (defScope s_bound_of) := ⟨rfl, rfl, rfl, by decide +kernel, rfl, by decide +kernel, by decide +kernel⟩
theorem sc_are_nodes : FnScope ["value", "has_gaps", "kids", "levels", "rows", "node", "bound", "row", "level"] ["value", "has_gaps"] (defScope s_are_nodes) := ⟨rfl, rfl, rfl, by decide +kernel, rfl, by decide +kernel, by decide +kernel⟩
theorem sc_variable_text : FnScope ["level"] ["level"] (defScope s_variable_text) := ⟨rfl, rfl, rfl, by decide +kernel, rfl, by decide +kernel, by decide +kernel⟩
theorem sc_node_text : FnScope ["nodes", "kids", "bound", "at", "binders", "head", "count", "names", "words", "index", "kid"] ["nodes", "kids", "bound", "at"] (defScope s_node_text) := ⟨rfl, rfl, rfl, by decide +kernel, rfl, by decide +kernel, by decide +kernel⟩
theorem sc_argument_text : FnScope ["nodes", "kids", "bound", "at", "text"] ["nodes", "kids", "bound", "at"] (defScope s_argument_text) := ⟨rfl, rfl, rfl, by decide +kernel, rfl, by decide +kernel, by decide +kernel⟩
theorem sc_Nodes___init__ : FnScope ["self", "nodes"] ["self", "nodes"] (defScope s_Nodes___init__) := ⟨rfl, rfl, rfl, by decide +kernel, rfl, by decide +kernel, by decide +kernel⟩
theorem sc_program_in : FnScope ["nodes"] ["nodes"] (defScope s_program_in) := ⟨rfl, rfl, rfl, by decide +kernel, rfl, by decide +kernel, by decide +kernel⟩
theorem sc_Program___init__ : FnScope ["self", "nodes"] ["self", "nodes"] (defScope s_Program___init__) := ⟨rfl, rfl, rfl, by decide +kernel, rfl, by decide +kernel, by decide +kernel⟩
theorem sc_Program_nodes : FnScope ["self"] ["self"] (defScope s_Program_nodes) := ⟨rfl, rfl, rfl, by decide +kernel, rfl, by decide +kernel, by decide +kernel⟩
theorem sc_Program_text : FnScope ["self"] ["self"] (defScope s_Program_text) := ⟨rfl, rfl, rfl, by decide +kernel, rfl, by decide +kernel, by decide +kernel⟩
theorem sc_Program_size : FnScope ["self"] ["self"] (defScope s_Program_size) := ⟨rfl, rfl, rfl, by decide +kernel, rfl, by decide +kernel, by decide +kernel⟩
theorem sc_Program_parts : FnScope ["self"] ["self"] (defScope s_Program_parts) := ⟨rfl, rfl, rfl, by decide +kernel, rfl, by decide +kernel, by decide +kernel⟩
theorem sc_Program_counts : FnScope ["self", "heads", "node", "part"] ["self"] (defScope s_Program_counts) := ⟨rfl, rfl, rfl, by decide +kernel, rfl, by decide +kernel, by decide +kernel⟩
theorem sc_Program_require_place : FnScope ["self", "place"] ["self", "place"] (defScope s_Program_require_place) := ⟨rfl, rfl, rfl, by decide +kernel, rfl, by decide +kernel, by decide +kernel⟩
theorem sc_Program_arguments : FnScope ["self", "place"] ["self", "place"] (defScope s_Program_arguments) := ⟨rfl, rfl, rfl, by decide +kernel, rfl, by decide +kernel, by decide +kernel⟩
theorem sc_Program_bound : FnScope ["self", "place"] ["self", "place"] (defScope s_Program_bound) := ⟨rfl, rfl, rfl, by decide +kernel, rfl, by decide +kernel, by decide +kernel⟩
theorem sc_Program_way_to : FnScope ["self", "place", "at"] ["self", "place"] (defScope s_Program_way_to) := ⟨rfl, rfl, rfl, by decide +kernel, rfl, by decide +kernel, by decide +kernel⟩
theorem sc_Program_end : FnScope ["self", "place"] ["self", "place"] (defScope s_Program_end) := ⟨rfl, rfl, rfl, by decide +kernel, rfl, by decide +kernel, by decide +kernel⟩
theorem sc_Program_renamed : FnScope ["self", "names", "parts", "words", "one", "head", "count", "part", "word"] ["self", "names"] (defScope s_Program_renamed) := ⟨rfl, rfl, rfl, by decide +kernel, rfl, by decide +kernel, by decide +kernel⟩
theorem sc_Program_comes_ahead : FnScope ["self", "other"] ["self", "other"] (defScope s_Program_comes_ahead) := ⟨rfl, rfl, rfl, by decide +kernel, rfl, by decide +kernel, by decide +kernel⟩
theorem sc_Program___getitem__ : FnScope ["self", "place"] ["self", "place"] (defScope s_Program___getitem__) := ⟨rfl, rfl, rfl, by decide +kernel, rfl, by decide +kernel, by decide +kernel⟩
theorem sc_Program___len__ : FnScope ["self"] ["self"] (defScope s_Program___len__) := ⟨rfl, rfl, rfl, by decide +kernel, rfl, by decide +kernel, by decide +kernel⟩
theorem sc_Program___contains__ : FnScope ["self", "value"] ["self", "value"] (defScope s_Program___contains__) := ⟨rfl, rfl, rfl, by decide +kernel, rfl, by decide +kernel, by decide +kernel⟩
theorem sc_Program___eq__ : FnScope ["self", "other"] ["self", "other"] (defScope s_Program___eq__) := ⟨rfl, rfl, rfl, by decide +kernel, rfl, by decide +kernel, by decide +kernel⟩
theorem sc_Program___str__ : FnScope ["self"] ["self"] (defScope s_Program___str__) := ⟨rfl, rfl, rfl, by decide +kernel, rfl, by decide +kernel, by decide +kernel⟩
theorem sc_parts_used : FnScope ["nodes", "binders", "head", "count"] ["nodes"] (defScope s_parts_used) := ⟨rfl, rfl, rfl, by decide +kernel, rfl, by decide +kernel, by decide +kernel⟩
theorem sc__law_dice : FnScope ["_law_script", "_law_spot", "_law_cell", "_law_great", "_law_blend"] ["_law_script", "_law_spot"] (defScope s__law_dice) := ⟨rfl, rfl, rfl, by decide +kernel, rfl, by decide +kernel, by decide +kernel⟩
theorem sc__law_roll : FnScope ["_law_dice_here", "_law_total", "_law_one", "_law_two", "_law_found"] ["_law_dice_here", "_law_total"] (defScope s__law_roll) := ⟨rfl, rfl, rfl, by decide +kernel, rfl, by decide +kernel, by decide +kernel⟩
theorem sc__law_pick : FnScope ["_law_dice_here", "_law_items"] ["_law_dice_here", "_law_items"] (defScope s__law_pick) := ⟨rfl, rfl, rfl, by decide +kernel, rfl, by decide +kernel, by decide +kernel⟩
theorem sc__law_program_nodes : FnScope ["_law_program", "_law_found", "_law_one"] ["_law_program"] (defScope s__law_program_nodes) := ⟨rfl, rfl, rfl, by decide +kernel, rfl, by decide +kernel, by decide +kernel⟩
theorem sc__law_program_text : FnScope ["_law_program", "_law_bound", "_law_words", "_law_one", "_law_names", "_law_text", "_law_at"] ["_law_program", "_law_bound"] (defScope s__law_program_text) := ⟨rfl, rfl, rfl, by decide +kernel, rfl, by decide +kernel, by decide +kernel⟩
theorem sc__law_program_parts : FnScope ["_law_program", "_law_found", "_law_one"] ["_law_program"] (defScope s__law_program_parts) := ⟨rfl, rfl, rfl, by decide +kernel, rfl, by decide +kernel, by decide +kernel⟩
theorem sc__law_drawn : FnScope ["_law_dice_here", "_law_bound", "_law_most", "_law_binders", "_law_left", "_law_args", "_law_names", "_law_head", "_law_turn", "_law_at"] ["_law_dice_here", "_law_bound", "_law_most"] (defScope s__law_drawn) := ⟨rfl, rfl, rfl, by decide +kernel, rfl, by decide +kernel, by decide +kernel⟩
theorem sc__law_places_right : FnScope ["_law_made", "_law_program", "_law_at", "_law_above", "_law_bound", "_law_kids", "_law_end", "_law_one", "_law_place"] ["_law_made", "_law_program", "_law_at", "_law_above"] (defScope s__law_places_right) := ⟨rfl, rfl, rfl, by decide +kernel, rfl, by decide +kernel, by decide +kernel⟩
theorem sc__law_is_ahead : FnScope ["_law_one", "_law_other"] ["_law_one", "_law_other"] (defScope s__law_is_ahead) := ⟨rfl, rfl, rfl, by decide +kernel, rfl, by decide +kernel, by decide +kernel⟩
theorem sc__law_right : FnScope ["_law_dice_here", "_law_program", "_law_other", "_law_nodes", "_law_more", "_law_made", "_law_far", "_law_heads", "_law_counts", "_law_told", "_law_due", "_law_names", "_law_named", "_law_binders", "_law_head", "_law_size", "_law_word"] ["_law_dice_here"] (defScope s__law_right) := ⟨rfl, rfl, rfl, by decide +kernel, rfl, by decide +kernel, by decide +kernel⟩
theorem sc_law : FnScope ["_law_script", "_law_spot", "_law_one", "_law_dice_here", "_law_turn"] ["_law_script"] (defScope s_law) := ⟨rfl, rfl, rfl, by decide +kernel, rfl, by decide +kernel, by decide +kernel⟩
structure Ads where
  a_Nodes : Addr
  a_Program : Addr
  ax_BuildError : Addr
  ax_InvalidProgram : Addr
structure All (mg : Gm) (Z : Ads) : Prop where
  n_abs : mg.mg "abs" = none
  n_all : mg.mg "all" = none
  n_bool : mg.mg "bool" = none
  n_dict : mg.mg "dict" = none
  n_enumerate : mg.mg "enumerate" = none
  n_int : mg.mg "int" = none
  n_isinstance : mg.mg "isinstance" = none
  n_len : mg.mg "len" = none
  n_list : mg.mg "list" = none
  n_max : mg.mg "max" = none
  n_min : mg.mg "min" = none
  n_range : mg.mg "range" = none
  n_repr : mg.mg "repr" = none
  n_set : mg.mg "set" = none
  n_sorted : mg.mg "sorted" = none
  n_str : mg.mg "str" = none
  n_sum : mg.mg "sum" = none
  n_tuple : mg.mg "tuple" = none
  n_zip : mg.mg "zip" = none
  c_DIGITS : ∃ tk, mg.mg "DIGITS" = some (.str "0123456789" tk)
  c_DOT : ∃ tk, mg.mg "DOT" = some (.str ". " tk)
  c_GAP : ∃ tk, mg.mg "GAP" = some (.str "?" tk)
  c_LAMBDA : ∃ tk, mg.mg "LAMBDA" = some (.str "\\" tk)
  c_LETTERS : ∃ tk, mg.mg "LETTERS" = some (.str "abcdefghijklmnopqrstuvwxyz" tk)
  c_LONGEST : ∃ tk, mg.mg "LONGEST" = some (.int 1000000000000000000000000000000000000000000000000000000000000 tk)
  c_MAX_COUNT : ∃ tk, mg.mg "MAX_COUNT" = some (.int 15 tk)
  c_MAX_LETTERS : ∃ tk, mg.mg "MAX_LETTERS" = some (.int 8 tk)
  c_MAX_LEVEL : ∃ tk, mg.mg "MAX_LEVEL" = some (.int 99 tk)
  c_MAX_NODES : ∃ tk, mg.mg "MAX_NODES" = some (.int 40 tk)
  c_VARIABLE : ∃ tk, mg.mg "VARIABLE" = some (.str "x" tk)
  kc_Nodes : ClsF mg "Nodes" Z.a_Nodes
  na_Nodes_told_nodes : NoAttr mg.K Z.a_Nodes "told_nodes"
  isi_Nodes : IsiF mg Z.a_Nodes ["Nodes"] (fun _ => true)
  kc_Program : ClsF mg "Program" Z.a_Program
  na_Program_own_kids : NoAttr mg.K Z.a_Program "own_kids"
  na_Program_own_ends : NoAttr mg.K Z.a_Program "own_ends"
  na_Program_own_bound : NoAttr mg.K Z.a_Program "own_bound"
  na_Program_own_nodes : NoAttr mg.K Z.a_Program "own_nodes"
  isi_Program : IsiF mg Z.a_Program ["Program"] (fun _ => true)
  eq_Program : EqF mg Z.a_Program ["Program"]
  ne_Program : PySem.W.findIn mg.K (.ref Z.a_Program) "__ne__" = some (some (.builtin "object.__ne__"))
  d_is_integer : ∃ fa fd, mg.mg "is_integer" = some (.ref fa) ∧ Fun mg.K "is_integer" "is_integer" s_is_integer fa fd
  d_is_within : ∃ fa fd, mg.mg "is_within" = some (.ref fa) ∧ Fun mg.K "is_within" "is_within" s_is_within fa fd
  d_is_word : ∃ fa fd, mg.mg "is_word" = some (.ref fa) ∧ Fun mg.K "is_word" "is_word" s_is_word fa fd
  d_level_of : ∃ fa fd, mg.mg "level_of" = some (.ref fa) ∧ Fun mg.K "level_of" "level_of" s_level_of fa fd
  d_is_node : ∃ fa fd, mg.mg "is_node" = some (.ref fa) ∧ Fun mg.K "is_node" "is_node" s_is_node fa fd
  d_kids_of : ∃ fa fd, mg.mg "kids_of" = some (.ref fa) ∧ Fun mg.K "kids_of" "kids_of" s_kids_of fa fd
  d_ends_of : ∃ fa fd, mg.mg "ends_of" = some (.ref fa) ∧ Fun mg.K "ends_of" "ends_of" s_ends_of fa fd
  d_bound_of : ∃ fa fd, mg.mg "bound_of" = some (.ref fa) ∧ Fun mg.K "bound_of" "bound_of" s_bound_of fa fd
  d_are_nodes : ∃ fa fd, mg.mg "are_nodes" = some (.ref fa) ∧ Fun mg.K "are_nodes" "are_nodes" s_are_nodes fa fd
  d_variable_text : ∃ fa fd, mg.mg "variable_text" = some (.ref fa) ∧ Fun mg.K "variable_text" "variable_text" s_variable_text fa fd
  d_node_text : ∃ fa fd, mg.mg "node_text" = some (.ref fa) ∧ Fun mg.K "node_text" "node_text" s_node_text fa fd
  d_argument_text : ∃ fa fd, mg.mg "argument_text" = some (.ref fa) ∧ Fun mg.K "argument_text" "argument_text" s_argument_text fa fd
  d_Nodes___init__ : ∃ fa fd, Mk mg.K Z.a_Nodes fa ∧ Fun mg.K "__init__" "Nodes.__init__" s_Nodes___init__ fa fd
  d_program_in : ∃ fa fd, mg.mg "program_in" = some (.ref fa) ∧ Fun mg.K "program_in" "program_in" s_program_in fa fd
  d_Program___init__ : ∃ fa fd, Mk mg.K Z.a_Program fa ∧ Fun mg.K "__init__" "Program.__init__" s_Program___init__ fa fd
  d_Program_nodes : ∃ p fa fd, PropOf mg.K Z.a_Program "nodes" p fa ∧ Fun mg.K "nodes" "Program.nodes" s_Program_nodes fa fd
  d_Program_text : ∃ p fa fd, PropOf mg.K Z.a_Program "text" p fa ∧ Fun mg.K "text" "Program.text" s_Program_text fa fd
  d_Program_size : ∃ p fa fd, PropOf mg.K Z.a_Program "size" p fa ∧ Fun mg.K "size" "Program.size" s_Program_size fa fd
  d_Program_parts : ∃ p fa fd, PropOf mg.K Z.a_Program "parts" p fa ∧ Fun mg.K "parts" "Program.parts" s_Program_parts fa fd
  d_Program_counts : ∃ p fa fd, PropOf mg.K Z.a_Program "counts" p fa ∧ Fun mg.K "counts" "Program.counts" s_Program_counts fa fd
  d_Program_require_place : ∃ fa fd, Meth mg.K Z.a_Program "require_place" fa ∧ Fun mg.K "require_place" "Program.require_place" s_Program_require_place fa fd
  d_Program_arguments : ∃ fa fd, Meth mg.K Z.a_Program "arguments" fa ∧ Fun mg.K "arguments" "Program.arguments" s_Program_arguments fa fd
  d_Program_bound : ∃ fa fd, Meth mg.K Z.a_Program "bound" fa ∧ Fun mg.K "bound" "Program.bound" s_Program_bound fa fd
  d_Program_way_to : ∃ fa fd, Meth mg.K Z.a_Program "way_to" fa ∧ Fun mg.K "way_to" "Program.way_to" s_Program_way_to fa fd
  d_Program_end : ∃ fa fd, Meth mg.K Z.a_Program "end" fa ∧ Fun mg.K "end" "Program.end" s_Program_end fa fd
  d_Program_renamed : ∃ fa fd, Meth mg.K Z.a_Program "renamed" fa ∧ Fun mg.K "renamed" "Program.renamed" s_Program_renamed fa fd
  d_Program_comes_ahead : ∃ fa fd, Meth mg.K Z.a_Program "comes_ahead" fa ∧ Fun mg.K "comes_ahead" "Program.comes_ahead" s_Program_comes_ahead fa fd
  d_Program___getitem__ : ∃ fa fd, (Meth mg.K Z.a_Program "__getitem__" fa ∧ PySem.W.fnIn mg.K fa = true) ∧ Fun mg.K "__getitem__" "Program.__getitem__" s_Program___getitem__ fa fd
  d_Program___len__ : ∃ fa fd, (Meth mg.K Z.a_Program "__len__" fa ∧ PySem.W.fnIn mg.K fa = true) ∧ Fun mg.K "__len__" "Program.__len__" s_Program___len__ fa fd
  d_Program___contains__ : ∃ fa fd, (Meth mg.K Z.a_Program "__contains__" fa ∧ PySem.W.fnIn mg.K fa = true) ∧ Fun mg.K "__contains__" "Program.__contains__" s_Program___contains__ fa fd
  d_Program___eq__ : ∃ fa fd, (Meth mg.K Z.a_Program "__eq__" fa ∧ PySem.W.fnIn mg.K fa = true) ∧ Fun mg.K "__eq__" "Program.__eq__" s_Program___eq__ fa fd
  d_Program___str__ : ∃ fa fd, (Meth mg.K Z.a_Program "__str__" fa ∧ PySem.W.fnIn mg.K fa = true) ∧ Fun mg.K "__str__" "Program.__str__" s_Program___str__ fa fd
  d_parts_used : ∃ fa fd, mg.mg "parts_used" = some (.ref fa) ∧ Fun mg.K "parts_used" "parts_used" s_parts_used fa fd
  d__law_dice : ∃ fa fd, mg.mg "_law_dice" = some (.ref fa) ∧ Fun mg.K "_law_dice" "_law_dice" s__law_dice fa fd
  d__law_roll : ∃ fa fd, mg.mg "_law_roll" = some (.ref fa) ∧ Fun mg.K "_law_roll" "_law_roll" s__law_roll fa fd
  d__law_pick : ∃ fa fd, mg.mg "_law_pick" = some (.ref fa) ∧ Fun mg.K "_law_pick" "_law_pick" s__law_pick fa fd
  d__law_program_nodes : ∃ fa fd, mg.mg "_law_program_nodes" = some (.ref fa) ∧ Fun mg.K "_law_program_nodes" "_law_program_nodes" s__law_program_nodes fa fd
  d__law_program_text : ∃ fa fd, mg.mg "_law_program_text" = some (.ref fa) ∧ Fun mg.K "_law_program_text" "_law_program_text" s__law_program_text fa fd
  d__law_program_parts : ∃ fa fd, mg.mg "_law_program_parts" = some (.ref fa) ∧ Fun mg.K "_law_program_parts" "_law_program_parts" s__law_program_parts fa fd
  d__law_drawn : ∃ fa fd, mg.mg "_law_drawn" = some (.ref fa) ∧ Fun mg.K "_law_drawn" "_law_drawn" s__law_drawn fa fd
  d__law_places_right : ∃ fa fd, mg.mg "_law_places_right" = some (.ref fa) ∧ Fun mg.K "_law_places_right" "_law_places_right" s__law_places_right fa fd
  d__law_is_ahead : ∃ fa fd, mg.mg "_law_is_ahead" = some (.ref fa) ∧ Fun mg.K "_law_is_ahead" "_law_is_ahead" s__law_is_ahead fa fd
  d__law_right : ∃ fa fd, mg.mg "_law_right" = some (.ref fa) ∧ Fun mg.K "_law_right" "_law_right" s__law_right fa fd
  d_law : ∃ fa fd, mg.mg "law" = some (.ref fa) ∧ Fun mg.K "law" "law" s_law fa fd
  ex_BuildError : ExcF mg "BuildError" Z.ax_BuildError veBm "ValueError.__new__"
  ex_InvalidProgram : ExcF mg "InvalidProgram" Z.ax_InvalidProgram veBm "ValueError.__new__"
  cam_BuildError : CatF mg (.ref Z.ax_BuildError) ["BuildError", "InvalidProgram"] (fun y => decide (y ∈ (["BuildError", "InvalidProgram"] : List Str)))
  cam_InvalidProgram : CatF mg (.ref Z.ax_InvalidProgram) ["BuildError", "InvalidProgram"] (fun y => decide (y ∈ (["InvalidProgram"] : List Str)))
end K15
namespace K15
open PySem L2 FP
variable [FP.Tabl]
open KP
theorem lc_letters (z : Str) {Q : List D → Prop} (h : Q (z.cps.toList.map fun c => .bl (decide (c ∈ letters)))) :
    lcD (fun d k => match inD d (.str "abcdefghijklmnopqrstuvwxyz") with | some b => k (some (.bl b)) | none => False) (signsD z) Q := by
  refine lcD_map (fun d => match inD d (.str "abcdefghijklmnopqrstuvwxyz") with | some b => .bl b | none => .non) _ _ (fun d hd k hk => ?_) ?_
  · obtain ⟨c, _, rfl⟩ := List.mem_map.mp hd
    exact hk
  · unfold signsD
    rw [List.map_map]
    exact h
theorem ok_is_word {P : Program} {w : World} {mg : Gm} {base : Heap} {Z : Ads} (A : All mg Z) : DefOk P w mg base 1 "is_word" 1 f_is_word := by
  refine mkDef (N := ["value", "sign"]) (ps := ["value"]) A.d_is_word sc_is_word (fun _ _ _ _ _ _ us hl => match us, hl with | [_], _ => rfl) fun fa cdv Ar outer s H E hr => ⟨_,
    (dss_one (ds_ret (de_and (de_isi (de_var 0) A.n_isinstance A.n_str FP.boot_str FP.boot_isinstance) (de_and (de_chain ok_le ok_le de_int (de_callB ok_len A.n_len FP.boot_len (da_cons (de_var 0) da_nil)) (de_gint A.c_MAX_LETTERS)) (de_one (de_callB ok_all A.n_all FP.boot_all (da_cons (de_lc (own := [("sign", 1)]) (fun _ => sc_is_word.nd) (di_str (de_var 0)) (fun _ => blkOk_by (by kernel_rfl)) (dg_name (i := 1) (fun _ => sc_is_word.nd)) dts_nil (de_cmp ok_in (de_var 1) (de_gstr A.c_LETTERS))) da_nil))))))),  fun ds Q Ex hl hf => ?_⟩
  match ds, hl, hf with
  | [d], _, ⟨ho, hq⟩ =>
    change (_ : DTS) _ [Sl.d d, Sl.no]
    obtain ⟨n, hn, hk⟩ := isi_str ho
    cases d with
    | str z =>
      simp only [dSeq, dNext, dIfS, dB, dOp, dVar, dC, dCB, dCons, dNil, dSet, dTok, dRet, dRetN, dCall, rdAdd, rdSub, rdMul, rdMod, rdFdiv, rdPow, rdGt, rdLt, rdLe, rdGe, rdIx, rdInt, rdAbs, rdMax, rdMin, rdLen, dRetTok, dSetO, dListO, dLenO, dIRng1, dRetPop, List.getElem?_cons_zero, List.getElem?_cons_succ, List.set_cons_zero, List.set_cons_succ, bit_dec, bit_t, bit_f, bit_not, blc_bl, Option.some.injEq, exists_eq_left', dAndV, dOrV, dNotV, dChain, dIsi, dLc, dIStr, dIList, dITup, dYes, Tg.put, wipeD, rdIn, rdNotIn, rdEq, rdNe, rdAll, dLst, dTup, dAnd, dOr, dNot, dFor, forD, dAsg, dIf, dJoin, rdList, dNewD, rdStr, List.map_cons, List.map_nil, tyName]
      refine ⟨true, kit_ss, Nat.le_trans ho.1 (by decide), fun h1 => ⟨fun h2 => ⟨signs_ok ho, lc_letters z ?_⟩, fun h2 => ?_⟩, fun h1 => ?_⟩
      · refine ⟨_, blsD_fn _ _, ?_⟩
        have e : isWordD (.str z) = (z.cps.toList.map fun c => decide (c ∈ letters)).all id := by
          show (decide (1 ≤ z.length) && decide (z.length ≤ 8) && z.cps.toList.all fun c => decide (c ∈ letters)) = _
          rw [decide_eq_true (show 1 ≤ z.length by omega), decide_eq_true (show z.length ≤ 8 by omega), List.all_map]
          rfl
        rw [← e]
        exact hq
      · have e : isWordD (.str z) = false := by
          show (decide (1 ≤ z.length) && decide (z.length ≤ 8) && z.cps.toList.all fun c => decide (c ∈ letters)) = _
          rw [decide_eq_false (show ¬ z.length ≤ 8 by omega), Bool.and_false, Bool.false_and]
        rw [← e]
        exact hq
      · have e : isWordD (.str z) = false := by
          show (decide (1 ≤ z.length) && decide (z.length ≤ 8) && z.cps.toList.all fun c => decide (c ∈ letters)) = _
          rw [decide_eq_false (show ¬ 1 ≤ z.length by omega), Bool.false_and, Bool.false_and]
        rw [← e]
        exact hq
    | fz _ => exact ho.elim
    | ins _ _ => exact ho.elim
    | cl _ => exact ho.elim
    | fn _ _ => exact ho.elim
    | _ =>
      cases hn
      exact ⟨_, hk, hq⟩
theorem ok_is_integer {P : Program} {w : World} {mg : Gm} {base : Heap} {Z : Ads} (A : All mg Z) : DefOk P w mg base 1 "is_integer" 1 f_is_int := by
  refine mkDef (N := ["value"]) (ps := ["value"]) A.d_is_integer sc_is_integer (fun _ _ _ _ _ _ us hl => match us, hl with | [_], _ => rfl) fun fa cdv Ar outer s H E hr => ⟨_,
    (dss_one (ds_ret (de_and (de_isi (de_var 0) A.n_isinstance A.n_int FP.boot_int FP.boot_isinstance) (de_and (de_not (de_isi (de_var 0) A.n_isinstance A.n_bool FP.boot_bool FP.boot_isinstance)) (de_one (de_chain ok_lt ok_lt (de_neg (de_gint A.c_LONGEST)) (de_var 0) (de_gint A.c_LONGEST))))))),  fun ds Q Ex hl hf => ?_⟩
  match ds, hl, hf with
  | [d], _, ⟨ho, hq⟩ =>
    change (_ : DTS) _ [Sl.d d]
    obtain ⟨n, hn, hi, hb⟩ := isi_ty ho
    cases d with
    | int i =>
      cases hn
      refine ⟨_, hi, _, hb, ?_⟩
      simp only [dSeq, dNext, dIfS, dB, dOp, dVar, dC, dCB, dCons, dNil, dSet, dTok, dRet, dRetN, dCall, rdAdd, rdSub, rdMul, rdMod, rdFdiv, rdPow, rdGt, rdLt, rdLe, rdGe, rdIx, rdInt, rdAbs, rdMax, rdMin, rdLen, dRetTok, dSetO, dListO, dLenO, dIRng1, dRetPop, List.getElem?_cons_zero, List.getElem?_cons_succ, List.set_cons_zero, List.set_cons_succ, bit_dec, bit_t, bit_f, bit_not, blc_bl, Option.some.injEq, exists_eq_left', dAndV, dOrV, dNotV, dChain, dIsi, dLc, dIStr, dIList, dITup, dYes, Tg.put, wipeD, rdIn, rdNotIn, rdEq, rdNe, rdAll, dLst, dTup, dAnd, dOr, dNot, dFor, forD, dAsg, dIf, dJoin, rdList, dNewD, rdStr, List.map_cons, List.map_nil, dNeg, isBlT, isIntT, Bool.not_false]
      have e : isIntD (.int i) = (decide (-(10 ^ 60) < i) && decide (i < 10 ^ 60)) := rfl
      rw [e] at hq
      refine ⟨fun h1 => ?_, fun h1 => ?_⟩
      · rw [decide_eq_true (show -(10 ^ 60) < i from h1), Bool.true_and] at hq
        exact hq
      · rw [decide_eq_false (show ¬ -(10 ^ 60) < i from h1), Bool.false_and] at hq
        exact hq
    | bl b =>
      cases hn
      exact ⟨_, hi, _, hb, hq⟩
    | fz _ => exact ho.elim
    | ins _ _ => exact ho.elim
    | cl _ => exact ho.elim
    | fn _ _ => exact ho.elim
    | _ =>
      cases hn
      exact ⟨_, hi, hq⟩
theorem ok_is_within {P : Program} {w : World} {mg : Gm} {base : Heap} {Z : Ads} (A : All mg Z) (G_is_integer : DefOk P w mg base 1 "is_integer" 1 f_is_int) : DefOk P w mg base 2 "is_within" 3 f_within := by
  refine mkDef (N := ["value", "least", "most"]) (ps := ["value", "least", "most"]) A.d_is_within sc_is_within (fun _ _ _ _ _ _ us hl => match us, hl with | [_, _, _], _ => rfl) fun fa cdv Ar outer s H E hr => ⟨_,
    (dss_one (ds_ret (de_and (de_call G_is_integer (fun _ => hr.mono (by omega)) (fun _ => pas (takes_of rfl rfl rfl rfl)) (da_cons (de_var 0) da_nil)) (de_one (de_chain ok_le ok_le (de_var 1) (de_var 0) (de_var 2)))))),  fun ds Q Ex hl hf => ?_⟩
  match ds, hl, hf with
  | [d, .int a, .int b], _, ⟨ho, hq⟩ =>
    change (_ : DTS) _ [Sl.d d, Sl.d (.int a), Sl.d (.int b)]
    refine ⟨rfl, ho, ?_⟩
    cases d with
    | int i =>
      have e : inRow (.int i) a b = (isIntD (.int i) && (decide (a ≤ i) && decide (i ≤ b))) := rfl
      rw [e] at hq
      cases hi : isIntD (.int i) with
      | false => rw [hi] at hq; exact hq
      | true =>
        rw [hi, Bool.true_and] at hq
        show bit (decide (a ≤ i)) (Q (.bl (decide (i ≤ b)))) (Q (.bl false))
        cases ha : decide (a ≤ i) with
        | false => rw [ha] at hq; exact hq
        | true => rw [ha, Bool.true_and] at hq; exact hq
    | _ => exact hq
theorem ok_level_of {P : Program} {w : World} {mg : Gm} {base : Heap} {Z : Ads} (A : All mg Z) : DefOk P w mg base 1 "level_of" 1 f_level := by
  refine mkDef (N := ["value", "digits", "sign"]) (ps := ["value"]) A.d_level_of sc_level_of (fun _ _ _ _ _ _ us hl => match us, hl with | [_], _ => rfl) fun fa cdv Ar outer s H E hr => ⟨_,
    (dss_cons (ds_if (dt_w (dw_or (dt_not (dt_val (de_isi (de_var 0) A.n_isinstance A.n_str FP.boot_str FP.boot_isinstance))) (dw_or (dt_cmp ok_notIn (de_callB ok_len A.n_len FP.boot_len (da_cons (de_var 0) da_nil)) (de_tup (da_cons de_int (da_cons de_int da_nil)))) (dw_or1 (dt_cmp (ok_ne (fun _ => hr.r.units)) (de_ix (de_var 0) de_int) (de_gstr A.c_VARIABLE))))))
    (dss_one (ds_ret de_non))
    dss_nil)
    (dss_cons (ds_set (i := 1) (de_slice (de_var 0) (do_some de_int) do_none) (fun _ => sc_level_of.nd))
    (dss_cons (ds_if (dt_w (dw_or (dt_not (dt_val (de_callB ok_all A.n_all FP.boot_all (da_cons (de_lc (own := [("sign", 2)]) (fun _ => sc_level_of.nd) (di_str (de_var 1)) (fun _ => blkOk_by (by kernel_rfl)) (dg_name (i := 2) (fun _ => sc_level_of.nd)) dts_nil (de_cmp ok_in (de_var 2) (de_gstr A.c_DIGITS))) da_nil)))) (dw_or1 (dt_cmp (ok_ne (fun _ => hr.r.units)) (de_callTy ok_str A.n_str FP.boot_str (da_cons (de_callTy ok_int A.n_int FP.boot_int (da_cons (de_var 1) da_nil)) da_nil)) (de_var 1)))))
    (dss_one (ds_ret de_non))
    dss_nil)
    (dss_one (ds_ret (de_callTy ok_int A.n_int FP.boot_int (da_cons (de_var 1) da_nil))))))),  fun ds Q Ex hl hf => ?_⟩
  match ds, hl, hf with
  | [d], _, ⟨ho, hq⟩ =>
    change (_ : DTS) _ [Sl.d d, Sl.no, Sl.no]
    obtain ⟨n, hn, hk⟩ := isi_str ho
    cases d with
    | str z =>
      cases hn
      refine ⟨_, hk, len_ok ho, by decide, ?_⟩
      have hq' : Q (ofO (levelS z)) := hq
      refine notIn23 _ (fun h => ?_) fun h => ?_
      · rw [levelS_bad h] at hq'
        exact hq'
      · rcases str23 h with ⟨x, a, rfl⟩ | ⟨x, a, b, rfl⟩
        · refine ⟨x, len_ok ho, rfl, ne_x x (fun hx => ?_) fun hx => ?_⟩
          · have e : levelS ⟨#[x, a]⟩ = none := if_neg fun q => hx q.1
            rw [e] at hq'
            exact hq'
          · subst hx
            refine ⟨len_ok ho, ?_⟩
            simp only [dSeq, dNext, dIfS, dB, dOp, dVar, dC, dCB, dCons, dNil, dSet, dTok, dRet, dRetN, dCall, rdAdd, rdSub, rdMul, rdMod, rdFdiv, rdPow, rdGt, rdLt, rdLe, rdGe, rdIx, rdInt, rdAbs, rdMax, rdMin, rdLen, dRetTok, dSetO, dListO, dLenO, dIRng1, dRetPop, List.getElem?_cons_zero, List.getElem?_cons_succ, List.set_cons_zero, List.set_cons_succ, bit_dec, bit_t, bit_f, bit_not, blc_bl, Option.some.injEq, exists_eq_left', dAndV, dOrV, dNotV, dChain, dIsi, dLc, dIStr, dIList, dITup, dYes, Tg.put, wipeD, rdIn, rdNotIn, rdEq, rdNe, rdAll, dLst, dTup, dAnd, dOr, dNot, dFor, forD, dAsg, dIf, dJoin, rdList, dNewD, rdStr, List.map_cons, List.map_nil]
            rw [show cutS (⟨#[120, a]⟩ : Str) (some 1) none = ⟨#[a]⟩ from rfl]
            refine ⟨by show 1 ≤ sizeLine; decide, lc_in _ _ ⟨_, blsD_fn _ _, ?_⟩⟩
            have e1 : ((⟨#[a]⟩ : Str).cps.toList.map fun c => decide (c ∈ ("0123456789" : Str).cps.toList)).all id = decide (a ∈ digL) := Bool.and_true _
            rw [e1, bit_dec]
            refine ⟨fun ha => ?_, fun ha => ?_⟩
            · obtain ⟨h1, h2⟩ := dig1 a ha
              have hs := dig_small a ha
              refine ⟨_, h1, by show 1 ≤ 640; decide, log_small (by omega) (by omega), ?_⟩
              rw [h2]
              show bit (decide ((⟨#[a]⟩ : Str) = ⟨#[a]⟩)) _ _
              rw [decide_eq_true rfl]
              refine ⟨_, h1, by show 1 ≤ 640; decide, ?_⟩
              have e : levelS ⟨#[120, a]⟩ = some ((a : Int) - 48) := if_pos ⟨rfl, ha⟩
              rw [e] at hq'
              exact hq'
            · have e : levelS ⟨#[120, a]⟩ = none := if_neg fun q => ha q.2
              rw [e] at hq'
              exact hq'
        · refine ⟨x, len_ok ho, rfl, ne_x x (fun hx => ?_) fun hx => ?_⟩
          · have e : levelS ⟨#[x, a, b]⟩ = none := if_neg fun q => hx q.1
            rw [e] at hq'
            exact hq'
          · subst hx
            refine ⟨len_ok ho, ?_⟩
            simp only [dSeq, dNext, dIfS, dB, dOp, dVar, dC, dCB, dCons, dNil, dSet, dTok, dRet, dRetN, dCall, rdAdd, rdSub, rdMul, rdMod, rdFdiv, rdPow, rdGt, rdLt, rdLe, rdGe, rdIx, rdInt, rdAbs, rdMax, rdMin, rdLen, dRetTok, dSetO, dListO, dLenO, dIRng1, dRetPop, List.getElem?_cons_zero, List.getElem?_cons_succ, List.set_cons_zero, List.set_cons_succ, bit_dec, bit_t, bit_f, bit_not, blc_bl, Option.some.injEq, exists_eq_left', dAndV, dOrV, dNotV, dChain, dIsi, dLc, dIStr, dIList, dITup, dYes, Tg.put, wipeD, rdIn, rdNotIn, rdEq, rdNe, rdAll, dLst, dTup, dAnd, dOr, dNot, dFor, forD, dAsg, dIf, dJoin, rdList, dNewD, rdStr, List.map_cons, List.map_nil]
            rw [show cutS (⟨#[120, a, b]⟩ : Str) (some 1) none = ⟨#[a, b]⟩ from rfl]
            refine ⟨by show 2 ≤ sizeLine; decide, lc_in _ _ ⟨_, blsD_fn _ _, ?_⟩⟩
            have e1 : ((⟨#[a, b]⟩ : Str).cps.toList.map fun c => decide (c ∈ ("0123456789" : Str).cps.toList)).all id = decide (a ∈ digL ∧ b ∈ digL) := by
              show (decide (a ∈ digL) && (decide (b ∈ digL) && true)) = _
              rw [Bool.and_true, Bool.decide_and]
            rw [e1, bit_dec]
            refine ⟨fun hab => ?_, fun hab => ?_⟩
            · obtain ⟨h1, h2⟩ := dig2 a hab.1 b hab.2
              have hs := dig_small a hab.1
              have hs2 := dig_small b hab.2
              refine ⟨_, h1, by show 2 ≤ 640; decide, log_small (by omega) (by omega), ?_⟩
              show bit (decide (_ = (⟨#[a, b]⟩ : Str))) _ _
              rw [h2, bit_dec]
              refine ⟨fun h48 => ?_, fun h48 => ?_⟩
              · refine ⟨_, h1, by show 2 ≤ 640; decide, ?_⟩
                have e : levelS ⟨#[120, a, b]⟩ = some (((a : Int) - 48) * 10 + ((b : Int) - 48)) := if_pos ⟨rfl, hab.1, hab.2, h48⟩
                rw [e] at hq'
                exact hq'
              · have e : levelS ⟨#[120, a, b]⟩ = none := if_neg fun q => h48 q.2.2.2
                rw [e] at hq'
                exact hq'
            · have e : levelS ⟨#[120, a, b]⟩ = none := if_neg fun q => hab ⟨q.2.1, q.2.2.1⟩
              rw [e] at hq'
              exact hq'
    | fz _ => exact ho.elim
    | ins _ _ => exact ho.elim
    | cl _ => exact ho.elim
    | fn _ _ => exact ho.elim
    | _ =>
      cases hn
      exact ⟨_, hk, hq⟩
end K15
namespace K15
open PySem L2 FP
variable [FP.Tabl]
open KP
theorem ok_is_node {P : Program} {w : World} {mg : Gm} {base : Heap} {Z : Ads} (A : All mg Z) (G_is_within : DefOk P w mg base 2 "is_within" 3 f_within) (G_is_word : DefOk P w mg base 1 "is_word" 1 f_is_word) (G_level_of : DefOk P w mg base 1 "level_of" 1 f_level) : DefOk P w mg base 3 "is_node" 2 f_isnode := by
  refine mkDef (N := ["value", "has_gaps"]) (ps := ["value", "has_gaps"]) A.d_is_node sc_is_node (fun _ _ _ _ _ _ us hl => match us, hl with | [_, _], _ => rfl) fun fa cdv Ar outer s H E hr => ⟨_,
    (dss_cons (ds_if (dt_w (dw_or (dt_not (dt_val (de_isi (de_var 0) A.n_isinstance A.n_tuple FP.boot_tuple FP.boot_isinstance))) (dw_or (dt_cmp (ok_ne (fun _ => hr.r.units)) (de_callB ok_len A.n_len FP.boot_len (da_cons (de_var 0) da_nil)) de_int) (dw_or1 (dt_not (dt_val (de_isi (de_ix (de_var 0) de_int) A.n_isinstance A.n_str FP.boot_str FP.boot_isinstance)))))))
    (dss_one (ds_ret de_bl))
    dss_nil)
    (dss_cons (ds_if (dt_w (dw_or (dt_not (dt_val (de_call G_is_within (fun _ => hr.mono (by omega)) (fun _ => pas (takes_of rfl rfl rfl rfl)) (da_cons (de_ix (de_var 0) de_int) (da_cons de_int (da_cons (de_gint A.c_MAX_COUNT) da_nil)))))) (dw_or1 (dt_not (dt_val (de_call G_is_within (fun _ => hr.mono (by omega)) (fun _ => pas (takes_of rfl rfl rfl rfl)) (da_cons (de_ix (de_var 0) de_int) (da_cons de_int (da_cons (de_gint A.c_MAX_COUNT) da_nil)))))))))
    (dss_one (ds_ret de_bl))
    dss_nil)
    (dss_one (ds_ret (de_or (de_call G_is_word (fun _ => hr.mono (by omega)) (fun _ => pas (takes_of rfl rfl rfl rfl)) (da_cons (de_ix (de_var 0) de_int) da_nil)) (de_or (de_cmp ok_isNot (de_call G_level_of (fun _ => hr.mono (by omega)) (fun _ => pas (takes_of rfl rfl rfl rfl)) (da_cons (de_ix (de_var 0) de_int) da_nil)) de_non) (de_one (de_and (de_var 1) (de_and (de_cmp (ok_eq (fun _ => hr.r.units)) (de_ix (de_var 0) de_int) (de_gstr A.c_GAP)) (de_one (de_cmp (ok_eq (fun _ => hr.r.units)) (de_ix (de_var 0) de_int) de_int))))))))))),  fun ds Q Ex hl hf => ?_⟩
  match ds, hl, hf with
  | [d, .bl false], _, ⟨ho, hq⟩ =>
    have e0 : startD 2 [d, .bl false] = [Sl.d (d), Sl.d (.bl false)] := rfl
    have hnN : (["value", "has_gaps"] : List Str).length = 2 := rfl
    rw [hnN, e0]
    clear e0 hnN
    have hv : okV d := by
      cases d with
      | tup xs => exact trivial
      | _ => exact ho
    have evT := ev_tup_isi (ρ := [Sl.d d, Sl.d (.bl false)]) (i := 0) hv rfl
    cases ht : isTupD d with
    | false =>
      have e : isNodeD d = false := by
        cases d with
        | tup xs => cases ht
        | _ => rfl
      rw [e] at hq
      exact seq_ifT (or_t (not_v (b := false) (b_v (evT.eq (by rw [ht]))))) (ret_v _ (fun Q E q => q) hq)
    | true =>
    obtain ⟨xs, rfl⟩ : ∃ xs, d = .tup xs := by
      cases d with
      | tup xs => exact ⟨xs, rfl⟩
      | _ => cases ht
    have f1 : EvT (dNot (dB (dIsi "tuple" (dVar 0)))) [Sl.d (.tup xs), Sl.d (.bl false)] false := not_v (b := true) (b_v (evT.eq (by rw [ht])))
    have el : Ev (dOp rdNe (dCB rdLen (dCons (dVar 0) dNil)) (dC (.int 3))) [Sl.d (.tup xs), Sl.d (.bl false)] (.bl (!decide ((xs.length : Int) = 3))) := ev_op (x := .int xs.length) (y := .int 3) (fun Q E q => q) (fun Q E q => q) fun Q q => q
    by_cases h3 : xs.length = 3
    case neg =>
      have e := isNode_len h3
      rw [e] at hq
      exact seq_ifT (or_f f1 (or_t (b_v (el.eq (by rw [decide_eq_false (by omega)]; rfl))))) (ret_v _ (fun Q E q => q) hq)
    obtain ⟨x, y, z, rfl⟩ : ∃ x y z, xs = [x, y, z] := by
      match xs, h3 with
      | [x, y, z], _ => exact ⟨x, y, z, rfl⟩
    obtain ⟨hx, hy, hz⟩ := ho
    obtain ⟨m, hm, hmk⟩ := isi_str hy
    have es : EvT (dB (dIsi "str" (dOp rdIx (dVar 0) (dC (.int 1))))) [Sl.d (.tup [x, y, z]), Sl.d (.bl false)] (isStr y) := b_v fun Q E q => ⟨y, rfl, by
      show (match tyName y with | some n => ∃ b, kitB n "str" = some b ∧ Q (.bl b) | none => False)
      rw [hm]
      exact ⟨_, hmk, q⟩⟩
    cases hs : isStr y with
    | false =>
      have e : isNodeD (.tup [x, y, z]) = false := by
        cases y with
        | str _ => cases hs
        | _ => rfl
      rw [e] at hq
      exact seq_ifT (or_f f1 (or_f (b_v (el.eq rfl)) (not_v (b := false) (es.eq hs)))) (ret_v _ (fun Q E q => q) hq)
    | true =>
    obtain ⟨h, rfl⟩ : ∃ h, y = .str h := by
      cases y with
      | str h => exact ⟨h, rfl⟩
      | _ => cases hs
    refine seq_ifF (or_f f1 (or_f (b_v (el.eq rfl)) (not_v (b := true) (es.eq hs)))) ?_
    have e : isNodeD (.tup [x, .str h, z]) = (inRow x 0 15 && (inRow z 0 15 && headG h)) := rfl
    rw [e] at hq
    have w0 : Ev (dCall f_within 3 (dCons (dOp rdIx (dVar 0) (dC (.int 0))) (dCons (dC (.int 0)) (dCons (dC (.int 15)) dNil)))) [Sl.d (.tup [x, .str h, z]), Sl.d (.bl false)] (.bl (inRow x 0 15)) := ev_call (a1 (d := x) (fun Q E q => ⟨_, rfl, q⟩) (a1 (fun Q E q => q) (a1 (fun Q E q => q) a0))) rfl fun Q E q => ⟨hx, q⟩
    have w2 : Ev (dCall f_within 3 (dCons (dOp rdIx (dVar 0) (dC (.int 2))) (dCons (dC (.int 0)) (dCons (dC (.int 15)) dNil)))) [Sl.d (.tup [x, .str h, z]), Sl.d (.bl false)] (.bl (inRow z 0 15)) := ev_call (a1 (d := z) (fun Q E q => ⟨_, rfl, q⟩) (a1 (fun Q E q => q) (a1 (fun Q E q => q) a0))) rfl fun Q E q => ⟨hz, q⟩
    cases h0 : inRow x 0 15 with
    | false =>
      rw [h0] at hq w0
      exact seq_ifT (or_t (not_v (b := false) (b_v w0))) (ret_v _ (fun Q E q => q) hq)
    | true =>
    cases h2 : inRow z 0 15 with
    | false =>
      rw [h0, h2] at hq
      rw [h0] at w0
      rw [h2] at w2
      exact seq_ifT (or_f (not_v (b := true) (b_v w0)) (not_v (b := false) (b_v w2))) (ret_v _ (fun Q E q => q) hq)
    | true =>
    rw [h0, h2] at hq
    rw [h0] at w0
    rw [h2] at w2
    refine seq_ifF (or_f (not_v (b := true) (b_v w0)) (not_v (b := true) (b_v w2))) ?_
    refine ret_v (.bl (isWordS h || ((levelS h).isSome || (false && (false && false))))) (ev_orV (ev_call (a1 (d := .str h) (fun Q E q => ⟨_, rfl, q⟩) a0) rfl fun Q E q => ⟨hy, q⟩) fun _ => ev_orV (ev_op (x := ofO (levelS h)) (y := .non) (ev_call (a1 (d := .str h) (fun Q E q => ⟨_, rfl, q⟩) a0) rfl fun Q E q => ⟨hy, q⟩) (fun Q E q => q) fun Q q => ?_) fun _ => ev_andV (fun Q E q => q) fun h => by cases h) ?_
    · cases hl2 : levelS h with
      | none =>
        rw [hl2] at q
        exact q
      | some l =>
        rw [hl2] at q
        exact q
    · have e2 : (isWordS h || ((levelS h).isSome || (false && (false && false)))) = headG h := by
        unfold headG
        cases isWordS h <;> cases (levelS h).isSome <;> rfl
      rw [e2]
      exact hq
theorem ok_kids_of {P : Program} {w : World} {mg : Gm} {base : Heap} {Z : Ads} (A : All mg Z) : DefOk P w mg base 1 "kids_of" 1 f_kids := by
  refine mkDef (N := ["nodes", "found", "waiting", "at", "cut", "node"]) (ps := ["nodes"]) A.d_kids_of sc_kids_of (fun _ _ _ _ _ _ us hl => match us, hl with | [_], _ => rfl) fun fa cdv Ar outer s H E hr => ⟨_,
    (dss_cons (ds_setLcN (i := 1) (own := [("node", 5)]) (fun _ => sc_kids_of.nd) (di_tup (de_var 0)) (fun _ => blkOk_by (by kernel_rfl)) (dg_name (i := 5) (fun _ => sc_kids_of.nd)) dts_nil (de_tup da_nil) (fun _ => sw_true rfl rfl rfl (by decide +kernel)))
    (dss_cons (ds_set (i := 2) (de_lst da_nil) (fun _ => sc_kids_of.nd))
    (dss_cons (ds_for (di_range3 A.n_range (da_cons (de_op ok_sub (de_callB ok_len A.n_len FP.boot_len (da_cons (de_var 0) da_nil)) de_int) (da_cons (de_neg de_int) (da_cons (de_neg de_int) da_nil)))) (dg_name (i := 3) (fun _ => sc_kids_of.nd))
    (dss_cons (ds_set (i := 4) (de_op ok_sub (de_callB ok_len A.n_len FP.boot_len (da_cons (de_var 2) da_nil)) (de_ix (de_ix (de_var 0) (de_var 3)) de_int)) (fun _ => sc_kids_of.nd))
    (dss_cons (ds_if (dt_cmp ok_lt (de_var 4) de_int)
    (dss_one (ds_ret de_non))
    dss_nil)
    (dss_cons (ds_ownSet 1 (de_var 3) (de_callTy ok_tuple A.n_tuple FP.boot_tuple (da_cons (de_revL (de_slice (de_var 2) (do_some (de_var 4)) do_none)) da_nil)) (fun _ _ _ h h2 => ps_asg h2 (pg_sub (pv 1) h set_list)))
    (dss_one (ds_set (i := 2) (de_lst (da_star (de_slice (de_var 2) do_none (do_some (de_var 4))) (da_cons (de_var 3) da_nil))) (fun _ => sc_kids_of.nd)))))) (fun _ => passes_of rfl))
    (dss_one (ds_frz 1 (ds_ret (de_if (dt_cmp (ok_eq (fun _ => hr.r.units)) (de_var 2) (de_lst (da_cons de_int da_nil))) (de_var 1) de_non))))))),  fun ds Q Ex hl hf => ?_⟩
  match ds, hl, hf with
  | [.tup _], _, ⟨ns, rfl, hn, hq⟩ =>
    have e0 : startD 6 [.tup (ns.map nodD)] = [Sl.d (.tup (ns.map nodD)), Sl.no, Sl.no, Sl.no, Sl.no, Sl.no] := rfl
    have hnN : (["nodes", "found", "waiting", "at", "cut", "node"] : List Str).length = 6 := rfl
    rw [hnN, e0]
    clear e0 hnN
    have hnl : (ns.map nodD).length = ns.length := List.length_map _
    refine seq_oC (xs := List.replicate ns.length (D.tup [])) (fun Q E q => ?_) ?_
    · refine ⟨size_small (by omega), ?_⟩
      refine lcD_map (fun _ => .tup []) _ _ (fun d hd k hk => ⟨_, rfl, line rfl, hk⟩) ?_
      rw [List.map_const']
      rw [hnl]
      exact q
    refine seq_v (.lst (natsD [])) (ev_lst a0 (line rfl)) ?_
    refine seq_for (rangeC (((ns.map nodD).length : Int) - 1) (-1) ((((ns.map nodD).length : Int) - 1) - (-1)).toNat) (fun Q E q => ⟨rfl, ⟨by omega, by omega, by decide, by decide⟩, q⟩) ?_
    rw [hnl, show (((ns.length : Int) - 1) - (-1)).toNat = ns.length by omega, range_down]
    refine for_st (fun r ρ => ∃ (k : Nat) (w : List Nat) (K : List (List Nat)) (a b : Sl), r = downD k ∧ k ≤ ns.length ∧ stP k (ns.drop k) = some (w, K) ∧ ρ = [Sl.d (.tup (ns.map nodD)), Sl.own (List.replicate k (D.tup []) ++ K.map kidD), Sl.d (.lst (natsD w.reverse)), a, b, Sl.no]) ?_ ?_ _ _ ⟨ns.length, [], [], _, _, rfl, Nat.le_refl _, by rw [List.drop_length]; rfl, by rw [List.map_nil, List.append_nil]; rfl⟩
    · rintro ρ ⟨k, w, K, a, b, hk, _, hst, rfl⟩
      cases k with
      | succ k => cases hk
      | zero =>
      rw [List.drop_zero] at hst
      dsimp only
      rw [List.replicate_zero, List.nil_append]
      refine frz_ret rfl (ret_if (b := decide (w.reverse = [0])) (b_v (ev_op (x := .lst (natsD w.reverse)) (y := .lst (natsD [0])) (fun Q E q => q) (ev_lst (a1 (fun Q E q => q) a0) (line rfl)) fun Q q => eqInts q)) ?_)
      have ew : decide (w.reverse = [0]) = decide (w = [0]) := decide_eq_decide.mpr ⟨fun h => by rw [← List.reverse_reverse w, h]; rfl, fun h => by rw [h]; rfl⟩
      rw [ew]
      have ek : kidsP ns = if w = [0] then some K else none := by
        unfold kidsP
        rw [hst]
      rw [ek] at hq
      refine bitS (fun hw => ?_) (fun hw => ?_)
      · rw [if_pos (of_decide_eq_true hw)] at hq
        exact ret_v (.lst (K.map kidD)) (fun Q E q => q) hq
      · rw [if_neg (of_decide_eq_false hw)] at hq
        exact ret_v .non (fun Q E q => q) hq
    · rintro d r ρ ⟨k, w, K, a, b, hk, hkn, hst, rfl⟩
      cases k with
      | zero => cases hk
      | succ k =>
      rw [downD] at hk
      cases hk
      have hlt : k < ns.length := by omega
      have hget : (ns.map nodD)[k]? = some (nodD ns[k]) := by rw [List.getElem?_map, List.getElem?_eq_getElem hlt]; rfl
      have hdrop : ns.drop k = ns[k] :: ns.drop (k + 1) := List.drop_eq_getElem_cons hlt
      have hwl : w.length ≤ 900 := by
        have h1 := stP_inc hst
        have h2 : w.length ≤ (ns.drop (k + 1)).length := inc_len h1.1 h1.2.1
        rw [List.length_drop] at h2
        omega
      refine ⟨_, rfl, fun K' hK' => ?_⟩
      refine seq_v (.int ((w.length : Int) - (ns[k].2.2 : Nat))) (ev_op (x := .int w.length) (y := .int (ns[k].2.2 : Nat)) (fun Q E q => by
        show Q (.int ((natsD w.reverse).length : Nat))
        rw [intsD_len, List.length_reverse]
        exact q) (ev_op (x := nodD ns[k]) (y := .int 2) (ev_op (x := .tup (ns.map nodD)) (y := .int k) (fun Q E q => q) (fun Q E q => q) fun Q q => ⟨_, at_of rfl hget, q⟩) (fun Q E q => q) fun Q q => ⟨_, rfl, q⟩) fun Q q => q) ?_
      by_cases hc : ns[k].2.2 ≤ w.length
      case neg =>
        refine seq_ifT (b_v (ev_op (x := .int ((w.length : Int) - (ns[k].2.2 : Nat))) (y := .int 0) (fun Q E q => q) (fun Q E q => q) fun Q q => by
          show Q (.bl (decide (((w.length : Int) - (ns[k].2.2 : Nat)) < 0)))
          rw [decide_eq_true (by omega)]
          exact q)) (ret_v .non (fun Q E q => q) ?_)
        have hno : stP k (ns.drop k) = none := by
          rw [hdrop, stP, hst]
          exact if_neg hc
        rw [kidsP_none hno] at hq
        exact hq
      refine seq_ifF (b_v (ev_op (x := .int ((w.length : Int) - (ns[k].2.2 : Nat))) (y := .int 0) (fun Q E q => q) (fun Q E q => q) fun Q q => by
        show Q (.bl (decide (((w.length : Int) - (ns[k].2.2 : Nat)) < 0)))
        rw [decide_eq_false (by omega)]
        exact q)) ?_
      have hrl : (natsD w.reverse).length = w.length := by rw [intsD_len, List.length_reverse]
      have hcut : (w.length : Int) - (ns[k].2.2 : Nat) = ((w.length - ns[k].2.2 : Nat) : Int) := by omega
      refine seq_ownSet (n := k) rfl (d := kidD (w.take ns[k].2.2)) (ev_cb (a1 (d := .lst (natsD (w.take ns[k].2.2))) ?_ a0) fun Q q => q) (m := k) (fun Q E q => q) ?_ ?_
      · have e := sl_from (ρ := [Sl.d (.tup (ns.map nodD)), Sl.own (List.replicate (k + 1) (D.tup []) ++ K.map kidD), Sl.d (.lst (natsD w.reverse)), Sl.d (.int k), Sl.d (.int ((w.length : Int) - (ns[k].2.2 : Nat))), Sl.no]) (fa := dVar 2) (fb := dVar 4) (xs := natsD w.reverse) (n := w.length - ns[k].2.2) (fun Q E q => q) (fun Q E q => q) hcut (by omega)
        refine fun Q E q => e _ _ ?_
        show Q (.lst ((natsD w.reverse).drop (w.length - ns[k].2.2)).reverse)
        rw [ints_rev_drop]
        exact q
      · rw [List.length_append, List.length_replicate]
        exact ixN_nat (by omega)
      rw [set_mid]
      refine end_v (.lst (natsD (k :: w.drop ns[k].2.2).reverse)) (ev_lst (ds := natsD (w.reverse.take (w.length - ns[k].2.2)) ++ [.int k]) (fun Q E q => ?_) ?_ |>.eq ?_) (hK' _ ⟨k, k :: w.drop ns[k].2.2, w.take ns[k].2.2 :: K, _, _, rfl, by omega, ?_, rfl⟩)
      · have e := sl_to (ρ := [Sl.d (.tup (ns.map nodD)), Sl.own (List.replicate k (D.tup []) ++ kidD (w.take ns[k].2.2) :: K.map kidD), Sl.d (.lst (natsD w.reverse)), Sl.d (.int k), Sl.d (.int ((w.length : Int) - (ns[k].2.2 : Nat))), Sl.no]) (fa := dVar 2) (fb := dVar 4) (xs := natsD w.reverse) (n := w.length - ns[k].2.2) (fun Q E q => q) (fun Q E q => by rw [← hcut] at q; exact q) (by omega)
        refine e _ _ ?_
        show Q ((natsD w.reverse).take (w.length - ns[k].2.2) ++ [.int k])
        rw [ints_take]
        exact q
      · rw [List.length_append, intsD_len, List.length_take, List.length_reverse]
        exact size_small (by show _ + 1 ≤ 1000; omega)
      · rw [ints_snoc, List.reverse_cons, rev_drop]
      · rw [hdrop, stP, hst]
        exact if_pos hc
end K15
namespace K15
open PySem L2 FP
variable [FP.Tabl]
open KP
theorem ok_ends_of {P : Program} {w : World} {mg : Gm} {base : Heap} {Z : Ads} (A : All mg Z) : DefOk P w mg base 1 "ends_of" 1 f_ends := by
  refine mkDef (N := ["kids", "found", "at"]) (ps := ["kids"]) A.d_ends_of sc_ends_of (fun _ _ _ _ _ _ us hl => match us, hl with | [_], _ => rfl) fun fa cdv Ar outer s H E hr => ⟨_,
    (dss_cons (ds_setLcN (i := 1) (own := [("at", 2)]) (fun _ => sc_ends_of.nd) (di_range1 A.n_range (da_cons (de_callB ok_len A.n_len FP.boot_len (da_cons (de_var 0) da_nil)) da_nil)) (fun _ => blkOk_by (by kernel_rfl)) (dg_name (i := 2) (fun _ => sc_ends_of.nd)) dts_nil (de_op ok_add (de_var 2) de_int) (fun _ => sw_true rfl rfl rfl (by decide +kernel)))
    (dss_cons (ds_for (di_range3 A.n_range (da_cons (de_op ok_sub (de_callB ok_len A.n_len FP.boot_len (da_cons (de_var 0) da_nil)) de_int) (da_cons (de_neg de_int) (da_cons (de_neg de_int) da_nil)))) (dg_name (i := 2) (fun _ => sc_ends_of.nd))
    (dss_one (ds_if (dt_cmp (ok_neT0 (fun _ => hr.r.units)) (de_ix (de_var 0) (de_var 2)) (de_tup da_nil))
    (dss_one (ds_ownSet 1 (de_var 2) (de_ownIx 1 (de_ix (de_ix (de_var 0) (de_var 2)) (de_neg de_int))) (fun _ _ _ h h2 => ps_asg h2 (pg_sub (pv 1) h set_list))))
    dss_nil)) (fun _ => passes_of rfl))
    (dss_one (ds_frz 1 (ds_ret (de_var 1)))))),  fun ds Q Ex hl hf => ?_⟩
  match ds, hl, hf with
  | [.tup _], _, ⟨K, rfl, hn, hin, hq⟩ =>
    have e0 : startD 3 [.tup (K.map kidD)] = [Sl.d (.tup (K.map kidD)), Sl.no, Sl.no] := rfl
    have hnN : (["kids", "found", "at"] : List Str).length = 3 := rfl
    rw [hnN, e0]
    clear e0 hnN
    have hkl : (K.map kidD).length = K.length := List.length_map _
    refine seq_oC (xs := natsD ((List.range K.length).map (· + 1))) (fun Q E q => ⟨by omega, by omega, ?_⟩) ?_
    · have el : ((K.map kidD).length : Int).toNat = K.length := by rw [hkl]; omega
      rw [show (rangeD 0 ((K.map kidD).length : Int).toNat) = (List.range K.length).map (fun i : Nat => D.int ((0 : Int) + i)) by rw [el]; rfl]
      refine ⟨by rw [List.length_map, List.length_range]; exact size_small (by omega), lc_of (fun i : Nat => D.int ((0 : Int) + i)) (fun i => .int ((i + 1 : Nat) : Int)) (List.range K.length) _ (fun i _ k hk => ⟨_, rfl, ?_⟩) ?_⟩
      · show k (some (.int ((0 : Int) + (i : Nat) + 1)))
        rw [show (0 : Int) + (i : Nat) + 1 = ((i + 1 : Nat) : Int) by omega]
        exact hk
      · show Q ((List.range K.length).map fun i => D.int ((i + 1 : Nat) : Int))
        rw [show ((List.range K.length).map fun i => D.int ((i + 1 : Nat) : Int)) = natsD ((List.range K.length).map (· + 1)) by unfold natsD; rw [List.map_map]; rfl]
        exact q
    refine seq_for (rangeC (((K.map kidD).length : Int) - 1) (-1) ((((K.map kidD).length : Int) - 1) - (-1)).toNat) (fun Q E q => ⟨rfl, ⟨by omega, by omega, by decide, by decide⟩, q⟩) ?_
    rw [hkl, show (((K.length : Int) - 1) - (-1)).toNat = K.length by omega, range_down]
    refine for_st (fun r ρ => ∃ (k : Nat) (b : Sl), r = downD k ∧ k ≤ K.length ∧ ρ = [Sl.d (.tup (K.map kidD)), Sl.own (natsD ((List.range k).map (· + 1) ++ endsP k (K.drop k))), b]) ?_ ?_ _ _ ⟨K.length, _, rfl, Nat.le_refl _, by rw [List.drop_length, endsP, List.append_nil]; rfl⟩
    · rintro ρ ⟨k, b, hk, _, rfl⟩
      cases k with
      | succ k => cases hk
      | zero =>
      rw [List.drop_zero, List.range_zero, List.map_nil, List.nil_append]
      dsimp only
      exact frz_ret rfl (ret_v (.lst (natsD (endsP 0 K))) (fun Q E q => q) hq)
    · rintro d r ρ ⟨k, b, hk, hkn, rfl⟩
      cases k with
      | zero => cases hk
      | succ k =>
      rw [downD] at hk
      cases hk
      have hlt : k < K.length := by omega
      have hget : (K.map kidD)[k]? = some (kidD K[k]) := by rw [List.getElem?_map, List.getElem?_eq_getElem hlt]; rfl
      have hdrop : K.drop k = K[k] :: K.drop (k + 1) := List.drop_eq_getElem_cons hlt
      have hkk : ∀ x ∈ K[k], k < x ∧ x < K.length := hin k K[k] (List.getElem?_eq_getElem hlt)
      have hol : ((List.range (k + 1)).map (· + 1) ++ endsP (k + 1) (K.drop (k + 1))).length = K.length := by
        rw [List.length_append, List.length_map, List.length_range, ends_len, List.length_drop]
        omega
      have evK : ∀ (o b : Sl), Ev (dOp rdIx (dVar 0) (dVar 2)) [Sl.d (.tup (K.map kidD)), o, Sl.d (.int k)] (kidD K[k]) := fun o b => ev_op (x := .tup (K.map kidD)) (y := .int k) (fun Q E q => q) (fun Q E q => q) fun Q q => ⟨_, at_of rfl hget, q⟩
      refine ⟨_, rfl, fun K' hK' => ?_⟩
      have et : EvT (dB (dOp (rdT0 true) (dOp rdIx (dVar 0) (dVar 2)) (dTup dNil))) [Sl.d (.tup (K.map kidD)), Sl.own (natsD ((List.range (k + 1)).map (· + 1) ++ endsP (k + 1) (K.drop (k + 1)))), Sl.d (.int k)] (!K[k].isEmpty) := b_v (ev_op (x := kidD K[k]) (y := .tup []) (evK _ b) (ev_tup a0 (line rfl)) fun Q q => by
        have e : (natsD K[k]).isEmpty = K[k].isEmpty := by cases K[k] <;> rfl
        show Q (.bl (!(natsD K[k]).isEmpty))
        rw [e]
        exact q)
      cases hK0 : K[k] with
      | nil =>
        rw [hK0] at et
        refine end_ifF et (hK' _ ⟨k, .d (.int k), rfl, by omega, ?_⟩)
        rw [hdrop, endsP, hK0]
        show _ = [Sl.d (.tup (K.map kidD)), Sl.own (natsD ((List.range k).map (· + 1) ++ (k + 1) :: endsP (k + 1) (K.drop (k + 1)))), Sl.d (.int k)]
        rw [List.range_succ, List.map_append, List.append_assoc]
        rfl
      | cons x xs =>
        rw [hK0] at et
        obtain ⟨p, hp⟩ : ∃ p, (x :: xs).getLast? = some p := ⟨_, List.getLast?_eq_some_getLast (by simp)⟩
        have hpm : p ∈ K[k] := by rw [hK0]; exact List.mem_of_getLast? hp
        have hpb := hkk p hpm
        refine end_ifT et ?_
        have hval : ((List.range (k + 1)).map (· + 1) ++ endsP (k + 1) (K.drop (k + 1)))[p]? = some ((endsP (k + 1) (K.drop (k + 1))).getD (p - (k + 1)) 0) := by
          rw [List.getElem?_append_right (by rw [List.length_map, List.length_range]; omega), List.length_map, List.length_range, List.getD_eq_getElem?_getD]
          have hb : p - (k + 1) < (endsP (k + 1) (K.drop (k + 1))).length := by
            rw [ends_len, List.length_drop]
            omega
          rw [List.getElem?_eq_getElem hb]
          rfl
        refine ownSet (m := k) (n := k) (d := .int (((endsP (k + 1) (K.drop (k + 1))).getD (p - (k + 1)) 0 : Nat) : Int)) rfl (ev_ownIx (m := p) rfl (ev_op (x := kidD K[k]) (y := .int (-1)) (evK _ b) (fun Q E q => q) fun Q q => ?_) ?_) (fun Q E q => q) ?_ ?_
        rotate_right
        · refine hK' _ ⟨k, .d (.int k), rfl, by omega, ?_⟩
          rw [hdrop, endsP, hK0, hp]
          show [Sl.d (.tup (K.map kidD)), Sl.own _, Sl.d (.int k)] = _
          congr 2
          congr 1
          rw [show D.int (((endsP (k + 1) (K.drop (k + 1))).getD (p - (k + 1)) 0 : Nat) : Int) = (fun j : Nat => D.int (j : Nat)) ((endsP (k + 1) (K.drop (k + 1))).getD (p - (k + 1)) 0) from rfl]
          unfold natsD
          rw [← List.map_set, List.range_succ, List.map_append, List.append_assoc]
          rw [List.set_append_right _ _ (by rw [List.length_map, List.length_range]; exact Nat.le_refl k), List.length_map, List.length_range, Nat.sub_self]
          rfl
        · refine ⟨.int p, ?_, q⟩
          rw [hK0]
          exact at_last (by unfold natsD; rw [List.getLast?_map, hp]; rfl)
        · refine at_of rfl ?_
          unfold natsD
          rw [List.getElem?_map, hval]
          rfl
        · rw [intsD_len, hol]
          exact ixN_nat hlt
theorem ok_bound_of {P : Program} {w : World} {mg : Gm} {base : Heap} {Z : Ads} (A : All mg Z) : DefOk P w mg base 1 "bound_of" 2 f_bound := by
  refine mkDef (N := ["nodes", "kids", "found", "at", "places", "place", "node"]) (ps := ["nodes", "kids"]) A.d_bound_of sc_bound_of (fun _ _ _ _ _ _ us hl => match us, hl with | [_, _], _ => rfl) fun fa cdv Ar outer s H E hr => ⟨_,
    (dss_cons (ds_setLcN (i := 2) (own := [("node", 6)]) (fun _ => sc_bound_of.nd) (di_tup (de_var 0)) (fun _ => blkOk_by (by kernel_rfl)) (dg_name (i := 6) (fun _ => sc_bound_of.nd)) dts_nil de_int (fun _ => sw_true rfl rfl rfl (by decide +kernel)))
    (dss_cons (ds_for (di_enum A.n_enumerate (da_cons (de_var 1) da_nil)) (dg_tup (dgs_cons (dg_name (i := 3) (fun _ => sc_bound_of.nd)) (dgs_cons (dg_name (i := 4) (fun _ => sc_bound_of.nd)) dgs_nil)))
    (dss_one (ds_for (di_tup (de_var 4)) (dg_name (i := 5) (fun _ => sc_bound_of.nd))
    (dss_one (ds_ownSet 2 (de_var 5) (de_op ok_add (de_ownIx 2 (de_var 3)) (de_ix (de_ix (de_var 0) (de_var 3)) de_int)) (fun _ _ _ h h2 => ps_asg h2 (pg_sub (pv 2) h set_list)))) (fun _ => passes_of rfl))) (fun _ => passes_of rfl))
    (dss_one (ds_frz 2 (ds_ret (de_var 2)))))),  fun ds Q Ex hl hf => ?_⟩
  match ds, hl, hf with
  | [.tup _, y], _, ⟨ns, K, rfl, hy, hk, hn, hq⟩ =>
    have e0 : startD 7 [.tup (ns.map nodD), y] = [Sl.d (.tup (ns.map nodD)), Sl.d (y), Sl.no, Sl.no, Sl.no, Sl.no, Sl.no] := rfl
    have hnN : (["nodes", "kids", "found", "at", "places", "place", "node"] : List Str).length = 7 := rfl
    rw [hnN, e0]
    clear e0 hnN
    have hnl : (ns.map nodD).length = ns.length := List.length_map _
    refine seq_oC (xs := natsD (List.replicate ns.length 0)) (fun Q E q => ?_) ?_
    · refine ⟨size_small (by omega), ?_⟩
      refine lcD_map (fun _ => .int 0) _ _ (fun d hd k hk => ⟨_, rfl, hk⟩) ?_
      rw [List.map_const', hnl]
      unfold natsD at q
      rw [List.map_replicate] at q
      exact q
    refine seq_for (enumD 0 (K.map kidD)) (fun Q E q => ⟨K.map kidD, by rcases hy with rfl | rfl <;> rfl, q⟩) ?_
    have hst := kids_st hk
    refine for_st (fun r ρ => ∃ (i : Nat) (w e v : List Nat) (K' : List (List Nat)) (a b c : Sl), r = enumD i (K'.map kidD) ∧ i ≤ ns.length ∧ stP i (ns.drop i) = some (w, K') ∧ e.length = w.length ∧ v.length = ns.length ∧ (∀ t, t < w.length → v[w.getD t 0]? = e[t]?) ∧ v.take i ++ bndsP e (ns.drop i) = bndsP [0] ns ∧ ρ = [Sl.d (.tup (ns.map nodD)), Sl.d y, Sl.own (natsD v), a, b, c, Sl.no]) ?_ ?_ _ _ ⟨0, [0], [0], List.replicate ns.length 0, K, _, _, _, rfl, Nat.zero_le _, by rw [List.drop_zero]; exact hst, rfl, List.length_replicate, fun t ht => ?_, by rw [List.take_zero, List.drop_zero]; rfl, rfl⟩
    rotate_left
    rotate_left
    · have h1 := (stP_inc hst).2.1 0 List.mem_cons_self
      have ht0 : t = 0 := by
        have : t < 1 := ht
        omega
      subst ht0
      show (List.replicate ns.length 0)[0]? = some 0
      rw [List.getElem?_replicate, if_pos (by omega)]
    · rintro ρ ⟨i, w, e, v, K', a, b, c, hr, hi, hs, hel, hvl, hv, hb, rfl⟩
      have hK0 : K' = [] := by
        cases K' with
        | nil => rfl
        | cons x r => cases hr
      have hil : i = ns.length := by
        have := stP_len hs
        rw [hK0, List.length_drop] at this
        have h2 : ([] : List (List Nat)).length = 0 := rfl
        omega
      subst hil
      rw [List.drop_length, bndsP, List.append_nil, List.take_of_length_le (by omega)] at hb
      dsimp only
      rw [hb]
      exact frz_ret rfl (ret_v (.lst (natsD (bndsP [0] ns))) (fun Q E q => q) hq)
    · rintro d r ρ ⟨i, w, e, v, K', a, b, c, hr, hi, hs, hel, hvl, hv, hb, rfl⟩
      cases K' with
      | nil => cases hr
      | cons ks K2 =>
      rw [List.map_cons, enumD] at hr
      cases hr
      have hlt : i < ns.length := by
        have := stP_len hs
        rw [List.length_cons, List.length_drop] at this
        omega
      have hdrop : ns.drop i = ns[i] :: ns.drop (i + 1) := List.drop_eq_getElem_cons hlt
      have hget : (ns.map nodD)[i]? = some (nodD ns[i]) := by rw [List.getElem?_map, List.getElem?_eq_getElem hlt]; rfl
      have hs2 := hs
      rw [hdrop] at hs2
      obtain ⟨w', K3, h1, h2, h3, h4⟩ := stP_cons hs2
      obtain ⟨h4a, rfl⟩ := List.cons.inj h4
      subst h3
      obtain ⟨inc1, inc2, _⟩ := stP_inc h1
      cases e with
      | nil => rw [List.length_cons] at hel; cases hel
      | cons h t =>
      have hvi : v[i]? = some h := by
        have := hv 0 (by simp)
        simpa using this
      have hel2 : t.length = w'.length - ns[i].2.2 := by
        rw [List.length_cons, List.length_cons, List.length_drop] at hel
        omega
      refine ⟨_, rfl, fun K'' hK'' => ?_⟩
      rw [h4a]
      show forD (.one 5) _ _ (natsD (w'.take ns[i].2.2)) _
      refine for_st (fun r ρ => ∃ (m : Nat) (v2 : List Nat) (c : Sl), r = natsD ((w'.take ns[i].2.2).drop m) ∧ m ≤ ns[i].2.2 ∧ v2.length = ns.length ∧ v2.take (i + 1) = v.take (i + 1) ∧ (∀ t', t' < m → v2[w'.getD t' 0]? = some (h + ns[i].1)) ∧ (∀ t', m ≤ t' → t' < w'.length → v2[w'.getD t' 0]? = v[w'.getD t' 0]?) ∧ ρ = [Sl.d (.tup (ns.map nodD)), Sl.d y, Sl.own (natsD v2), Sl.d (.int i), Sl.d (kidD (w'.take ns[i].2.2)), c, Sl.no]) ?_ ?_ _ _ ⟨0, v, c, by rw [List.drop_zero], Nat.zero_le _, hvl, rfl, fun t' h => absurd h (Nat.not_lt_zero _), fun _ _ _ => rfl, rfl⟩
      · rintro ρ ⟨m, v2, c, hr, hm, hvl2, htk, hv2, hv3, rfl⟩
        have hm2 : m = ns[i].2.2 := by
          have e : ((w'.take ns[i].2.2).drop m).length = 0 := by
            have := congrArg List.length hr
            rw [intsD_len] at this
            exact this.symm
          rw [List.length_drop, List.length_take] at e
          omega
        subst hm2
        refine hK'' _ ⟨i + 1, w', List.replicate ns[i].2.2 (h + ns[i].1) ++ t, v2, K2, _, _, _, rfl, hlt, h1, ?_, hvl2, fun t' ht' => ?_, ?_, rfl⟩
        · rw [List.length_append, List.length_replicate]
          omega
        · by_cases q : t' < ns[i].2.2
          · rw [hv2 t' q, List.getElem?_append_left (by rw [List.length_replicate]; exact q), List.getElem?_replicate, if_pos q]
          · rw [hv3 t' (by omega) ht', List.getElem?_append_right (by rw [List.length_replicate]; omega), List.length_replicate]
            have h5 := hv (t' - ns[i].2.2 + 1) (by rw [List.length_cons, List.length_drop]; omega)
            rw [List.getElem?_cons_succ] at h5
            rw [← h5]
            congr 1
            rw [List.getD_eq_getElem?_getD, List.getD_eq_getElem?_getD, List.getElem?_cons_succ, List.getElem?_drop]
            congr 2
            omega
        · rw [htk, ← hb, hdrop, bndsP]
          show v.take (i + 1) ++ _ = v.take i ++ h :: _
          rw [take_one hvi, List.append_assoc]
          rfl
      · rintro d r ρ ⟨m, v2, c, hr, hm, hvl2, htk, hv2, hv3, rfl⟩
        have hmlt : m < (w'.take ns[i].2.2).length := by
          have := congrArg List.length hr
          rw [List.length_cons, intsD_len, List.length_drop] at this
          omega
        have hml2 := hmlt
        rw [List.length_take] at hml2
        rw [List.drop_eq_getElem_cons hmlt] at hr
        obtain ⟨rfl, hr2⟩ := List.cons.inj hr
        have hp : (w'.take ns[i].2.2)[m] = w'.getD m 0 := by
          rw [List.getElem_take, List.getD_eq_getElem?_getD, List.getElem?_eq_getElem (by omega)]
          rfl
        have hpm : w'.getD m 0 ∈ w' := by
          rw [List.getD_eq_getElem?_getD, List.getElem?_eq_getElem (show m < w'.length by omega)]
          exact List.getElem_mem _
        have hpb := inc2 _ hpm
        rw [List.length_drop] at hpb
        refine ⟨_, rfl, fun K3 hK3 => ?_⟩
        rw [hp]
        have hvi2 : v2[i]? = some h := by
          have e1 : (v2.take (i + 1))[i]? = v2[i]? := List.getElem?_take_of_lt (by omega)
          have e2 : (v.take (i + 1))[i]? = v[i]? := List.getElem?_take_of_lt (by omega)
          rw [← e1, htk, e2, hvi]
        refine ownSet (m := (w'.getD m 0 : Nat)) (n := w'.getD m 0) (d := .int ((h + ns[i].1 : Nat) : Int)) rfl (ev_op (x := .int h) (y := .int (ns[i].1 : Nat)) (ev_ownIx (m := i) rfl (fun Q E q => q) (at_of rfl ?_)) (ev_op (x := nodD ns[i]) (y := .int 0) (ev_op (x := .tup (ns.map nodD)) (y := .int i) (fun Q E q => q) (fun Q E q => q) fun Q q => ⟨_, at_of rfl hget, q⟩) (fun Q E q => q) fun Q q => ⟨_, rfl, q⟩) fun Q q => q) (fun Q E q => q) ?_ ?_
        rotate_right
        · refine hK3 _ ⟨m + 1, v2.set (w'.getD m 0) (h + ns[i].1), .d (.int (w'.getD m 0 : Nat)), ?_, by omega, by rw [List.length_set]; exact hvl2, ?_, fun t' ht' => ?_, fun t' ht' hl' => ?_, ?_⟩
          · exact hr2
          · rw [List.take_set_of_le (by omega)]
            exact htk
          · by_cases q : t' = m
            · subst q
              rw [List.getElem?_set_self (by rw [hvl2]; omega)]
            · have hne := inc_ne inc1 (show t' < w'.length by omega) (show m < w'.length by omega) q
              rw [List.getElem?_set_ne (Ne.symm hne)]
              exact hv2 t' (by omega)
          · have hne := inc_ne inc1 hl' (show m < w'.length by omega) (by omega)
            rw [List.getElem?_set_ne (Ne.symm hne)]
            exact hv3 t' (by omega) hl'
          · unfold natsD
            rw [List.map_set]
            rfl
        · unfold natsD
          rw [List.getElem?_map, hvi2]
          rfl
        · rw [intsD_len, hvl2]
          exact ixN_nat (by omega)
end K15
namespace K15
open PySem L2 FP
variable [FP.Tabl]
open KP
theorem ok_are_nodes {P : Program} {w : World} {mg : Gm} {base : Heap} {Z : Ads} (A : All mg Z) (G_bound_of : DefOk P w mg base 1 "bound_of" 2 f_bound) (G_is_node : DefOk P w mg base 3 "is_node" 2 f_isnode) (G_kids_of : DefOk P w mg base 1 "kids_of" 1 f_kids) (G_level_of : DefOk P w mg base 1 "level_of" 1 f_level) : DefOk P w mg base 4 "are_nodes" 2 f_arenodes := by
  refine mkDef (N := ["value", "has_gaps", "kids", "levels", "rows", "node", "bound", "row", "level"]) (ps := ["value", "has_gaps"]) A.d_are_nodes sc_are_nodes (fun _ _ _ _ _ _ us hl => match us, hl with | [_, _], _ => rfl) fun fa cdv Ar outer s H E hr => ⟨_,
    (dss_cons (ds_if (dt_w (dw_or (dt_not (dt_val (de_isi (de_var 0) A.n_isinstance A.n_tuple FP.boot_tuple FP.boot_isinstance))) (dw_or1 (dt_not (dt_chain ok_le ok_le de_int (de_callB ok_len A.n_len FP.boot_len (da_cons (de_var 0) da_nil)) (de_gint A.c_MAX_NODES))))))
    (dss_one (ds_ret de_bl))
    dss_nil)
    (dss_cons (ds_if (dt_not (dt_val (de_callB ok_all A.n_all FP.boot_all (da_cons (de_lc (own := [("node", 5)]) (fun _ => sc_are_nodes.nd) (di_tup (de_var 0)) (fun _ => blkOk_by (by kernel_rfl)) (dg_name (i := 5) (fun _ => sc_are_nodes.nd)) dts_nil (de_call G_is_node (fun _ => hr.mono (by omega)) (fun _ => pas takes0) (da_cons (de_var 5) (da_cons (de_var 1) da_nil)))) da_nil))))
    (dss_one (ds_ret de_bl))
    dss_nil)
    (dss_cons (ds_set (i := 2) (de_call G_kids_of (fun _ => hr.mono (by omega)) (fun _ => pas (takes_of rfl rfl rfl rfl)) (da_cons (de_var 0) da_nil)) (fun _ => sc_are_nodes.nd))
    (dss_cons (ds_if (dt_cmp ok_is (de_var 2) de_non)
    (dss_one (ds_ret de_bl))
    dss_nil)
    (dss_cons (ds_setLc (i := 3) (own := [("node", 5)]) (fun _ => sc_are_nodes.nd) (di_tup (de_var 0)) (fun _ => blkOk_by (by kernel_rfl)) (dg_name (i := 5) (fun _ => sc_are_nodes.nd)) dts_nil (de_call G_level_of (fun _ => hr.mono (by omega)) (fun _ => pas takes0) (da_cons (de_ix (de_var 5) de_int) da_nil)) (fun _ => sw_true rfl rfl rfl (by decide +kernel)))
    (dss_cons (ds_setLc (i := 4) (own := [("bound", 6), ("node", 5)]) (fun _ => sc_are_nodes.nd) (di_zip A.n_zip (da_cons (de_call G_bound_of (fun _ => hr.mono (by omega)) (fun _ => pas (takes_of rfl rfl rfl rfl)) (da_cons (de_var 0) (da_cons (de_var 2) da_nil))) (da_cons (de_var 0) da_nil))) (fun _ => blkOk_by (by kernel_rfl)) (dg_tup (dgs_cons (dg_name (i := 6) (fun _ => sc_are_nodes.nd)) (dgs_cons (dg_name (i := 5) (fun _ => sc_are_nodes.nd)) dgs_nil))) dts_nil (de_op ok_add (de_var 6) (de_ix (de_var 5) de_int)) (fun _ => sw_true rfl rfl rfl (by decide +kernel)))
    (dss_one (ds_ret (de_callB ok_all A.n_all FP.boot_all (da_cons (de_lc (own := [("row", 7), ("level", 8)]) (fun _ => sc_are_nodes.nd) (di_zip A.n_zip (da_cons (de_var 4) (da_cons (de_var 3) da_nil))) (fun _ => blkOk_by (by kernel_rfl)) (dg_tup (dgs_cons (dg_name (i := 7) (fun _ => sc_are_nodes.nd)) (dgs_cons (dg_name (i := 8) (fun _ => sc_are_nodes.nd)) dgs_nil))) dts_nil (de_and (de_cmp ok_le (de_var 7) (de_op ok_add (de_gint A.c_MAX_LEVEL) de_int)) (de_one (de_or (de_cmp ok_is (de_var 8) de_non) (de_one (de_cmp ok_lt (de_var 8) (de_var 7))))))) da_nil)))))))))),  fun ds Q Ex hl hf => ?_⟩
  match ds, hl, hf with
  | [d, .bl false], _, ⟨ho, hq⟩ =>
    have e0 : startD 9 [d, .bl false] = [Sl.d (d), Sl.d (.bl false), Sl.no, Sl.no, Sl.no, Sl.no, Sl.no, Sl.no, Sl.no] := rfl
    have hnN : (["value", "has_gaps", "kids", "levels", "rows", "node", "bound", "row", "level"] : List Str).length = 9 := rfl
    rw [hnN, e0]
    clear e0 hnN
    have evT := ev_tup_isi (ρ := [Sl.d d, Sl.d (.bl false), Sl.no, Sl.no, Sl.no, Sl.no, Sl.no, Sl.no, Sl.no]) (i := 0) ho.v rfl
    cases ht : isTupD d with
    | false =>
      have e : areP d = false := by
        cases d with
        | tup xs => cases ht
        | _ => rfl
      rw [e] at hq
      exact seq_ifT (or_t (not_v (b := false) (b_v (evT.eq (by rw [ht]))))) (ret_v _ (fun Q E q => q) hq)
    | true =>
    obtain ⟨xs, rfl⟩ : ∃ xs, d = .tup xs := by
      cases d with
      | tup xs => exact ⟨xs, rfl⟩
      | _ => cases ht
    have f1 : EvT (dNot (dB (dIsi "tuple" (dVar 0)))) [Sl.d (.tup xs), Sl.d (.bl false), Sl.no, Sl.no, Sl.no, Sl.no, Sl.no, Sl.no, Sl.no] false := not_v (b := true) (b_v (evT.eq (by rw [ht])))
    have ec : EvT (dB (dChain rdLe rdLe (dC (.int 1)) (dCB rdLen (dCons (dVar 0) dNil)) (dC (.int 40)))) [Sl.d (.tup xs), Sl.d (.bl false), Sl.no, Sl.no, Sl.no, Sl.no, Sl.no, Sl.no, Sl.no] (decide (1 ≤ xs.length) && decide (xs.length ≤ 40)) := fun Q E q => by
      have e1 : decide ((1 : Int) ≤ (xs.length : Int)) = decide (1 ≤ xs.length) := decide_eq_decide.mpr ⟨fun h => by omega, fun h => by omega⟩
      have e2 : decide ((xs.length : Int) ≤ 40) = decide (xs.length ≤ 40) := decide_eq_decide.mpr ⟨fun h => by omega, fun h => by omega⟩
      show bit (decide ((1 : Int) ≤ (xs.length : Int))) (Q (decide ((xs.length : Int) ≤ 40))) (Q false)
      rw [e1, e2]
      cases h : decide (1 ≤ xs.length) with
      | true =>
        rw [h] at q
        exact q
      | false =>
        rw [h] at q
        exact q
    have eA : areP (.tup xs) = ((decide (1 ≤ xs.length) && decide (xs.length ≤ 40)) && (xs.all isNodeD && areN (xs.map toNod))) := by
      rw [Bool.and_assoc]
      rfl
    rw [eA] at hq
    cases hc : (decide (1 ≤ xs.length) && decide (xs.length ≤ 40)) with
    | false =>
      rw [hc] at ec hq
      exact seq_ifT (or_f f1 (not_v (b := false) ec)) (ret_v _ (fun Q E q => q) hq)
    | true =>
    rw [hc] at ec hq
    rw [Bool.and_eq_true, decide_eq_true_eq, decide_eq_true_eq] at hc
    obtain ⟨h1, h40⟩ := hc
    refine seq_ifF (or_f f1 (not_v (b := true) ec)) ?_
    have eall : Ev (dCB rdAll (dCons (dLc (dITup (dVar 0)) (.one 5) dYes (dCall f_isnode 2 (dCons (dVar 5) (dCons (dVar 1) dNil))) [5]) dNil)) [Sl.d (.tup xs), Sl.d (.bl false), Sl.no, Sl.no, Sl.no, Sl.no, Sl.no, Sl.no, Sl.no] (.bl (xs.all isNodeD)) := ev_cb (a1 (d := .lst (xs.map fun x => .bl (isNodeD x))) (ev_lc (fun x : D => x) (fun x => .bl (isNodeD x)) (xs := xs) (fun Q E q => by
      rw [List.map_id'] at q
      exact q) (size_small (by omega)) fun x hx => ⟨_, rfl, ev_call (a1 (fun Q E q => q) (a1 (fun Q E q => q) a0)) rfl fun Q E q => ⟨ho x hx, q⟩⟩) a0) fun Q q => ⟨xs.map isNodeD, blsD_fn isNodeD xs, by
      rw [List.all_map]
      exact q⟩
    cases hall : xs.all isNodeD with
    | false =>
      rw [hall] at eall hq
      exact seq_ifT (not_v (b := false) (b_v eall)) (ret_v _ (fun Q E q => q) hq)
    | true =>
    rw [hall] at eall hq
    obtain ⟨ns, rfl, hg, hns⟩ := nods_of hall
    rw [← hns] at hq
    rw [List.length_map] at h1 h40
    refine seq_ifF (not_v (b := true) (b_v eall)) ?_
    refine seq_v (match kidsP ns with | none => .non | some K => .lst (K.map kidD)) (ev_call (a1 (fun Q E q => q) a0) rfl fun Q E q => ⟨ns, rfl, by omega, q⟩) ?_
    unfold areN at hq
    cases hk : kidsP ns with
    | none =>
      rw [hk] at hq
      exact seq_ifT (b_v (ev_op (x := .non) (y := .non) (fun Q E q => q) (fun Q E q => q) fun Q q => q)) (ret_v (.bl false) (fun Q E q => q) hq)
    | some K =>
    rw [hk] at hq
    replace hq : Q (.bl (rowsOk (bndsP [0] ns) ns)) := hq
    refine seq_ifF (b_v (ev_op (x := .lst (K.map kidD)) (y := .non) (fun Q E q => q) (fun Q E q => q) fun Q q => q)) ?_
    refine seq_v (.lst (ns.map fun n => ofO (levelS n.2.1))) (ev_lc nodD (fun n => ofO (levelS n.2.1)) (xs := ns) (fun Q E q => q) (size_small (by omega)) fun n hn => ⟨_, rfl, ev_call (a1 (d := .str n.2.1) (ev_op (x := nodD n) (y := .int 1) (fun Q E q => q) (fun Q E q => q) fun Q q => ⟨_, rfl, q⟩) a0) rfl fun Q E q => ⟨(ho (nodD n) (List.mem_map.mpr ⟨n, hn, rfl⟩)).2.1, q⟩⟩) ?_
    have hbl : (bndsP [0] ns).length = ns.length := bnds_len _ _
    refine seq_v (.lst (natsD (rowsP (bndsP [0] ns) ns))) (Ev.eq (ev_lc (fun p : Nat × Nod => D.tup [.int (p.1 : Nat), nodD p.2]) (fun p => D.int ((p.1 + p.2.1 : Nat) : Int)) (xs := List.zip (bndsP [0] ns) ns) (fun Q E q => (a1 (d := .lst (natsD (bndsP [0] ns))) (ev_call (ds := [.tup (ns.map nodD), .lst (K.map kidD)]) (a1 (fun Q E q => q) (a1 (fun Q E q => q) a0)) rfl fun Q E q => ⟨ns, K, rfl, .inl rfl, hk, by omega, q⟩) (a1 (d := .tup (ns.map nodD)) (fun Q E q => q) a0)) _ _ ⟨_, _, rfl, rfl, by rw [zip_bn]; exact q⟩) (size_small (by rw [List.length_zip, hbl]; omega)) fun p hp => ⟨_, rfl, ev_op (x := .int (p.1 : Nat)) (y := .int (p.2.1 : Nat)) (fun Q E q => q) (ev_op (x := nodD p.2) (y := .int 0) (fun Q E q => q) (fun Q E q => q) fun Q q => ⟨_, rfl, q⟩) fun Q q => q⟩) (by rw [zip_rows])) ?_
    have hrl : (rowsP (bndsP [0] ns) ns).length = ns.length := rowsP_len hbl
    refine ret_v (.bl (rowsOk (bndsP [0] ns) ns)) (ev_cb (a1 (d := .lst ((List.zip (rowsP (bndsP [0] ns) ns) ns).map fun p => .bl (rowB p.1 p.2))) (ev_lc (fun p : Nat × Nod => D.tup [.int (p.1 : Nat), ofO (levelS p.2.2.1)]) (fun p => .bl (rowB p.1 p.2)) (xs := List.zip (rowsP (bndsP [0] ns) ns) ns) (fun Q E q => ev_zip (x := .lst (natsD (rowsP (bndsP [0] ns) ns))) (y := .lst (ns.map fun n : Nod => ofO (levelS n.2.1))) (a1 (fun Q E q => q) (a1 (fun Q E q => q) a0)) rfl rfl _ _ (by rw [zip_rl]; exact q)) (size_small (by rw [List.length_zip, hrl]; omega)) fun p hp => ⟨_, rfl, ?_⟩) a0) fun Q q => ⟨(List.zip (rowsP (bndsP [0] ns) ns) ns).map fun p => rowB p.1 p.2, blsD_fn (fun p : Nat × Nod => rowB p.1 p.2) _, ?_⟩) hq
    · have e100 : decide ((p.1 : Int) ≤ 99 + 1) = decide (p.1 ≤ 100) := decide_eq_decide.mpr ⟨fun h => by omega, fun h => by omega⟩
      refine ev_andV (b1 := decide (p.1 ≤ 100)) (ev_op (x := .int (p.1 : Nat)) (y := .int (99 + 1)) (fun Q E q => q) (ev_op (x := .int 99) (y := .int 1) (fun Q E q => q) (fun Q E q => q) fun Q q => q) fun Q q => by
        show Q (.bl (decide ((p.1 : Int) ≤ 99 + 1)))
        rw [e100]
        exact q) fun _ => ?_
      cases hl2 : levelS p.2.2.1 with
      | none => exact ev_orV (b1 := true) (b2 := true) (ev_op (x := .non) (y := .non) (fun Q E q => q) (fun Q E q => q) fun Q q => q) fun h => by cases h
      | some l => exact ev_orV (b1 := false) (ev_op (x := .int l) (y := .non) (fun Q E q => q) (fun Q E q => q) fun Q q => q) fun _ => ev_op (x := .int l) (y := .int (p.1 : Nat)) (fun Q E q => q) (fun Q E q => q) fun Q q => q
    · rw [List.all_map]
      show Q (.bl ((List.zip (rowsP (bndsP [0] ns) ns) ns).all fun p => rowB p.1 p.2))
      rw [rowsOk_all _ _ hbl]
      exact q
theorem ok_Nodes___init__ {P : Program} {w : World} {mg : Gm} {base : Heap} {Z : Ads} (A : All mg Z) : InitOk P w mg base 1 "Nodes" Z.a_Nodes 1 f_initN := by
  refine mkInit (N := ["self", "nodes"]) (ps := ["self", "nodes"]) A.kc_Nodes A.d_Nodes___init__ sc_Nodes___init__ rfl (fun _ _ _ _ _ _ us hl => match us, hl with | [_, _], _ => rfl) fun fa cdv Ar outer s H E hr => ⟨_,
    (dss_one (ds_setF 0 A.kc_Nodes A.na_Nodes_told_nodes (de_var 1))),  fun x ds Q Ex hl hf => ?_⟩
  match ds, hl, hf with
  | [d], _, hq =>
    have e0 : startD (2 - 1) [d] = [Sl.d (d)] := rfl
    have hnN : (["self", "nodes"] : List Str).length = 2 := rfl
    rw [hnN, e0]
    clear e0 hnN
    exact end_setF rfl d (by decide) (fun Q E q => q) ⟨_, _, rfl, hq⟩
theorem ok_Program___init__ {P : Program} {w : World} {mg : Gm} {base : Heap} {Z : Ads} (A : All mg Z) (G_are_nodes : DefOk P w mg base 4 "are_nodes" 2 f_arenodes) (G_bound_of : DefOk P w mg base 1 "bound_of" 2 f_bound) (G_ends_of : DefOk P w mg base 1 "ends_of" 1 f_ends) (G_kids_of : DefOk P w mg base 1 "kids_of" 1 f_kids) : InitOk P w mg base 5 "Program" Z.a_Program 1 f_initPN := by
  refine mkInit (N := ["self", "nodes"]) (ps := ["self", "nodes"]) A.kc_Program A.d_Program___init__ sc_Program___init__ rfl (fun _ _ _ _ _ _ us hl => match us, hl with | [_, _], _ => rfl) fun fa cdv Ar outer s H E hr => ⟨_,
    (dss_cons (ds_if (dt_val (de_isiO (de_var 1) A.n_isinstance A.kc_Nodes.nm A.isi_Nodes FP.boot_isinstance))
    (dss_one (ds_setF 0 A.kc_Program A.na_Program_own_nodes (de_fld A.kc_Nodes A.na_Nodes_told_nodes (de_var 1))))
    (dss_one (ds_if (dt_not (dt_val (de_call G_are_nodes (fun _ => hr.mono (by omega)) (fun _ => pas (takes_of rfl rfl rfl rfl)) (da_cons (de_var 1) (da_cons de_bl da_nil)))))
    (dss_one (ds_raise veB A.ex_InvalidProgram (fun _ => takes_of rfl rfl rfl rfl)))
    (dss_one (ds_setF 0 A.kc_Program A.na_Program_own_nodes (de_var 1))))))
    (dss_cons (ds_setF 0 A.kc_Program A.na_Program_own_kids (de_callTy ok_tuple A.n_tuple FP.boot_tuple (da_cons (de_call G_kids_of (fun _ => hr.mono (by omega)) (fun _ => pas (takes_of rfl rfl rfl rfl)) (da_cons (de_fldO 0 A.kc_Program A.na_Program_own_nodes) da_nil)) da_nil)))
    (dss_cons (ds_setF 0 A.kc_Program A.na_Program_own_ends (de_callTy ok_tuple A.n_tuple FP.boot_tuple (da_cons (de_call G_ends_of (fun _ => hr.mono (by omega)) (fun _ => pas (takes_of rfl rfl rfl rfl)) (da_cons (de_fldO 0 A.kc_Program A.na_Program_own_kids) da_nil)) da_nil)))
    (dss_one (ds_setF 0 A.kc_Program A.na_Program_own_bound (de_callTy ok_tuple A.n_tuple FP.boot_tuple (da_cons (de_call G_bound_of (fun _ => hr.mono (by omega)) (fun _ => pas (takes_of rfl rfl rfl rfl)) (da_cons (de_fldO 0 A.kc_Program A.na_Program_own_nodes) (da_cons (de_fldO 0 A.kc_Program A.na_Program_own_kids) da_nil))) da_nil))))))),  fun x ds Q Ex hl hf => ?_⟩
  match ds, hl, hf with
  | [d], _, .inl ⟨ho, hno, hok, hbad⟩ =>
    have e0 : startD (2 - 1) [d] = [Sl.d (d)] := rfl
    have hnN : (["self", "nodes"] : List Str).length = 2 := rfl
    rw [hnN, e0]
    clear e0 hnN
    refine seq_if false (b_v fun Q E q => ?_) (bitS (fun h => by cases h) fun _ => ?_)
    · show (match isiD ["Nodes"] (fun _ => true) d with | some b => Q (.bl b) | none => False)
      rw [hno]
      exact q
    have ec : Ev (dCall f_arenodes 2 (dCons (dVar 1) (dCons (dC (.bl false)) dNil))) [Sl.ob "Program" x [], Sl.d d] (.bl (areP d)) := ev_call (a1 (fun Q E q => q) (a1 (fun Q E q => q) a0)) rfl fun Q E q => ⟨ho, q⟩
    cases ha : areP d with
    | false =>
      rw [ha] at ec
      refine seq_if true (not_v (b := false) (b_v ec)) (bitS (fun _ => ?_) fun h => by cases h)
      exact hbad ha
    | true =>
    rw [ha] at ec
    refine seq_if false (not_v (b := true) (b_v ec)) (bitS (fun h => by cases h) fun _ => ?_)
    obtain ⟨ns, rfl, hg, h1, h40, har⟩ := areP_tup ha
    obtain ⟨K, hk⟩ := ar_kids har
    have hkl := kids_len hk
    have hq := hok _ rfl ha
    rw [progF_eq hk] at hq
    refine seq_setF rfl (.tup (ns.map nodD)) (by decide) (fun Q E q => q) ?_
    refine seq_setF rfl (.tup (K.map kidD)) (by show 1 < 1000; decide) (ev_cb (a1 (d := .lst (K.map kidD)) (ev_call (a1 (d := .tup (ns.map nodD)) (fun Q E q => ⟨rfl, _, rfl, q⟩) a0) rfl fun Q E q => ⟨ns, rfl, by omega, by rw [hk]; exact q⟩) a0) fun Q q => q) ?_
    refine seq_setF rfl (.tup (natsD (endsP 0 K))) (by show 2 < 1000; decide) (ev_cb (a1 (d := .lst (natsD (endsP 0 K))) (ev_call (a1 (d := .tup (K.map kidD)) (fun Q E q => ⟨rfl, _, rfl, q⟩) a0) rfl fun Q E q => ⟨K, rfl, by omega, kids_in hk, q⟩) a0) fun Q q => q) ?_
    refine end_setF rfl (.tup (natsD (bndsP [0] ns))) (by show 3 < 1000; decide) (ev_cb (a1 (d := .lst (natsD (bndsP [0] ns))) (ev_call (ds := [.tup (ns.map nodD), .tup (K.map kidD)]) (a1 (fun Q E q => ⟨rfl, _, rfl, q⟩) (a1 (fun Q E q => ⟨rfl, _, rfl, q⟩) a0)) rfl fun Q E q => ⟨ns, K, rfl, .inr rfl, hk, by omega, q⟩) a0) fun Q q => q) ⟨_, _, rfl, hq⟩
  | [_], _, .inr ⟨p, rfl, h900, hq⟩ =>
    have e0 : startD (2 - 1) [.ins "Nodes" [("told_nodes", .tup ((nodesT p).map nodD))]] = [Sl.d (.ins "Nodes" [("told_nodes", .tup ((nodesT p).map nodD))])] := rfl
    have hnN : (["self", "nodes"] : List Str).length = 2 := rfl
    rw [hnN, e0]
    clear e0 hnN
    rw [← progF_T] at hq
    have hk := kidsP_T p
    have h40 : (nodesT p).length ≤ 900 := by
      rw [nodes_len]
      exact h900
    generalize nodesT p = ns at hq hk h40
    generalize kidsT 0 p = K at hk
    have hkl := kids_len hk
    rw [progF_eq hk] at hq
    refine seq_if true (b_v fun Q E q => ?_) (bitS (fun _ => ?_) fun h => by cases h)
    · show (match isiD ["Nodes"] (fun _ => true) (.ins "Nodes" [("told_nodes", .tup (ns.map nodD))]) with | some b => Q (.bl b) | none => False)
      rw [isi_own]
      exact q
    refine seq_setF rfl (.tup (ns.map nodD)) (by decide) (ev_fld (fs := [("told_nodes", .tup (ns.map nodD))]) (fun Q E q => q) rfl) ?_
    refine seq_setF rfl (.tup (K.map kidD)) (by show 1 < 1000; decide) (ev_cb (a1 (d := .lst (K.map kidD)) (ev_call (a1 (d := .tup (ns.map nodD)) (fun Q E q => ⟨rfl, _, rfl, q⟩) a0) rfl fun Q E q => ⟨ns, rfl, by omega, by rw [hk]; exact q⟩) a0) fun Q q => q) ?_
    refine seq_setF rfl (.tup (natsD (endsP 0 K))) (by show 2 < 1000; decide) (ev_cb (a1 (d := .lst (natsD (endsP 0 K))) (ev_call (a1 (d := .tup (K.map kidD)) (fun Q E q => ⟨rfl, _, rfl, q⟩) a0) rfl fun Q E q => ⟨K, rfl, by omega, kids_in hk, q⟩) a0) fun Q q => q) ?_
    refine end_setF rfl (.tup (natsD (bndsP [0] ns))) (by show 3 < 1000; decide) (ev_cb (a1 (d := .lst (natsD (bndsP [0] ns))) (ev_call (ds := [.tup (ns.map nodD), .tup (K.map kidD)]) (a1 (fun Q E q => ⟨rfl, _, rfl, q⟩) (a1 (fun Q E q => ⟨rfl, _, rfl, q⟩) a0)) rfl fun Q E q => ⟨ns, K, rfl, .inr rfl, hk, by omega, q⟩) a0) fun Q q => q) ⟨_, _, rfl, hq⟩
end K15
namespace K15
open PySem L2 FP
variable [FP.Tabl]
open KP
theorem ok_variable_text {P : Program} {w : World} {mg : Gm} {base : Heap} {Z : Ads} (A : All mg Z) : DefOk P w mg base 1 "variable_text" 1 f_vartext := by
  refine mkDef (N := ["level"]) (ps := ["level"]) A.d_variable_text sc_variable_text (fun _ _ _ _ _ _ us hl => match us, hl with | [_], _ => rfl) fun fa cdv Ar outer s H E hr => ⟨_,
    (dss_one (ds_ret (de_op ok_add (de_gstr A.c_VARIABLE) (de_callTy ok_str A.n_str FP.boot_str (da_cons (de_var 0) da_nil))))),  fun ds Q Ex hl hf => ?_⟩
  match ds, hl, hf with
  | [.int _], _, ⟨k, rfl, hk, hq⟩ =>
    have e0 : startD 1 [.int k] = [Sl.d (.int k)] := rfl
    have hnN : (["level"] : List Str).length = 1 := rfl
    rw [hnN, e0]
    clear e0 hnN
    exact ret_v (.str (xS k)) (ev_xs hk (fun Q E q => q)) hq
theorem nv_node_text {P : Program} {w : World} {mg : Gm} {base : Heap} {Z : Ads} {k : Nat} (A : All mg Z) : DefOk P w mg base k "node_text" 4 (f_ntext 0) :=
  (DefOk.never (ps := ["nodes", "kids", "bound", "at"]) A.d_node_text (fun _ _ _ _ _ _ us hl => match us, hl with | [_, _, _, _], _ => rfl)).mono (Nat.le_refl _) (nope_ntext)
theorem ok_node_text {P : Program} {w : World} {mg : Gm} {base : Heap} {Z : Ads} {d : Nat} (A : All mg Z) (G_argument_text : DefOk P w mg base (2 * d + 3) "argument_text" 4 (f_atext d)) (G_variable_text : DefOk P w mg base 1 "variable_text" 1 f_vartext) : DefOk P w mg base (2 * d + 3 + 1) "node_text" 4 (f_ntext (d + 1)) := by
  refine mkDef (N := ["nodes", "kids", "bound", "at", "binders", "head", "count", "names", "words", "index", "kid"]) (ps := ["nodes", "kids", "bound", "at"]) A.d_node_text sc_node_text (fun _ _ _ _ _ _ us hl => match us, hl with | [_, _, _, _], _ => rfl) fun fa cdv Ar outer s H E hr => ⟨_,
    (dss_cons (ds_asg (de_ix (de_var 0) (de_var 3)) (dg_tup (dgs_cons (dg_name (i := 4) (fun _ => sc_node_text.nd)) (dgs_cons (dg_name (i := 5) (fun _ => sc_node_text.nd)) (dgs_cons (dg_name (i := 6) (fun _ => sc_node_text.nd)) dgs_nil)))))
    (dss_cons (ds_set (i := 7) (de_join de_str (de_lc (own := [("index", 9)]) (fun _ => sc_node_text.nd) (di_range1 A.n_range (da_cons (de_var 4) da_nil)) (fun _ => blkOk_by (by kernel_rfl)) (dg_name (i := 9) (fun _ => sc_node_text.nd)) dts_nil (de_call G_variable_text (fun _ => hr.mono (by omega)) (fun _ => pas takes0) (da_cons (de_op ok_add (de_ix (de_var 2) (de_var 3)) (de_var 9)) da_nil)))) (fun _ => sc_node_text.nd))
    (dss_cons (ds_set (i := 8) (de_lst (da_cons (de_var 5) (da_star (de_lc (own := [("kid", 10)]) (fun _ => sc_node_text.nd) (di_tup (de_ix (de_var 1) (de_var 3))) (fun _ => blkOk_by (by kernel_rfl)) (dg_name (i := 10) (fun _ => sc_node_text.nd)) dts_nil (de_call G_argument_text (fun _ => hr.mono (by omega)) (fun _ => pas takes0) (da_cons (de_var 0) (da_cons (de_var 1) (da_cons (de_var 2) (da_cons (de_var 10) da_nil)))))) da_nil))) (fun _ => sc_node_text.nd))
    (dss_one (ds_ret (de_op ok_add (de_if (dt_cmp ok_gt (de_var 4) de_int) (de_op ok_add (de_op ok_add (de_gstr A.c_LAMBDA) (de_var 7)) (de_gstr A.c_DOT)) de_str) (de_join de_str (de_var 8)))))))),  fun ds Q Ex hl hf => ?_⟩
  match ds, hl, hf with
  | [.tup _, .tup _, .tup _, .int _], _, ⟨ns, K, B, E, W, p, bd, i, hW, rfl, rfl, rfl, rfl, ha, hs, hd, h60, hq⟩ =>
    have e0 : startD 11 [.tup (ns.map nodD), .tup (K.map kidD), .tup (natsD B), .int i] = [Sl.d (.tup (ns.map nodD)), Sl.d (.tup (K.map kidD)), Sl.d (.tup (natsD B)), Sl.d (.int i), Sl.no, Sl.no, Sl.no, Sl.no, Sl.no, Sl.no, Sl.no] := rfl
    have hnN : (["nodes", "kids", "bound", "at", "binders", "head", "count", "names", "words", "index", "kid"] : List Str).length = 11 := rfl
    rw [hnN, e0]
    clear e0 hnN
    cases p with
    | mk b h as =>
    have hs2 := hs
    rw [scT] at hs2
    obtain ⟨hb, hal, hbb, hh, hsa⟩ := hs2
    have hsz := h60
    rw [sizeT] at hsz hd
    have hget : (ns.map nodD)[i]? = some (nodD (b, h, as.length)) := by rw [List.getElem?_map, ha.node]; rfl
    have hkg : (K.map kidD)[i]? = some (kidD (startsT (i + 1) as)) := by rw [List.getElem?_map, ha.kids]; rfl
    have hbg : (natsD B)[i]? = some (.int (bd : Nat)) := by unfold natsD; rw [List.getElem?_map, ha.bound]; rfl
    have hlen1 := args_len hW as (bd + b) hsa
    have hlh := scH.len hW hbb hh
    have hargs : (argsT (bd + b) as).length = as.length := by rw [argsT_map, List.length_map]
    refine seq_asg (ρ' := [Sl.d (.tup (ns.map nodD)), Sl.d (.tup (K.map kidD)), Sl.d (.tup (natsD B)), Sl.d (.int i), Sl.d (.int (b : Nat)), Sl.d (.str h), Sl.d (.int (as.length : Nat)), Sl.no, Sl.no, Sl.no, Sl.no]) (nodD (b, h, as.length)) (ev_op (x := .tup (ns.map nodD)) (y := .int i) (fun Q E q => q) (fun Q E q => q) fun Q q => ⟨_, at_of rfl hget, q⟩) rfl ?_
    refine seq_v (.str (Str.join " " (xsL bd b))) (ev_joinS (fun Q E q => q) (Ev.eq (ev_lc (fun k : Nat => D.int ((0 : Int) + k)) (fun k => .str (xS (bd + k))) (xs := List.range b) (fun Q E q => ⟨by omega, by omega, by rw [Int.toNat_natCast]; exact q⟩) (size_small (by rw [List.length_range]; omega)) fun k hk => ⟨_, rfl, ev_call (a1 (d := .int ((bd + k : Nat) : Int)) (ev_op (x := .int bd) (y := .int ((0 : Int) + k)) (ev_op (x := .tup (natsD B)) (y := .int i) (fun Q E q => q) (fun Q E q => q) fun Q q => ⟨_, at_of rfl hbg, q⟩) (fun Q E q => q) fun Q q => by
      show Q (.int ((bd : Int) + ((0 : Int) + k)))
      rw [show (bd : Int) + ((0 : Int) + k) = ((bd + k : Nat) : Int) by omega]
      exact q) a0) rfl fun Q E q => ⟨bd + k, rfl, by have := List.mem_range.mp hk; omega, q⟩⟩) (by unfold xsL; rw [List.map_map]; rfl)) ?_) ?_
    · have h1 := names_sum hbb
      have h2 : (" " : Str).length = 1 := by decide +kernel
      rw [xsL_len, h2]
      omega
    refine seq_v (.lst ((h :: argsT (bd + b) as).map .str)) (ev_lst (ds := .str h :: ((argsT (bd + b) as).map .str ++ [])) (a1 (fun Q E q => q) (a_star (Ev.eq (ev_lc (fun x : Nat × Pt => D.int (x.1 : Nat)) (fun x => .str (parT (flatT x.2) (textT (bd + b) x.2))) (xs := startsP (i + 1) as) (fun Q E q => ⟨_, at_of rfl hkg, by
      show Q (natsD (startsT (i + 1) as))
      rw [starts_nats]
      exact q⟩) (size_small (by rw [starts_len]; omega)) fun x hx => ⟨_, rfl, ev_call (ds := [.tup (ns.map nodD), .tup (K.map kidD), .tup (natsD B), .int (x.1 : Nat)]) (a1 (fun Q E q => q) (a1 (fun Q E q => q) (a1 (fun Q E q => q) (a1 (fun Q E q => q) a0)))) rfl fun Q E' q => ?_⟩) ?_) a0)) ?_ |>.eq ?_) ?_
    · obtain ⟨pre, post, hpp, hx1⟩ := startsP_mem hx
      subst hpp
      have hmem : x.2 ∈ pre ++ x.2 :: post := by simp
      have hs3 := scTs_mem hsa x.2 hmem
      have hz := size_in hmem
      refine ⟨ns, K, B, E, W, x.2, bd + b, x.1, hW, rfl, rfl, rfl, rfl, ?_, hs3, by omega, by omega, q⟩
      rw [hx1]
      exact ha.kid
    · rw [starts_map (fun q => D.str (parT (flatT q) (textT (bd + b) q))), argsT_map, List.map_map]
      rfl
    · rw [List.length_cons, List.length_append, List.length_map, hargs]
      exact size_small (by show _ + 0 + 1 ≤ 1000; omega)
    · rw [List.append_nil, List.map_cons]
    have hj := join1_len (h :: argsT (bd + b) as)
    rw [List.map_cons, List.sum_cons, List.length_cons] at hj
    have hht := headT_len hb hbb
    refine ret_v (.str (textT bd (.mk b h as))) (ev_op (x := .str (headT bd b)) (y := .str (Str.join " " (h :: argsT (bd + b) as))) (ev_if (b := decide (0 < b)) (b_v (ev_op (x := .int (b : Nat)) (y := .int 0) (fun Q E q => q) (fun Q E q => q) fun Q q => by
      show Q (.bl (decide ((0 : Int) < ((b : Nat) : Int))))
      rw [show decide ((0 : Int) < ((b : Nat) : Int)) = decide (0 < b) from decide_eq_decide.mpr ⟨fun h => by omega, fun h => by omega⟩]
      exact q)) (fun hp => ?_) fun hp => ?_) (ev_joinS (fun Q E q => q) (fun Q E q => q) ?_) fun Q q => ⟨?_, ?_⟩) hq
    · have hp := of_decide_eq_true hp
      have h1 := names_sum hbb
      have h2 := join1_len (xsL bd b)
      rw [xsL_len] at h2
      have e1 : ("\\" : Str).length = 1 := by decide +kernel
      have e2 : (". " : Str).length = 2 := by decide +kernel
      refine (ev_op (x := .str (("\\" : Str) ++ Str.join " " (xsL bd b))) (y := .str ". ") (ev_op (x := .str "\\") (y := .str (Str.join " " (xsL bd b))) (fun Q E q => q) (fun Q E q => q) fun Q q => ⟨by rw [e1]; exact size_small (by omega), q⟩) (fun Q E q => q) fun Q q => ⟨by rw [len_app, e1, e2]; exact size_small (by omega), q⟩).eq ?_
      unfold headT
      rw [if_neg (by omega)]
    · have hp := of_decide_eq_false hp
      refine Ev.eq (fun Q E q => q) ?_
      unfold headT
      rw [if_pos (by omega)]
    · have h2 : (" " : Str).length = 1 := by decide +kernel
      rw [List.map_cons, List.sum_cons, List.length_cons, h2]
      omega
    · exact Nat.le_trans (show _ ≤ 10000 by omega) (by decide)
    · rw [textT] at q
      exact q
theorem ok_argument_text {P : Program} {w : World} {mg : Gm} {base : Heap} {Z : Ads} {d : Nat} (A : All mg Z) (G_node_text : DefOk P w mg base (2 * d + 2) "node_text" 4 (f_ntext d)) : DefOk P w mg base (2 * d + 2 + 1) "argument_text" 4 (f_atext d) := by
  refine mkDef (N := ["nodes", "kids", "bound", "at", "text"]) (ps := ["nodes", "kids", "bound", "at"]) A.d_argument_text sc_argument_text (fun _ _ _ _ _ _ us hl => match us, hl with | [_, _, _, _], _ => rfl) fun fa cdv Ar outer s H E hr => ⟨_,
    (dss_cons (ds_set (i := 4) (de_call G_node_text (fun _ => hr.mono (by omega)) (fun _ => pas (takes_of rfl rfl rfl rfl)) (da_cons (de_var 0) (da_cons (de_var 1) (da_cons (de_var 2) (da_cons (de_var 3) da_nil))))) (fun _ => sc_argument_text.nd))
    (dss_one (ds_ret (de_if (dt_w (dw_or (dt_cmp ok_gt (de_ix (de_ix (de_var 0) (de_var 3)) de_int) de_int) (dw_or1 (dt_cmp ok_gt (de_ix (de_ix (de_var 0) (de_var 3)) de_int) de_int)))) (de_joined (dj_cons de_str (dj_cons (de_fmt (de_var 4)) (dj_cons de_str dj_nil)))) (de_var 4))))),  fun ds Q Ex hl hf => ?_⟩
  match ds, hl, hf with
  | [.tup _, .tup _, .tup _, .int _], _, ⟨ns, K, B, E, W, p, bd, i, hW, rfl, rfl, rfl, rfl, ha, hs, hd, h60, hq⟩ =>
    have e0 : startD 5 [.tup (ns.map nodD), .tup (K.map kidD), .tup (natsD B), .int i] = [Sl.d (.tup (ns.map nodD)), Sl.d (.tup (K.map kidD)), Sl.d (.tup (natsD B)), Sl.d (.int i), Sl.no] := rfl
    have hnN : (["nodes", "kids", "bound", "at", "text"] : List Str).length = 5 := rfl
    rw [hnN, e0]
    clear e0 hnN
    have hlen := txt_len hW p bd hs
    refine seq_v (.str (textT bd p)) (ev_call (ds := [.tup (ns.map nodD), .tup (K.map kidD), .tup (natsD B), .int i]) (a1 (fun Q E q => q) (a1 (fun Q E q => q) (a1 (fun Q E q => q) (a1 (fun Q E q => q) a0)))) rfl fun Q E' q => ⟨ns, K, B, E, W, p, bd, i, hW, rfl, rfl, rfl, rfl, ha, hs, hd, h60, q⟩) ?_
    cases p with
    | mk b h as =>
    have hget : (ns.map nodD)[i]? = some (nodD (b, h, as.length)) := by rw [List.getElem?_map, ha.node]; rfl
    have ev0 : Ev (dOp rdIx (dOp rdIx (dVar 0) (dVar 3)) (dC (.int 0))) [Sl.d (.tup (ns.map nodD)), Sl.d (.tup (K.map kidD)), Sl.d (.tup (natsD B)), Sl.d (.int i), Sl.d (.str (textT bd (.mk b h as)))] (.int (b : Nat)) := ev_op (x := nodD (b, h, as.length)) (y := .int 0) (ev_op (x := .tup (ns.map nodD)) (y := .int i) (fun Q E q => q) (fun Q E q => q) fun Q q => ⟨_, at_of rfl hget, q⟩) (fun Q E q => q) fun Q q => ⟨_, rfl, q⟩
    have ev2 : Ev (dOp rdIx (dOp rdIx (dVar 0) (dVar 3)) (dC (.int 2))) [Sl.d (.tup (ns.map nodD)), Sl.d (.tup (K.map kidD)), Sl.d (.tup (natsD B)), Sl.d (.int i), Sl.d (.str (textT bd (.mk b h as)))] (.int (as.length : Nat)) := ev_op (x := nodD (b, h, as.length)) (y := .int 2) (ev_op (x := .tup (ns.map nodD)) (y := .int i) (fun Q E q => q) (fun Q E q => q) fun Q q => ⟨_, at_of rfl hget, q⟩) (fun Q E q => q) fun Q q => ⟨_, rfl, q⟩
    refine ret_v (.str (parT (flatT (.mk b h as)) (textT bd (.mk b h as)))) (ev_if (b := decide (0 < (b : Int)) || decide (0 < (as.length : Int))) (or_v (b_v (ev_op (x := .int (b : Nat)) (y := .int 0) ev0 (fun Q E q => q) fun Q q => q)) fun _ => b_v (ev_op (x := .int (as.length : Nat)) (y := .int 0) ev2 (fun Q E q => q) fun Q q => q)) (fun hc => (ev_paren (fun Q E q => q) (by omega)).eq ?_) fun hc => Ev.eq (fun Q E q => q) ?_) hq
    · have hf : flatT (.mk b h as) = false := by
        rw [Bool.or_eq_true, decide_eq_true_eq, decide_eq_true_eq] at hc
        show (decide (b = 0) && as.isEmpty) = false
        rcases hc with hc | hc
        · rw [decide_eq_false (by omega)]
          rfl
        · cases as with
          | nil => exact absurd hc (by decide)
          | cons _ _ => rw [List.isEmpty_cons, Bool.and_false]
      rw [hf]
      rfl
    · have hf : flatT (.mk b h as) = true := by
        rw [Bool.or_eq_false_iff, decide_eq_false_iff_not, decide_eq_false_iff_not] at hc
        show (decide (b = 0) && as.isEmpty) = true
        have h0 : as = [] := List.eq_nil_of_length_eq_zero (by omega)
        rw [h0, decide_eq_true (by omega)]
        rfl
      rw [hf]
      rfl
theorem rs_node_text {P : Program} {w : World} {mg : Gm} {base : Heap} {Z : Ads} (A : All mg Z) (G_variable_text : DefOk P w mg base 1 "variable_text" 1 f_vartext) : ∀ d : Nat, DefOk P w mg base (2 * d + 2) "node_text" 4 (f_ntext d)
  | 0 => nv_node_text A
  | d + 1 => ok_node_text A (ok_argument_text A (rs_node_text A G_variable_text d)) G_variable_text
end K15
namespace K15
open PySem L2 FP
variable [FP.Tabl]
open KP
theorem ok_Program_nodes {P : Program} {w : World} {mg : Gm} {base : Heap} {Z : Ads} (A : All mg Z) : PropOk P w mg base 1 Z.a_Program "nodes" f_nodesT := by
  refine mkProp (N := ["self"]) (ps := ["self"]) A.d_Program_nodes sc_Program_nodes rfl (fun _ _ _ _ _ _ us hl => match us, hl with | [_], _ => rfl) fun fa cdv Ar outer s H E hr => ⟨_,
    (dss_one (ds_ret (de_fld A.kc_Program A.na_Program_own_nodes (de_var 0)))),  fun ds Q Ex hl hf => ?_⟩
  match ds, hl, hf with
  | [_], _, ⟨p, rfl, hq⟩ =>
    have e0 : startD 1 [progD p] = [Sl.d (progD p)] := rfl
    have hnN : (["self"] : List Str).length = 1 := rfl
    rw [hnN, e0]
    clear e0 hnN
    exact ret_v (.tup ((nodesT p).map nodD)) (ev_fld (fs := progT p) (fun Q E q => q) rfl) hq
theorem ok_Program_text {P : Program} {w : World} {mg : Gm} {base : Heap} {Z : Ads} (A : All mg Z) (G_node_text : DefOk P w mg base 124 "node_text" 4 (f_ntext 61)) : PropOk P w mg base 126 Z.a_Program "text" f_textP := by
  refine mkProp (N := ["self"]) (ps := ["self"]) A.d_Program_text sc_Program_text rfl (fun _ _ _ _ _ _ us hl => match us, hl with | [_], _ => rfl) fun fa cdv Ar outer s H E hr => ⟨_,
    (dss_one (ds_ret (de_call G_node_text (fun _ => hr.mono (by omega)) (fun _ => pas (takes_of rfl rfl rfl rfl)) (da_cons (de_fld A.kc_Program A.na_Program_own_nodes (de_var 0)) (da_cons (de_fld A.kc_Program A.na_Program_own_kids (de_var 0)) (da_cons (de_fld A.kc_Program A.na_Program_own_bound (de_var 0)) (da_cons de_int da_nil))))))),  fun ds Q Ex hl hf => ?_⟩
  match ds, hl, hf with
  | [_], _, ⟨W, p, rfl, hg, hq⟩ =>
    have e0 : startD 1 [progD p] = [Sl.d (progD p)] := rfl
    have hnN : (["self"] : List Str).length = 1 := rfl
    rw [hnN, e0]
    clear e0 hnN
    exact ret_v (.str (textT 0 p)) (ev_call (ds := [.tup ((nodesT p).map nodD), .tup ((kidsT 0 p).map kidD), .tup (natsD (bndsT 0 p)), .int 0]) (a1 (ev_fld (fs := progT p) (fun Q E q => q) rfl) (a1 (ev_fld (fs := progT p) (fun Q E q => q) rfl) (a1 (ev_fld (fs := progT p) (fun Q E q => q) rfl) (a1 (fun Q E q => q) a0)))) rfl fun Q E q => ⟨nodesT p, kidsT 0 p, bndsT 0 p, endsT 0 p, W, p, 0, 0, hg.w, rfl, rfl, rfl, rfl, AtP.root p, hg.s, by have := hg.z; omega, by have := hg.z; omega, q⟩) hq
theorem ok_Program___str__ {P : Program} {w : World} {mg : Gm} {base : Heap} {Z : Ads} (A : All mg Z) (G_node_text : DefOk P w mg base 124 "node_text" 4 (f_ntext 61)) : SpecOk P w mg base 126 Z.a_Program "__str__" 1 f_textP := by
  refine mkSpec (N := ["self"]) (ps := ["self"]) A.d_Program___str__ sc_Program___str__ (fun _ _ _ _ _ _ us hl => match us, hl with | [_], _ => rfl) fun fa cdv Ar outer s H E hr => ⟨_,
    (dss_one (ds_ret (de_callTy ok_str A.n_str FP.boot_str (da_cons (de_call G_node_text (fun _ => hr.mono (by omega)) (fun _ => pas (takes_of rfl rfl rfl rfl)) (da_cons (de_fld A.kc_Program A.na_Program_own_nodes (de_var 0)) (da_cons (de_fld A.kc_Program A.na_Program_own_kids (de_var 0)) (da_cons (de_fld A.kc_Program A.na_Program_own_bound (de_var 0)) (da_cons de_int da_nil))))) da_nil)))),  fun ds Q Ex hl hf => ?_⟩
  match ds, hl, hf with
  | [_], _, ⟨W, p, rfl, hg, hq⟩ =>
    have e0 : startD 1 [progD p] = [Sl.d (progD p)] := rfl
    have hnN : (["self"] : List Str).length = 1 := rfl
    rw [hnN, e0]
    clear e0 hnN
    exact ret_v (.str (textT 0 p)) (ev_cb (a1 (d := .str (textT 0 p)) (ev_call (ds := [.tup ((nodesT p).map nodD), .tup ((kidsT 0 p).map kidD), .tup (natsD (bndsT 0 p)), .int 0]) (a1 (ev_fld (fs := progT p) (fun Q E q => q) rfl) (a1 (ev_fld (fs := progT p) (fun Q E q => q) rfl) (a1 (ev_fld (fs := progT p) (fun Q E q => q) rfl) (a1 (fun Q E q => q) a0)))) rfl fun Q E q => ⟨nodesT p, kidsT 0 p, bndsT 0 p, endsT 0 p, W, p, 0, 0, hg.w, rfl, rfl, rfl, rfl, AtP.root p, hg.s, by have := hg.z; omega, by have := hg.z; omega, q⟩) a0) fun Q q => q) hq
theorem ok_Program_size {P : Program} {w : World} {mg : Gm} {base : Heap} {Z : Ads} (A : All mg Z) : PropOk P w mg base 1 Z.a_Program "size" f_sizeP := by
  refine mkProp (N := ["self"]) (ps := ["self"]) A.d_Program_size sc_Program_size rfl (fun _ _ _ _ _ _ us hl => match us, hl with | [_], _ => rfl) fun fa cdv Ar outer s H E hr => ⟨_,
    (dss_one (ds_ret (de_callB ok_len A.n_len FP.boot_len (da_cons (de_fld A.kc_Program A.na_Program_own_nodes (de_var 0)) da_nil)))),  fun ds Q Ex hl hf => ?_⟩
  match ds, hl, hf with
  | [_], _, ⟨p, rfl, hq⟩ =>
    have e0 : startD 1 [progD p] = [Sl.d (progD p)] := rfl
    have hnN : (["self"] : List Str).length = 1 := rfl
    rw [hnN, e0]
    clear e0 hnN
    exact ret_v (.int (sizeT p)) (ev_cb (a1 (d := .tup ((nodesT p).map nodD)) (ev_fld (fs := progT p) (fun Q E q => q) rfl) a0) fun Q q => by show Q (.int (((nodesT p).map nodD).length : Nat)); rw [List.length_map, nodes_len]; exact q) hq
theorem ok_Program___len__ {P : Program} {w : World} {mg : Gm} {base : Heap} {Z : Ads} (A : All mg Z) : SpecOk P w mg base 1 Z.a_Program "__len__" 1 f_sizeP := by
  refine mkSpec (N := ["self"]) (ps := ["self"]) A.d_Program___len__ sc_Program___len__ (fun _ _ _ _ _ _ us hl => match us, hl with | [_], _ => rfl) fun fa cdv Ar outer s H E hr => ⟨_,
    (dss_one (ds_ret (de_callB ok_len A.n_len FP.boot_len (da_cons (de_fld A.kc_Program A.na_Program_own_nodes (de_var 0)) da_nil)))),  fun ds Q Ex hl hf => ?_⟩
  match ds, hl, hf with
  | [_], _, ⟨p, rfl, hq⟩ =>
    have e0 : startD 1 [progD p] = [Sl.d (progD p)] := rfl
    have hnN : (["self"] : List Str).length = 1 := rfl
    rw [hnN, e0]
    clear e0 hnN
    exact ret_v (.int (sizeT p)) (ev_cb (a1 (d := .tup ((nodesT p).map nodD)) (ev_fld (fs := progT p) (fun Q E q => q) rfl) a0) fun Q q => by show Q (.int (((nodesT p).map nodD).length : Nat)); rw [List.length_map, nodes_len]; exact q) hq
theorem ok_parts_used {P : Program} {w : World} {mg : Gm} {base : Heap} {Z : Ads} (A : All mg Z) (G_is_word : DefOk P w mg base 1 "is_word" 1 f_is_word) : DefOk P w mg base 2 "parts_used" 1 f_partsused := by
  refine mkDef (N := ["nodes", "binders", "head", "count"]) (ps := ["nodes"]) A.d_parts_used sc_parts_used (fun _ _ _ _ _ _ us hl => match us, hl with | [_], _ => rfl) fun fa cdv Ar outer s H E hr => ⟨_,
    (dss_one (ds_ret (de_callTy ok_tuple A.n_tuple FP.boot_tuple (da_cons (de_sortSet (de_lc (own := [("binders", 1), ("head", 2), ("count", 3)]) (fun _ => sc_parts_used.nd) (di_tup (de_var 0)) (fun _ => blkOk_by (by kernel_rfl)) (dg_tup (dgs_cons (dg_name (i := 1) (fun _ => sc_parts_used.nd)) (dgs_cons (dg_name (i := 2) (fun _ => sc_parts_used.nd)) (dgs_cons (dg_name (i := 3) (fun _ => sc_parts_used.nd)) dgs_nil)))) (dts_one (dt_val (de_call G_is_word (fun _ => hr.mono (by omega)) (fun _ => pas takes0) (da_cons (de_var 2) da_nil)))) (de_var 2)) A.n_sorted A.n_set FP.boot_sorted FP.boot_set) da_nil)))),  fun ds Q Ex hl hf => ?_⟩
  match ds, hl, hf with
  | [_], _, ⟨W, p, rfl, hg, hq⟩ =>
    have e0 : startD 4 [.tup ((nodesT p).map nodD)] = [Sl.d (.tup ((nodesT p).map nodD)), Sl.no, Sl.no, Sl.no] := rfl
    have hnN : (["nodes", "binders", "head", "count"] : List Str).length = 4 := rfl
    rw [hnN, e0]
    clear e0 hnN
    have hz := hg.z
    have hl2 : ((headsT p).filter fun h => isWordS h).length ≤ 40 := Nat.le_trans (List.length_filter_le _ _) (by unfold headsT; rw [List.length_map, nodes_len]; exact hz)
    refine ret_v (.tup ((partsU p).map .str)) (ev_cb (a1 (ev_sortU (ss := (headsT p).filter fun h => isWordS h) (Ev.eq (ev_lcF nodD (fun n => .str n.2.1) (fun n => isWordS n.2.1) (xs := nodesT p) (fun Q E q => q) (size_small (by rw [nodes_len]; omega)) fun n hn => ⟨_, rfl, b_v (ev_call (a1 (d := .str n.2.1) (fun Q E q => q) a0) rfl fun Q E q => ⟨(scH.ok hg.w (good_T hg.w p 0 hg.s n hn).2).2.1, q⟩), fun _ => (fun Q E q => q)⟩) ?_) (by omega)) a0) fun Q q => q) hq
    unfold headsT
    rw [List.filter_map, List.map_map]
    rfl
theorem ok_Program_parts {P : Program} {w : World} {mg : Gm} {base : Heap} {Z : Ads} (A : All mg Z) (G_parts_used : DefOk P w mg base 2 "parts_used" 1 f_partsused) : PropOk P w mg base 3 Z.a_Program "parts" f_partsP := by
  refine mkProp (N := ["self"]) (ps := ["self"]) A.d_Program_parts sc_Program_parts rfl (fun _ _ _ _ _ _ us hl => match us, hl with | [_], _ => rfl) fun fa cdv Ar outer s H E hr => ⟨_,
    (dss_one (ds_ret (de_call G_parts_used (fun _ => hr.mono (by omega)) (fun _ => pas (takes_of rfl rfl rfl rfl)) (da_cons (de_fld A.kc_Program A.na_Program_own_nodes (de_var 0)) da_nil)))),  fun ds Q Ex hl hf => ?_⟩
  match ds, hl, hf with
  | [_], _, ⟨W, p, rfl, hg, hq⟩ =>
    have e0 : startD 1 [progD p] = [Sl.d (progD p)] := rfl
    have hnN : (["self"] : List Str).length = 1 := rfl
    rw [hnN, e0]
    clear e0 hnN
    exact ret_v (.tup ((partsU p).map .str)) (ev_call (a1 (d := .tup ((nodesT p).map nodD)) (ev_fld (fs := progT p) (fun Q E q => q) rfl) a0) rfl fun Q E q => ⟨W, p, rfl, hg, q⟩) hq
theorem ok_Program_counts {P : Program} {w : World} {mg : Gm} {base : Heap} {Z : Ads} (A : All mg Z) (G_parts_used : DefOk P w mg base 2 "parts_used" 1 f_partsused) : PropOk P w mg base 3 Z.a_Program "counts" f_countsP := by
  refine mkProp (N := ["self", "heads", "node", "part"]) (ps := ["self"]) A.d_Program_counts sc_Program_counts rfl (fun _ _ _ _ _ _ us hl => match us, hl with | [_], _ => rfl) fun fa cdv Ar outer s H E hr => ⟨_,
    (dss_cons (ds_set (i := 1) (de_lc (own := [("node", 2)]) (fun _ => sc_Program_counts.nd) (di_tup (de_fld A.kc_Program A.na_Program_own_nodes (de_var 0))) (fun _ => blkOk_by (by kernel_rfl)) (dg_name (i := 2) (fun _ => sc_Program_counts.nd)) dts_nil (de_ix (de_var 2) de_int)) (fun _ => sc_Program_counts.nd))
    (dss_one (ds_ret (de_dc (own := [("part", 3)]) (fun _ => sc_Program_counts.nd) (di_tup (de_call G_parts_used (fun _ => hr.mono (by omega)) (fun _ => pas (takes_of rfl rfl rfl rfl)) (da_cons (de_fld A.kc_Program A.na_Program_own_nodes (de_var 0)) da_nil))) (fun _ => blkOk_by (by kernel_rfl)) (dg_name (i := 3) (fun _ => sc_Program_counts.nd)) dts_nil (de_var 3) (de_lcount (de_var 1) (de_var 3)))))),  fun ds Q Ex hl hf => ?_⟩
  match ds, hl, hf with
  | [_], _, ⟨W, p, rfl, hg, hq⟩ =>
    have e0 : startD 4 [progD p] = [Sl.d (progD p), Sl.no, Sl.no, Sl.no] := rfl
    have hnN : (["self", "heads", "node", "part"] : List Str).length = 4 := rfl
    rw [hnN, e0]
    clear e0 hnN
    have hz := hg.z
    have hpl := partsU_len p
    refine seq_v (.lst ((headsT p).map .str)) (Ev.eq (ev_lc nodD (fun n => .str n.2.1) (xs := nodesT p) (fun Q E q => (ev_fld (d := .tup ((nodesT p).map nodD)) (fs := progT p) (fun Q E q => q) rfl) _ _ q) (size_small (by rw [nodes_len]; omega)) fun n hn => ⟨_, rfl, ev_op (x := nodD n) (y := .int 1) (fun Q E q => q) (fun Q E q => q) fun Q q => ⟨_, rfl, q⟩⟩) (by unfold headsT; rw [List.map_map]; rfl)) ?_
    refine ret_v (.dct (countsK p)) (Ev.eq (ev_dcF (fun z : Str => D.str z) (fun z => .inr z) (fun z => .str z) (fun z => .int ((headsT p).count z : Nat)) (fun _ => true) (xs := partsU p) (fun Q E q => (ev_call (a1 (d := .tup ((nodesT p).map nodD)) (ev_fld (fs := progT p) (fun Q E q => q) rfl) a0) rfl fun Q E q => ⟨W, p, rfl, hg, q⟩) _ _ q) (size_small (by omega)) fun z hz => ⟨_, rfl, fun Q E q => q, fun _ => ⟨(fun Q E q => q), rfl, ev_lcount (ys := headsT p) (fun Q E q => q) (fun Q E q => q)⟩⟩) ?_) hq
    rw [List.filter_eq_self.mpr fun _ _ => rfl]
    rfl
theorem ok_Program_require_place {P : Program} {w : World} {mg : Gm} {base : Heap} {Z : Ads} (A : All mg Z) (G_is_within : DefOk P w mg base 2 "is_within" 3 f_within) : MethOk P w mg base 3 Z.a_Program "require_place" 2 f_reqplace := by
  refine mkMeth (N := ["self", "place"]) (ps := ["self", "place"]) A.d_Program_require_place sc_Program_require_place (fun _ _ _ _ _ _ us hl => match us, hl with | [_, _], _ => rfl) fun fa cdv Ar outer s H E hr => ⟨_,
    (dss_one (ds_if (dt_not (dt_val (de_call G_is_within (fun _ => hr.mono (by omega)) (fun _ => pas (takes_of rfl rfl rfl rfl)) (da_cons (de_var 1) (da_cons de_int (da_cons (de_op ok_sub (de_callB ok_len A.n_len FP.boot_len (da_cons (de_fld A.kc_Program A.na_Program_own_nodes (de_var 0)) da_nil)) de_int) da_nil))))))
    (dss_one ds_never)
    dss_nil)),  fun ds Q Ex hl hf => ?_⟩
  match ds, hl, hf with
  | [_, .int _], _, ⟨p, i, rfl, hz, rfl, hlt, hq⟩ =>
    have e0 : startD 2 [progD p, .int i] = [Sl.d (progD p), Sl.d (.int i)] := rfl
    have hnN : (["self", "place"] : List Str).length = 2 := rfl
    rw [hnN, e0]
    clear e0 hnN
    refine end_if false (not_v (b := true) (b_v (ev_call (a1 (fun Q E q => q) (a1 (fun Q E q => q) (a1 (d := .int ((sizeT p : Int) - 1)) (ev_op (x := .int (sizeT p)) (y := .int 1) (ev_cb (a1 (d := .tup ((nodesT p).map nodD)) (ev_fld (fs := progT p) (fun Q E q => q) rfl) a0) fun Q q => by show Q (.int (((nodesT p).map nodD).length : Nat)); rw [List.length_map, nodes_len]; exact q) (fun Q E q => q) fun Q q => q) a0))) rfl fun Q E q => ⟨trivial, by rw [inRow_at hlt (by omega)]; exact q⟩))) ?_
    exact hq
theorem ok_Program_bound {P : Program} {w : World} {mg : Gm} {base : Heap} {Z : Ads} (A : All mg Z) (G_Program_require_place : MethOk P w mg base 3 Z.a_Program "require_place" 2 f_reqplace) : MethOk P w mg base 4 Z.a_Program "bound" 2 (f_atP fun _ bd _ => .int (bd : Nat)) := by
  refine mkMeth (N := ["self", "place"]) (ps := ["self", "place"]) A.d_Program_bound sc_Program_bound (fun _ _ _ _ _ _ us hl => match us, hl with | [_, _], _ => rfl) fun fa cdv Ar outer s H E hr => ⟨_,
    (dss_cons (ds_expr (de_meth A.kc_Program G_Program_require_place (fun _ => hr.mono (by omega)) (fun _ => pas (takes_of rfl rfl rfl rfl)) (de_var 0) (da_cons (de_var 1) da_nil)))
    (dss_one (ds_ret (de_ix (de_fld A.kc_Program A.na_Program_own_bound (de_var 0)) (de_var 1))))),  fun ds Q Ex hl hf => ?_⟩
  match ds, hl, hf with
  | [_, .int _], _, ⟨p, q, bd, i, rfl, hz, rfl, ha, hq⟩ =>
    have e0 : startD 2 [progD p, .int i] = [Sl.d (progD p), Sl.d (.int i)] := rfl
    have hnN : (["self", "place"] : List Str).length = 2 := rfl
    rw [hnN, e0]
    clear e0 hnN
    have hlt : i < sizeT p := by
      have h1 := ha.lt
      have h2 := size_pos q
      omega
    cases q with
    | mk b h as =>
    refine seq_expr (fun Q E q => (ev_meth (d := .non) (fs := progT p) (ds := [.int i]) (fun Q E q => q) rfl (a1 (fun Q E q => q) a0) rfl fun Q E q => ⟨p, i, rfl, hz, rfl, hlt, q⟩) _ _ (q _)) ?_
    exact ret_v (.int (bd : Nat)) (ev_op (x := .tup (natsD (bndsT 0 p))) (y := .int i) (ev_fld (fs := progT p) (fun Q E q => q) rfl) (fun Q E q => q) fun Q q => ⟨_, at_of rfl (by unfold natsD; rw [List.getElem?_map, AtP.bound ha]; rfl), q⟩) hq
theorem ok_Program_arguments {P : Program} {w : World} {mg : Gm} {base : Heap} {Z : Ads} (A : All mg Z) (G_Program_require_place : MethOk P w mg base 3 Z.a_Program "require_place" 2 f_reqplace) : MethOk P w mg base 4 Z.a_Program "arguments" 2 (f_atP fun q _ i => kidD (startsT (i + 1) q.as)) := by
  refine mkMeth (N := ["self", "place"]) (ps := ["self", "place"]) A.d_Program_arguments sc_Program_arguments (fun _ _ _ _ _ _ us hl => match us, hl with | [_, _], _ => rfl) fun fa cdv Ar outer s H E hr => ⟨_,
    (dss_cons (ds_expr (de_meth A.kc_Program G_Program_require_place (fun _ => hr.mono (by omega)) (fun _ => pas (takes_of rfl rfl rfl rfl)) (de_var 0) (da_cons (de_var 1) da_nil)))
    (dss_one (ds_ret (de_ix (de_fld A.kc_Program A.na_Program_own_kids (de_var 0)) (de_var 1))))),  fun ds Q Ex hl hf => ?_⟩
  match ds, hl, hf with
  | [_, .int _], _, ⟨p, q, bd, i, rfl, hz, rfl, ha, hq⟩ =>
    have e0 : startD 2 [progD p, .int i] = [Sl.d (progD p), Sl.d (.int i)] := rfl
    have hnN : (["self", "place"] : List Str).length = 2 := rfl
    rw [hnN, e0]
    clear e0 hnN
    have hlt : i < sizeT p := by
      have h1 := ha.lt
      have h2 := size_pos q
      omega
    cases q with
    | mk b h as =>
    refine seq_expr (fun Q E q => (ev_meth (d := .non) (fs := progT p) (ds := [.int i]) (fun Q E q => q) rfl (a1 (fun Q E q => q) a0) rfl fun Q E q => ⟨p, i, rfl, hz, rfl, hlt, q⟩) _ _ (q _)) ?_
    exact ret_v (kidD (startsT (i + 1) as)) (ev_op (x := .tup ((kidsT 0 p).map kidD)) (y := .int i) (ev_fld (fs := progT p) (fun Q E q => q) rfl) (fun Q E q => q) fun Q q => ⟨_, at_of rfl (by rw [List.getElem?_map, AtP.kids ha]; rfl), q⟩) hq
theorem ok_Program_end {P : Program} {w : World} {mg : Gm} {base : Heap} {Z : Ads} (A : All mg Z) (G_Program_require_place : MethOk P w mg base 3 Z.a_Program "require_place" 2 f_reqplace) : MethOk P w mg base 4 Z.a_Program "end" 2 (f_atP fun q _ i => .int ((i + sizeT q : Nat) : Int)) := by
  refine mkMeth (N := ["self", "place"]) (ps := ["self", "place"]) A.d_Program_end sc_Program_end (fun _ _ _ _ _ _ us hl => match us, hl with | [_, _], _ => rfl) fun fa cdv Ar outer s H E hr => ⟨_,
    (dss_cons (ds_expr (de_meth A.kc_Program G_Program_require_place (fun _ => hr.mono (by omega)) (fun _ => pas (takes_of rfl rfl rfl rfl)) (de_var 0) (da_cons (de_var 1) da_nil)))
    (dss_one (ds_ret (de_ix (de_fld A.kc_Program A.na_Program_own_ends (de_var 0)) (de_var 1))))),  fun ds Q Ex hl hf => ?_⟩
  match ds, hl, hf with
  | [_, .int _], _, ⟨p, q, bd, i, rfl, hz, rfl, ha, hq⟩ =>
    have e0 : startD 2 [progD p, .int i] = [Sl.d (progD p), Sl.d (.int i)] := rfl
    have hnN : (["self", "place"] : List Str).length = 2 := rfl
    rw [hnN, e0]
    clear e0 hnN
    have hlt : i < sizeT p := by
      have h1 := ha.lt
      have h2 := size_pos q
      omega
    cases q with
    | mk b h as =>
    refine seq_expr (fun Q E q => (ev_meth (d := .non) (fs := progT p) (ds := [.int i]) (fun Q E q => q) rfl (a1 (fun Q E q => q) a0) rfl fun Q E q => ⟨p, i, rfl, hz, rfl, hlt, q⟩) _ _ (q _)) ?_
    exact ret_v (.int ((i + sizeT (.mk b h as) : Nat) : Int)) (ev_op (x := .tup (natsD (endsT 0 p))) (y := .int i) (ev_fld (fs := progT p) (fun Q E q => q) rfl) (fun Q E q => q) fun Q q => ⟨_, at_of rfl (by unfold natsD; rw [List.getElem?_map, AtP.endd ha]; rfl), q⟩) hq
theorem ok_Program___getitem__ {P : Program} {w : World} {mg : Gm} {base : Heap} {Z : Ads} (A : All mg Z) (G_Program_require_place : MethOk P w mg base 3 Z.a_Program "require_place" 2 f_reqplace) : SpecOk P w mg base 4 Z.a_Program "__getitem__" 2 (f_atP fun q _ _ => nodD (q.b, q.h, q.as.length)) := by
  refine mkSpec (N := ["self", "place"]) (ps := ["self", "place"]) A.d_Program___getitem__ sc_Program___getitem__ (fun _ _ _ _ _ _ us hl => match us, hl with | [_, _], _ => rfl) fun fa cdv Ar outer s H E hr => ⟨_,
    (dss_cons (ds_expr (de_meth A.kc_Program G_Program_require_place (fun _ => hr.mono (by omega)) (fun _ => pas (takes_of rfl rfl rfl rfl)) (de_var 0) (da_cons (de_var 1) da_nil)))
    (dss_one (ds_ret (de_ix (de_fld A.kc_Program A.na_Program_own_nodes (de_var 0)) (de_var 1))))),  fun ds Q Ex hl hf => ?_⟩
  match ds, hl, hf with
  | [_, .int _], _, ⟨p, q, bd, i, rfl, hz, rfl, ha, hq⟩ =>
    have e0 : startD 2 [progD p, .int i] = [Sl.d (progD p), Sl.d (.int i)] := rfl
    have hnN : (["self", "place"] : List Str).length = 2 := rfl
    rw [hnN, e0]
    clear e0 hnN
    have hlt : i < sizeT p := by
      have h1 := ha.lt
      have h2 := size_pos q
      omega
    cases q with
    | mk b h as =>
    refine seq_expr (fun Q E q => (ev_meth (d := .non) (fs := progT p) (ds := [.int i]) (fun Q E q => q) rfl (a1 (fun Q E q => q) a0) rfl fun Q E q => ⟨p, i, rfl, hz, rfl, hlt, q⟩) _ _ (q _)) ?_
    exact ret_v (nodD (b, h, as.length)) (ev_op (x := .tup ((nodesT p).map nodD)) (y := .int i) (ev_fld (fs := progT p) (fun Q E q => q) rfl) (fun Q E q => q) fun Q q => ⟨_, at_of rfl (by rw [List.getElem?_map, AtP.node ha]; rfl), q⟩) hq
theorem ok_Program_way_to {P : Program} {w : World} {mg : Gm} {base : Heap} {Z : Ads} (A : All mg Z) (G_Program_require_place : MethOk P w mg base 3 Z.a_Program "require_place" 2 f_reqplace) : MethOk P w mg base 4 Z.a_Program "way_to" 2 f_wayP := by
  refine mkMeth (N := ["self", "place", "at"]) (ps := ["self", "place"]) A.d_Program_way_to sc_Program_way_to (fun _ _ _ _ _ _ us hl => match us, hl with | [_, _], _ => rfl) fun fa cdv Ar outer s H E hr => ⟨_,
    (dss_cons (ds_expr (de_meth A.kc_Program G_Program_require_place (fun _ => hr.mono (by omega)) (fun _ => pas (takes_of rfl rfl rfl rfl)) (de_var 0) (da_cons (de_var 1) da_nil)))
    (dss_one (ds_ret (de_callTy ok_tuple A.n_tuple FP.boot_tuple (da_cons (de_lc (own := [("at", 2)]) (fun _ => sc_Program_way_to.nd) (di_range1 A.n_range (da_cons (de_op ok_add (de_var 1) de_int) da_nil)) (fun _ => blkOk_by (by kernel_rfl)) (dg_name (i := 2) (fun _ => sc_Program_way_to.nd)) (dts_one (dt_cmp ok_lt (de_var 1) (de_ix (de_fld A.kc_Program A.na_Program_own_ends (de_var 0)) (de_var 2)))) (de_var 2)) da_nil))))),  fun ds Q Ex hl hf => ?_⟩
  match ds, hl, hf with
  | [_, .int _], _, ⟨p, q, bd, i, above, rfl, hz, rfl, ha, hab, hq⟩ =>
    have e0 : startD 3 [progD p, .int i] = [Sl.d (progD p), Sl.d (.int i), Sl.no] := rfl
    have hnN : (["self", "place", "at"] : List Str).length = 3 := rfl
    rw [hnN, e0]
    clear e0 hnN
    have hlt : i < sizeT p := by
      have h1 := ha.lt
      have h2 := size_pos q
      omega
    refine seq_expr (fun Q E q => (ev_meth (d := .non) (fs := progT p) (ds := [.int i]) (fun Q E q => q) rfl (a1 (fun Q E q => q) a0) rfl fun Q E q => ⟨p, i, rfl, hz, rfl, hlt, q⟩) _ _ (q _)) ?_
    have hE : (endsT 0 p).getD i 0 = i + sizeT q := by
      cases q with
      | mk b h as =>
      rw [List.getD_eq_getElem?_getD, AtP.endd ha]
      rfl
    have hw := hab.way (by have := size_pos q; omega)
    refine ret_v (.tup (natsD (above ++ [i]))) (ev_cb (a1 (d := .lst (natsD (above ++ [i]))) (Ev.eq (ev_lcF (fun k : Nat => D.int ((0 : Int) + k)) (fun k => .int (k : Nat)) (fun k => decide (i < (endsT 0 p).getD k 0)) (xs := List.range (i + 1)) (fun Q E q => ⟨by omega, by omega, ?_⟩) (size_small (by rw [List.length_range]; omega)) fun k hk => ⟨_, rfl, b_v (ev_op (x := .int i) (y := .int (((endsT 0 p).getD k 0 : Nat) : Int)) (fun Q E q => q) (ev_op (x := .tup (natsD (endsT 0 p))) (y := .int ((0 : Int) + k)) (ev_fld (fs := progT p) (fun Q E q => q) rfl) (fun Q E q => q) fun Q q => ⟨_, at_of (j := k) (by omega) ?_, q⟩) fun Q q => ?_), fun _ => Ev.eq (fun Q E q => q) (by rw [Int.zero_add])⟩) (by rw [hw]; rfl)) a0) fun Q q => q) hq
    · show Q (rangeD 0 ((i : Int) + 1).toNat)
      rw [show ((i : Int) + 1).toNat = i + 1 by omega]
      exact q
    · have hk := List.mem_range.mp hk
      have hkl : k < (endsT 0 p).length := by rw [endsT_len]; omega
      unfold natsD
      rw [List.getElem?_map, List.getD_eq_getElem?_getD, List.getElem?_eq_getElem hkl]
      rfl
    · show Q (.bl (decide ((i : Int) < (((endsT 0 p).getD k 0 : Nat) : Int))))
      rw [show decide ((i : Int) < (((endsT 0 p).getD k 0 : Nat) : Int)) = decide (i < (endsT 0 p).getD k 0) from decide_eq_decide.mpr ⟨fun h => by omega, fun h => by omega⟩]
      exact q
theorem ok_Program___contains__ {P : Program} {w : World} {mg : Gm} {base : Heap} {Z : Ads} (A : All mg Z) (G_is_word : DefOk P w mg base 1 "is_word" 1 f_is_word) (G_parts_used : DefOk P w mg base 2 "parts_used" 1 f_partsused) : SpecOk P w mg base 3 Z.a_Program "__contains__" 2 f_contP := by
  refine mkSpec (N := ["self", "value"]) (ps := ["self", "value"]) A.d_Program___contains__ sc_Program___contains__ (fun _ _ _ _ _ _ us hl => match us, hl with | [_, _], _ => rfl) fun fa cdv Ar outer s H E hr => ⟨_,
    (dss_one (ds_ret (de_and (de_call G_is_word (fun _ => hr.mono (by omega)) (fun _ => pas (takes_of rfl rfl rfl rfl)) (da_cons (de_var 1) da_nil)) (de_one (de_cmp ok_in (de_var 1) (de_call G_parts_used (fun _ => hr.mono (by omega)) (fun _ => pas (takes_of rfl rfl rfl rfl)) (da_cons (de_fld A.kc_Program A.na_Program_own_nodes (de_var 0)) da_nil))))))),  fun ds Q Ex hl hf => ?_⟩
  match ds, hl, hf with
  | [_, .str z], _, ⟨W, p, rfl, hg, ho, hq⟩ =>
    have e0 : startD 2 [progD p, .str z] = [Sl.d (progD p), Sl.d (.str z)] := rfl
    have hnN : (["self", "value"] : List Str).length = 2 := rfl
    rw [hnN, e0]
    clear e0 hnN
    refine ret_v (.bl (isWordS z && decide (z ∈ partsU p))) (ev_andV (ev_call (a1 (fun Q E q => q) a0) rfl fun Q E q => ⟨ho, q⟩) fun _ => ev_op (x := .str z) (y := .tup ((partsU p).map .str)) (fun Q E q => q) (ev_call (a1 (d := .tup ((nodesT p).map nodD)) (ev_fld (fs := progT p) (fun Q E q => q) rfl) a0) rfl fun Q E q => ⟨W, p, rfl, hg, q⟩) fun Q q => in_strsT q) ?_
    rw [in_word]
    exact hq
theorem ok_Program___eq__ {P : Program} {w : World} {mg : Gm} {base : Heap} {Z : Ads} (A : All mg Z) : SpecOk P w mg base 1 Z.a_Program "__eq__" 2 f_eqP := by
  refine mkSpec (N := ["self", "other"]) (ps := ["self", "other"]) A.d_Program___eq__ sc_Program___eq__ (fun _ _ _ _ _ _ us hl => match us, hl with | [_, _], _ => rfl) fun fa cdv Ar outer s H E hr => ⟨_,
    (dss_one (ds_ret (de_and (de_isiO (de_var 1) A.n_isinstance A.kc_Program.nm A.isi_Program FP.boot_isinstance) (de_one (de_cmp (ok_eq (fun _ => hr.r.units)) (de_fld A.kc_Program A.na_Program_own_nodes (de_var 0)) (de_fld A.kc_Program A.na_Program_own_nodes (de_var 1))))))),  fun ds Q Ex hl hf => ?_⟩
  match ds, hl, hf with
  | [_, _], _, ⟨p, rfl, hp, .inl ⟨q, rfl, hq2, hq⟩⟩ =>
    have e0 : startD 2 [progD p, progD q] = [Sl.d (progD p), Sl.d (progD q)] := rfl
    have hnN : (["self", "other"] : List Str).length = 2 := rfl
    rw [hnN, e0]
    clear e0 hnN
    refine ret_v (.bl (true && eqNd (nodesT p) (nodesT q))) (ev_andV (fun Q E q' => ?_) fun _ => ev_op (x := .tup ((nodesT p).map nodD)) (y := .tup ((nodesT q).map nodD)) (ev_fld (fs := progT p) (fun Q E q => q) rfl) (ev_fld (fs := progT q) (fun Q E q => q) rfl) fun Q q' => eq_nods hp hq2 q') hq
    show (match isiD ["Program"] (fun _ => true) (progD q) with | some b => Q (.bl b) | none => False)
    rw [isi_prog]
    exact q'
  | [_, y], _, ⟨p, rfl, hp, .inr ⟨hy, hq⟩⟩ =>
    have e0 : startD 2 [progD p, y] = [Sl.d (progD p), Sl.d (y)] := rfl
    have hnN : (["self", "other"] : List Str).length = 2 := rfl
    rw [hnN, e0]
    clear e0 hnN
    refine ret_v (.bl (false && false)) (ev_andV (fun Q E q' => ?_) fun h => by cases h) hq
    show (match isiD ["Program"] (fun _ => true) y with | some b => Q (.bl b) | none => False)
    rw [hy]
    exact q'
theorem ok_Program_comes_ahead {P : Program} {w : World} {mg : Gm} {base : Heap} {Z : Ads} (A : All mg Z) : MethOk P w mg base 1 Z.a_Program "comes_ahead" 2 f_aheadP := by
  refine mkMeth (N := ["self", "other"]) (ps := ["self", "other"]) A.d_Program_comes_ahead sc_Program_comes_ahead (fun _ _ _ _ _ _ us hl => match us, hl with | [_, _], _ => rfl) fun fa cdv Ar outer s H E hr => ⟨_,
    (dss_cons (ds_if (dt_not (dt_val (de_isiO (de_var 1) A.n_isinstance A.kc_Program.nm A.isi_Program FP.boot_isinstance)))
    (dss_one ds_never)
    dss_nil)
    (dss_one (ds_ret (de_cmp (ok_ltD (fun _ => hr.r.units)) (de_tup (da_cons (de_callB ok_len A.n_len FP.boot_len (da_cons (de_fld A.kc_Program A.na_Program_own_nodes (de_var 0)) da_nil)) (da_cons (de_fld A.kc_Program A.na_Program_own_nodes (de_var 0)) da_nil))) (de_tup (da_cons (de_callB ok_len A.n_len FP.boot_len (da_cons (de_fld A.kc_Program A.na_Program_own_nodes (de_var 1)) da_nil)) (da_cons (de_fld A.kc_Program A.na_Program_own_nodes (de_var 1)) da_nil))))))),  fun ds Q Ex hl hf => ?_⟩
  match ds, hl, hf with
  | [_, _], _, ⟨p, q, rfl, rfl, hq⟩ =>
    have e0 : startD 2 [progD p, progD q] = [Sl.d (progD p), Sl.d (progD q)] := rfl
    have hnN : (["self", "other"] : List Str).length = 2 := rfl
    rw [hnN, e0]
    clear e0 hnN
    refine seq_ifF (not_v (b := true) (b_v fun Q E q' => ?_)) ?_
    · show (match isiD ["Program"] (fun _ => true) (progD q) with | some b => Q (.bl b) | none => False)
      rw [isi_prog]
      exact q'
    exact ret_v (.bl (aheadN (nodesT p) (nodesT q))) (ev_op (x := .tup [.int ((nodesT p).length : Nat), .tup ((nodesT p).map nodD)]) (y := .tup [.int ((nodesT q).length : Nat), .tup ((nodesT q).map nodD)]) (ev_tup (a1 (ev_cb (a1 (d := .tup ((nodesT p).map nodD)) (ev_fld (fs := progT p) (fun Q E q => q) rfl) a0) fun Q q => by show Q (.int (((nodesT p).map nodD).length : Nat)); rw [List.length_map]; exact q) (a1 (ev_fld (fs := progT p) (fun Q E q => q) rfl) a0)) (line rfl)) (ev_tup (a1 (ev_cb (a1 (d := .tup ((nodesT q).map nodD)) (ev_fld (fs := progT q) (fun Q E q => q) rfl) a0) fun Q q' => by show Q (.int (((nodesT q).map nodD).length : Nat)); rw [List.length_map]; exact q') (a1 (ev_fld (fs := progT q) (fun Q E q => q) rfl) a0)) (line rfl)) fun Q q => ltPair q) hq
theorem ok_program_in {P : Program} {w : World} {mg : Gm} {base : Heap} {Z : Ads} (A : All mg Z) (G_Nodes___init__ : InitOk P w mg base 1 "Nodes" Z.a_Nodes 1 f_initN) (G_Program___init__ : InitOk P w mg base 5 "Program" Z.a_Program 1 f_initPN) : DefOk P w mg base 8 "program_in" 1 f_progin := by
  refine mkDef (N := ["nodes"]) (ps := ["nodes"]) A.d_program_in sc_program_in (fun _ _ _ _ _ _ us hl => match us, hl with | [_], _ => rfl) fun fa cdv Ar outer s H E hr => ⟨_,
    (dss_one (ds_ret (de_make A.kc_Program G_Program___init__ (fun _ => hr.mono (by omega)) (fun _ => pas (takes_of rfl rfl rfl rfl)) (da_cons (de_make A.kc_Nodes G_Nodes___init__ (fun _ => hr.mono (by omega)) (fun _ => pas (takes_of rfl rfl rfl rfl)) (da_cons (de_var 0) da_nil)) da_nil)))),  fun ds Q Ex hl hf => ?_⟩
  match ds, hl, hf with
  | [_], _, ⟨p, rfl, hp, hq⟩ =>
    have e0 : startD 1 [.tup ((nodesT p).map nodD)] = [Sl.d (.tup ((nodesT p).map nodD))] := rfl
    have hnN : (["nodes"] : List Str).length = 1 := rfl
    rw [hnN, e0]
    clear e0 hnN
    exact ret_v (progD p) (ev_make (fs := progT p) (ds := [.ins "Nodes" [("told_nodes", .tup ((nodesT p).map nodD))]]) (a1 (ev_make (fs := [("told_nodes", .tup ((nodesT p).map nodD))]) (a1 (fun Q E q => q) a0) rfl fun Q E q => q) a0) rfl fun Q E q => .inr ⟨p, rfl, hp, q⟩) hq
theorem ok_Program_renamed {P : Program} {w : World} {mg : Gm} {base : Heap} {Z : Ads} (A : All mg Z) (G_is_word : DefOk P w mg base 1 "is_word" 1 f_is_word) (G_parts_used : DefOk P w mg base 2 "parts_used" 1 f_partsused) (G_program_in : DefOk P w mg base 8 "program_in" 1 f_progin) : MethOk P w mg base 9 Z.a_Program "renamed" 2 f_renP := by
  refine mkMeth (N := ["self", "names", "parts", "words", "one", "head", "count", "part", "word"]) (ps := ["self", "names"]) A.d_Program_renamed sc_Program_renamed (fun _ _ _ _ _ _ us hl => match us, hl with | [_, _], _ => rfl) fun fa cdv Ar outer s H E hr => ⟨_,
    (dss_cons (ds_set (i := 2) (de_call G_parts_used (fun _ => hr.mono (by omega)) (fun _ => pas (takes_of rfl rfl rfl rfl)) (da_cons (de_fld A.kc_Program A.na_Program_own_nodes (de_var 0)) da_nil)) (fun _ => sc_Program_renamed.nd))
    (dss_cons (ds_if (dt_w (dw_or (dt_not (dt_val (de_isi (de_var 1) A.n_isinstance A.n_dict FP.boot_dict FP.boot_isinstance))) (dw_or1 (dt_not (dt_val (de_callB ok_all A.n_all FP.boot_all (da_cons (de_lc (own := [("part", 7)]) (fun _ => sc_Program_renamed.nd) (di_tup (de_var 2)) (fun _ => blkOk_by (by kernel_rfl)) (dg_name (i := 7) (fun _ => sc_Program_renamed.nd)) dts_nil (de_cmp (ok_inD (k := 0) (fun _ => hr.mono (by omega))) (de_var 7) (de_var 1))) da_nil)))))))
    (dss_one ds_never)
    dss_nil)
    (dss_cons (ds_set (i := 3) (de_lv A.n_list (de_var 1)) (fun _ => sc_Program_renamed.nd))
    (dss_cons (ds_if (dt_w (dw_or (dt_not (dt_val (de_callB ok_all A.n_all FP.boot_all (da_cons (de_lc (own := [("word", 8)]) (fun _ => sc_Program_renamed.nd) (di_list (de_lst (da_starD (de_var 1) (da_star (de_var 3) da_nil)))) (fun _ => blkOk_by (by kernel_rfl)) (dg_name (i := 8) (fun _ => sc_Program_renamed.nd)) dts_nil (de_call G_is_word (fun _ => hr.mono (by omega)) (fun _ => pas takes0) (da_cons (de_var 8) da_nil))) da_nil)))) (dw_or1 (dt_cmp ok_lt (de_lenSet (de_var 3) A.n_len A.n_set FP.boot_len FP.boot_set) (de_callB ok_len A.n_len FP.boot_len (da_cons (de_var 3) da_nil))))))
    (dss_one ds_never)
    dss_nil)
    (dss_one (ds_ret (de_call G_program_in (fun _ => hr.mono (by omega)) (fun _ => pas (takes_of rfl rfl rfl rfl)) (da_cons (de_callTy ok_tuple A.n_tuple FP.boot_tuple (da_cons (de_lc (own := [("one", 4), ("head", 5), ("count", 6)]) (fun _ => sc_Program_renamed.nd) (di_tup (de_fld A.kc_Program A.na_Program_own_nodes (de_var 0))) (fun _ => blkOk_by (by kernel_rfl)) (dg_tup (dgs_cons (dg_name (i := 4) (fun _ => sc_Program_renamed.nd)) (dgs_cons (dg_name (i := 5) (fun _ => sc_Program_renamed.nd)) (dgs_cons (dg_name (i := 6) (fun _ => sc_Program_renamed.nd)) dgs_nil)))) dts_nil (de_tup (da_cons (de_var 4) (da_cons (de_dget2 (k := 0) (fun _ => hr.mono (by omega)) (de_var 1) (de_var 5) (de_var 5)) (da_cons (de_var 6) da_nil))))) da_nil)) da_nil)))))))),  fun ds Q Ex hl hf => ?_⟩
  match ds, hl, hf with
  | [_, .dct _], _, ⟨W, p, kvs, rfl, hg, rfl, hk, hin, hw, hnd, hq⟩ =>
    have e0 : startD 9 [progD p, .dct (dictS kvs)] = [Sl.d (progD p), Sl.d (.dct (dictS kvs)), Sl.no, Sl.no, Sl.no, Sl.no, Sl.no, Sl.no, Sl.no] := rfl
    have hnN : (["self", "names", "parts", "words", "one", "head", "count", "part", "word"] : List Str).length = 9 := rfl
    rw [hnN, e0]
    clear e0 hnN
    have hz := hg.z
    have hpl := partsU_len p
    refine seq_v (.tup ((partsU p).map .str)) (ev_call (a1 (d := .tup ((nodesT p).map nodD)) (ev_fld (fs := progT p) (fun Q E q => q) rfl) a0) rfl fun Q E q => ⟨W, p, rfl, hg, q⟩) ?_
    refine seq_ifF (or_f (not_v (b := true) (b_v (ev_isi (fun Q E q => q) rfl (by decide +kernel)))) (not_v (b := true) (b_v (ev_cb (a1 (d := .lst ((partsU p).map fun _ => .bl true)) (ev_lc (fun z : Str => D.str z) (fun _ => .bl true) (xs := partsU p) (fun Q E q => q) (size_small (by omega)) fun z hz => ⟨_, rfl, ev_op (x := .str z) (y := .dct (dictS kvs)) (fun Q E q => q) (fun Q E q => q) fun Q q => ⟨.inr z, rfl, by rw [val_in (hin z hz)]; exact q⟩⟩) a0) fun Q q => ⟨(partsU p).map fun _ => true, blsD_fn (fun _ => true) _, by rw [all_true]; exact q⟩)))) ?_
    refine seq_v (.lst ((kvs.map (·.2)).map .str)) (fun Q E q => ⟨by unfold dictS; rw [List.length_map]; exact size_small (by omega), by
      rw [vals_dictS]
      exact q⟩) ?_
    refine seq_ifF (or_f (not_v (b := true) (b_v (ev_cb (a1 (d := .lst ((kvs.map (·.1) ++ kvs.map (·.2)).map fun _ => .bl true)) (ev_lc (fun z : Str => D.str z) (fun _ => .bl true) (xs := kvs.map (·.1) ++ kvs.map (·.2)) (fun Q E q => (ev_lst (ds := ((dictS kvs).map fun kv => kD kv.1) ++ ((kvs.map (·.2)).map .str ++ [])) (ev_starD (kvs := dictS kvs) (fun Q E q => q) (a_star (fun Q E q => q) a0)) (by unfold dictS; rw [List.length_append, List.length_append, List.length_map, List.length_map, List.length_map, List.length_map]; exact size_small (by show _ + (_ + 0) ≤ 1000; omega))) _ _ (by
      show Q (((dictS kvs).map fun kv => kD kv.1) ++ ((kvs.map (·.2)).map .str ++ []))
      rw [keys_dictS, List.append_nil, ← List.map_append]
      exact q)) (size_small (by rw [List.length_append, List.length_map, List.length_map]; omega)) fun z hz => ⟨_, rfl, ev_call (a1 (fun Q E q => q) a0) rfl fun Q E q => ⟨?_, ?_⟩⟩) a0) fun Q q => ⟨(kvs.map (·.1) ++ kvs.map (·.2)).map fun _ => true, blsD_fn (fun _ => true) _, by rw [all_true]; exact q⟩))) (b_v (ev_op (x := .int (kvs.map (·.2)).length) (y := .int (kvs.map (·.2)).length) (fun Q E q => ⟨kvs.map (·.2), strsD_map _, by rw [List.length_map]; omega, by rw [sortU_full hnd]; exact q⟩) (ev_cb (a1 (d := .lst ((kvs.map fun q : Str × Str => q.2).map D.str)) (fun Q E q => q) a0) fun Q q => by
      show Q (.int (((kvs.map (·.2)).map D.str).length : Nat))
      rw [List.length_map]
      exact q) fun Q q => ?_))) ?_
    · exact (words_both hw hz).2
    · show Q (.bl (isWordS z))
      rw [(words_both hw hz).1]
      exact q
    · show Q (.bl (decide (((kvs.map (·.2)).length : Int) < ((kvs.map (·.2)).length : Int))))
      rw [decide_eq_false (by omega)]
      exact q
    refine ret_v (progD (renT (lookS kvs) p)) (ev_call (a1 (d := .tup ((nodesT (renT (lookS kvs) p)).map nodD)) (ev_cb (a1 (d := .lst ((nodesT (renT (lookS kvs) p)).map nodD)) (Ev.eq (ev_lc nodD (fun n => nodD (renN (lookS kvs) n)) (xs := nodesT p) (fun Q E q => (ev_fld (d := .tup ((nodesT p).map nodD)) (fs := progT p) (fun Q E q => q) rfl) _ _ q) (size_small (by rw [nodes_len]; omega)) fun n hn => ⟨_, rfl, ev_tup (a1 (fun Q E q => q) (a1 (d := .str (lookS kvs n.2.1)) (fun Q E q => ⟨.inr n.2.1, rfl, by rw [val_look]; exact q⟩) (a1 (fun Q E q => q) a0))) (line rfl)⟩) (by rw [ren_nodes, List.map_map]; rfl)) a0) fun Q q => q) a0) rfl fun Q E q => ⟨renT (lookS kvs) p, rfl, by rw [ren_size]; omega, q⟩) hq
end K15
namespace K15
open PySem L2 FP
variable [FP.Tabl]
open KP
theorem ok__law_dice {P : Program} {w : World} {mg : Gm} {base : Heap} {Z : Ads} (A : All mg Z) : DefOk P w mg base 1 "_law_dice" 2 f_dice := by
  refine mkDef (N := ["_law_script", "_law_spot", "_law_cell", "_law_great", "_law_blend"]) (ps := ["_law_script", "_law_spot"]) A.d__law_dice sc__law_dice (fun _ _ _ _ _ _ us hl => match us, hl with | [_, _], _ => rfl) fun fa cdv Ar outer s H E hr => ⟨_,
    (dss_cons (ds_set (i := 2) (de_op ok_add (de_op ok_mul de_int (de_var 1)) de_int) (fun _ => sc__law_dice.nd))
    (dss_cons (ds_if (dt_cmp ok_lt (de_var 1) (de_callB ok_len A.n_len FP.boot_len (da_cons (de_var 0) da_nil)))
    (dss_one (ds_set (i := 2) (de_ix (de_var 0) (de_var 1)) (fun _ => sc__law_dice.nd)))
    dss_nil)
    (dss_cons (ds_set (i := 3) (de_op ok_mod (de_callTy ok_int A.n_int FP.boot_int (da_cons (de_callB ok_abs A.n_abs FP.boot_abs (da_cons (de_var 2) da_nil)) da_nil)) (de_op ok_pow (de_op ok_pow de_int de_int) de_int)) (fun _ => sc__law_dice.nd))
    (dss_cons (ds_set (i := 4) (de_op ok_add (de_op ok_add (de_op ok_add (de_op ok_mul (de_op ok_mod (de_callTy ok_int A.n_int FP.boot_int (da_cons (de_var 3) da_nil)) de_int) de_int) (de_op ok_mul de_int (de_var 1))) (de_op ok_mul de_int (de_callTy ok_int A.n_int FP.boot_int (da_cons (de_cmp ok_lt (de_var 2) de_int) da_nil)))) de_int) (fun _ => sc__law_dice.nd))
    (dss_one (ds_retTok (da_cons (de_callB ok_max A.n_max FP.boot_max (da_cons de_int (da_cons (de_op ok_sub (de_var 3) (de_op ok_pow de_int de_int)) da_nil))) (da_cons (de_op ok_mod (de_callTy ok_int A.n_int FP.boot_int (da_cons (de_var 4) da_nil)) de_int) (da_cons de_int da_nil))))))))),  fun ds Q Ex hl hf => ?_⟩
  match ds, hl, hf with
  | [.fz xs, .int k], _, ⟨⟨ns, hx⟩, ⟨h0, h1⟩, hq⟩ =>
    subst hx
    change (_ : DTS) _ [Sl.d (.fz (ns.map D.int)), Sl.d (.int k), Sl.no, Sl.no, Sl.no]
    simp only [dSeq, dNext, dIfS, dB, dOp, dVar, dC, dCB, dCons, dNil, dSet, dTok, dRet, dRetN, dCall, rdAdd, rdSub, rdMul, rdMod, rdFdiv, rdPow, rdGt, rdLt, rdLe, rdGe, rdIx, rdInt, rdAbs, rdMax, rdMin, rdLen, dRetTok, dSetO, dListO, dLenO, dIRng1, dRetPop, List.getElem?_cons_zero, List.getElem?_cons_succ, List.set_cons_zero, List.set_cons_succ, bit_dec, bit_t, bit_f, bit_not, blc_bl, Option.some.injEq, exists_eq_left']
    refine ⟨cmulL (by decide), fun hb => ?_, fun _ => ?_⟩
    · obtain ⟨i, hi⟩ := atI_ints h0 hb
      refine ⟨_, hi, ?_⟩
      exact ⟨by decide +kernel, by decide +kernel, by decide +kernel, by decide, cmulR (by decide), cmulL (by decide), cmulL (by decide), by decide +kernel, by decide, hq⟩
    · exact ⟨by decide +kernel, by decide +kernel, by decide +kernel, by decide, cmulR (by decide), cmulL (by decide), cmulL (by decide), by decide +kernel, by decide, hq⟩
theorem ok__law_roll {P : Program} {w : World} {mg : Gm} {base : Heap} {Z : Ads} (A : All mg Z) : DefOk P w mg base 1 "_law_roll" 2 f_roll := by
  refine mkDef (N := ["_law_dice_here", "_law_total", "_law_one", "_law_two", "_law_found"]) (ps := ["_law_dice_here", "_law_total"]) A.d__law_roll sc__law_roll (fun _ _ _ _ _ _ us hl => match us, hl with | [_, _], _ => rfl) fun fa cdv Ar outer s H E hr => ⟨_,
    (dss_cons (ds_if (dt_cmp ok_gt (de_ix (de_var 0) de_int) de_int)
    (dss_cons (ds_set (i := 4) (de_op ok_mod (de_callTy ok_int A.n_int FP.boot_int (da_cons (de_ix (de_var 0) de_int) da_nil)) (de_var 1)) (fun _ => sc__law_roll.nd))
    (dss_cons (ds_tok 0 (de_op ok_fdiv (de_ix (de_var 0) de_int) (de_var 1)) (pg := fun _ _ h => ps_asg h (pg_sub (pv 0) pe_int set_list)))
    (dss_one (ds_ret (de_var 4)))))
    dss_nil)
    (dss_cons (ds_tok 0 (de_op ok_add (de_ix (de_var 0) de_int) de_int) (pg := fun _ _ h => ps_asg h (pg_sub (pv 0) pe_int set_list)))
    (dss_cons (ds_set (i := 2) (de_op ok_mod (de_callTy ok_int A.n_int FP.boot_int (da_cons (de_op ok_add (de_ix (de_var 0) de_int) (de_op ok_mul de_int (de_ix (de_var 0) de_int))) da_nil)) de_int) (fun _ => sc__law_roll.nd))
    (dss_cons (ds_set (i := 3) (de_op ok_add (de_op ok_mul (de_op ok_mod (de_callTy ok_int A.n_int FP.boot_int (da_cons (de_op ok_mul (de_var 2) (de_var 2)) da_nil)) de_int) (de_var 2)) (de_op ok_mul de_int (de_ix (de_var 0) de_int))) (fun _ => sc__law_roll.nd))
    (dss_cons (ds_set (i := 3) (de_op ok_mod (de_callTy ok_int A.n_int FP.boot_int (da_cons (de_var 3) da_nil)) de_int) (fun _ => sc__law_roll.nd))
    (dss_one (ds_ret (de_op ok_mod (de_callTy ok_int A.n_int FP.boot_int (da_cons (de_op ok_fdiv (de_var 3) de_int) da_nil)) (de_var 1))))))))),  fun ds Q Ex hl hf => ?_⟩
  match ds, hl, hf with
  | [.tok, .int n], _, ⟨⟨h0, h1⟩, hq⟩ =>
    change (_ : DTS) _ [Sl.d .tok, Sl.d (.int n), Sl.no, Sl.no, Sl.no]
    simp only [dSeq, dNext, dIfS, dB, dOp, dVar, dC, dCB, dCons, dNil, dSet, dTok, dRet, dRetN, dCall, rdAdd, rdSub, rdMul, rdMod, rdFdiv, rdPow, rdGt, rdLt, rdLe, rdGe, rdIx, rdInt, rdAbs, rdMax, rdMin, rdLen, dRetTok, dSetO, dListO, dLenO, dIRng1, dRetPop, List.getElem?_cons_zero, List.getElem?_cons_succ, List.set_cons_zero, List.set_cons_succ, bit_dec, bit_t, bit_f, bit_not, blc_bl, Option.some.injEq, exists_eq_left']
    have dn : ∀ j : Int, CDivN j n := fun j => ⟨by omega, by omega⟩
    have md : ∀ j : Int, Q (D.int (j % n)) := fun j => hq _ (Int.emod_nonneg _ (by omega)) (Int.emod_lt_of_pos _ h0)
    refine ⟨by decide, fun j => ⟨fun _ => ?_, fun _ => ?_⟩⟩
    · exact ⟨by decide, fun a => ⟨h0, by decide, fun b => ⟨dn _, by decide, md _⟩⟩⟩
    · exact ⟨by decide, fun a => ⟨by decide, by decide, fun b => ⟨by decide, fun c => ⟨cmulL (by decide), by decide, cmulL (by omega), by decide, cmulR (by omega), by decide, fun e => ⟨cmulL (by decide), by decide, ⟨by decide, by decide⟩, h0, md _⟩⟩⟩⟩⟩
theorem ok__law_pick {P : Program} {w : World} {mg : Gm} {base : Heap} {Z : Ads} (A : All mg Z) (G__law_roll : DefOk P w mg base 1 "_law_roll" 2 f_roll) : DefOk P w mg base 2 "_law_pick" 2 f_pick := by
  refine mkDef (N := ["_law_dice_here", "_law_items"]) (ps := ["_law_dice_here", "_law_items"]) A.d__law_pick sc__law_pick (fun _ _ _ _ _ _ us hl => match us, hl with | [_, _], _ => rfl) fun fa cdv Ar outer s H E hr => ⟨_,
    (dss_one (ds_ret (de_ix (de_var 1) (de_call G__law_roll (fun _ => hr.mono (by omega)) (fun _ => pas (takes_of rfl rfl rfl rfl)) (da_cons (de_var 0) (da_cons (de_callB ok_len A.n_len FP.boot_len (da_cons (de_var 1) da_nil)) da_nil)))))),  fun ds Q Ex hl hf => ?_⟩
  match ds, hl, hf with
  | [.tok, .lst xs], _, ⟨⟨h0, h1⟩, hq⟩ =>
    change (_ : DTS) _ [Sl.d .tok, Sl.d (.lst xs)]
    simp only [dSeq, dNext, dIfS, dB, dOp, dVar, dC, dCB, dCons, dNil, dSet, dTok, dRet, dRetN, dCall, rdAdd, rdSub, rdMul, rdMod, rdFdiv, rdPow, rdGt, rdLt, rdLe, rdGe, rdIx, rdInt, rdAbs, rdMax, rdMin, rdLen, dRetTok, dSetO, dListO, dLenO, dIRng1, dRetPop, List.getElem?_cons_zero, List.getElem?_cons_succ, List.set_cons_zero, List.set_cons_succ, bit_dec, bit_t, bit_f, bit_not, blc_bl, Option.some.injEq, exists_eq_left', f_roll]
    refine ⟨rfl, ⟨by omega, by omega⟩, fun r h2 h3 => ?_⟩
    obtain ⟨d, hd, hm⟩ := atI_mem h2 h3
    exact ⟨d, hd, hq d hm⟩
  | [.tok, .tup xs], _, ⟨⟨h0, h1⟩, hq⟩ =>
    change (_ : DTS) _ [Sl.d .tok, Sl.d (.tup xs)]
    simp only [dSeq, dNext, dIfS, dB, dOp, dVar, dC, dCB, dCons, dNil, dSet, dTok, dRet, dRetN, dCall, rdAdd, rdSub, rdMul, rdMod, rdFdiv, rdPow, rdGt, rdLt, rdLe, rdGe, rdIx, rdInt, rdAbs, rdMax, rdMin, rdLen, dRetTok, dSetO, dListO, dLenO, dIRng1, dRetPop, List.getElem?_cons_zero, List.getElem?_cons_succ, List.set_cons_zero, List.set_cons_succ, bit_dec, bit_t, bit_f, bit_not, blc_bl, Option.some.injEq, exists_eq_left', f_roll]
    refine ⟨rfl, ⟨by omega, by omega⟩, fun r h2 h3 => ?_⟩
    obtain ⟨d, hd, hm⟩ := atI_mem h2 h3
    exact ⟨d, hd, hq d hm⟩
theorem nv__law_program_nodes {P : Program} {w : World} {mg : Gm} {base : Heap} {Z : Ads} {k : Nat} (A : All mg Z) : DefOk P w mg base k "_law_program_nodes" 1 (f_pnodes 0) :=
  (DefOk.never (ps := ["_law_program"]) A.d__law_program_nodes (fun _ _ _ _ _ _ us hl => match us, hl with | [_], _ => rfl)).mono (Nat.le_refl _) (nope_pnodes)
theorem ok__law_program_nodes {P : Program} {w : World} {mg : Gm} {base : Heap} {Z : Ads} {d : Nat} (A : All mg Z) (G__law_program_nodes : DefOk P w mg base (d + 1) "_law_program_nodes" 1 (f_pnodes d)) : DefOk P w mg base (d + 2) "_law_program_nodes" 1 (f_pnodes (d + 1)) := by
  refine mkDef (N := ["_law_program", "_law_found", "_law_one"]) (ps := ["_law_program"]) A.d__law_program_nodes sc__law_program_nodes (fun _ _ _ _ _ _ us hl => match us, hl with | [_], _ => rfl) fun fa cdv Ar outer s H E hr => ⟨_,
    (dss_cons (ds_set (i := 1) (de_lst (da_cons (de_tup (da_cons (de_ix (de_var 0) de_int) (da_cons (de_ix (de_var 0) de_int) (da_cons (de_callB ok_len A.n_len FP.boot_len (da_cons (de_ix (de_var 0) de_int) da_nil)) da_nil)))) da_nil)) (fun _ => sc__law_program_nodes.nd))
    (dss_cons (ds_for (di_tup (de_ix (de_var 0) de_int)) (dg_name (i := 2) (fun _ => sc__law_program_nodes.nd))
    (dss_one (ds_set (i := 1) (de_op ok_add (de_var 1) (de_call G__law_program_nodes (fun _ => hr.mono (by omega)) (fun _ => pas (takes_of rfl rfl rfl rfl)) (da_cons (de_var 2) da_nil))) (fun _ => sc__law_program_nodes.nd))) (fun _ => passes_of rfl))
    (dss_one (ds_ret (de_var 1))))),  fun ds Q Ex hl hf => ?_⟩
  match ds, hl, hf with
  | [_], _, ⟨p, rfl, hd, h60, hq⟩ =>
    have e0 : startD 3 [ptD p] = [Sl.d (ptD p), Sl.no, Sl.no] := rfl
    have hnN : (["_law_program", "_law_found", "_law_one"] : List Str).length = 3 := rfl
    rw [hnN, e0]
    clear e0 hnN
    cases p with
    | mk b h as =>
    rw [ptD_eq]
    rw [sizeT] at hd h60
    rw [nodesT] at hq
    have hal := sizeTs_len as
    refine seq_v (.lst (((b, h, as.length) :: nodesTs []).map nodD)) (ev_lst (a1 (ev_tup (a1 (d := .int (b : Nat)) (fun Q E q => ⟨_, rfl, q⟩) (a1 (d := .str h) (fun Q E q => ⟨_, rfl, q⟩) (a1 (ev_cb (a1 (d := .tup (as.map ptD)) (fun Q E q => ⟨_, rfl, q⟩) a0) fun Q q => by
      show Q (.int ((as.map ptD).length : Nat))
      rw [List.length_map]
      exact q) a0))) (line rfl)) a0) (line rfl)) ?_
    refine seq_for (as.map ptD) (fun Q E q => ⟨_, rfl, q⟩) ?_
    refine for_of ptD (fun pre ρ => ∃ o, ρ = [Sl.d (.tup [.int (b : Nat), .str h, .tup (as.map ptD)]), Sl.d (.lst (((b, h, as.length) :: nodesTs pre).map nodD)), o]) as [] _ ⟨_, rfl⟩ ?_ ?_
    · rintro j pre post eq ρ K ⟨o, rfl⟩ hK
      rw [List.nil_append] at eq
      have hs : sizeTs as = sizeTs pre + (sizeT j + sizeTs post) := by rw [eq, sizeTs_app, sizeTs]
      refine ⟨_, rfl, ?_⟩
      refine end_v (.lst (((b, h, as.length) :: nodesTs pre).map nodD ++ (nodesT j).map nodD)) (ev_op (x := .lst (((b, h, as.length) :: nodesTs pre).map nodD)) (y := .lst ((nodesT j).map nodD)) (fun Q E q => q) (ev_call (a1 (fun Q E q => q) a0) rfl fun Q E q => ⟨j, rfl, by omega, by omega, q⟩) fun Q q => ⟨?_, q⟩) (hK _ ⟨.d (ptD j), ?_⟩)
      · rw [List.length_map, List.length_map, List.length_cons, nodes_lens, nodes_len]
        exact size_small (by omega)
      · rw [nodesTs_app, nodesTs, nodesTs, List.append_nil, ← List.map_append]
        rfl
    · rintro ρ ⟨o, rfl⟩
      rw [List.nil_append]
      dsimp only
      exact ret_v (.lst (((b, h, as.length) :: nodesTs as).map nodD)) (fun Q E q => q) hq
theorem rs__law_program_nodes {P : Program} {w : World} {mg : Gm} {base : Heap} {Z : Ads} (A : All mg Z) : ∀ d : Nat, DefOk P w mg base (d + 1) "_law_program_nodes" 1 (f_pnodes d)
  | 0 => nv__law_program_nodes A
  | d + 1 => ok__law_program_nodes A (rs__law_program_nodes A d)
theorem nv__law_program_parts {P : Program} {w : World} {mg : Gm} {base : Heap} {Z : Ads} {k : Nat} (A : All mg Z) : DefOk P w mg base k "_law_program_parts" 1 (f_ppartsT 0) :=
  (DefOk.never (ps := ["_law_program"]) A.d__law_program_parts (fun _ _ _ _ _ _ us hl => match us, hl with | [_], _ => rfl)).mono (Nat.le_refl _) (nope_ppartsT)
theorem ok__law_program_parts {P : Program} {w : World} {mg : Gm} {base : Heap} {Z : Ads} {d : Nat} (A : All mg Z) (G__law_program_parts : DefOk P w mg base (d + 1) "_law_program_parts" 1 (f_ppartsT d)) : DefOk P w mg base (d + 2) "_law_program_parts" 1 (f_ppartsT (d + 1)) := by
  refine mkDef (N := ["_law_program", "_law_found", "_law_one"]) (ps := ["_law_program"]) A.d__law_program_parts sc__law_program_parts (fun _ _ _ _ _ _ us hl => match us, hl with | [_], _ => rfl) fun fa cdv Ar outer s H E hr => ⟨_,
    (dss_cons (ds_set (i := 1) (de_lst (da_cons (de_var 0) da_nil)) (fun _ => sc__law_program_parts.nd))
    (dss_cons (ds_for (di_tup (de_ix (de_var 0) de_int)) (dg_name (i := 2) (fun _ => sc__law_program_parts.nd))
    (dss_one (ds_set (i := 1) (de_op ok_add (de_var 1) (de_call G__law_program_parts (fun _ => hr.mono (by omega)) (fun _ => pas (takes_of rfl rfl rfl rfl)) (da_cons (de_var 2) da_nil))) (fun _ => sc__law_program_parts.nd))) (fun _ => passes_of rfl))
    (dss_one (ds_ret (de_var 1))))),  fun ds Q Ex hl hf => ?_⟩
  match ds, hl, hf with
  | [_], _, ⟨p, rfl, hd, h60, hq⟩ =>
    have e0 : startD 3 [ptD p] = [Sl.d (ptD p), Sl.no, Sl.no] := rfl
    have hnN : (["_law_program", "_law_found", "_law_one"] : List Str).length = 3 := rfl
    rw [hnN, e0]
    clear e0 hnN
    cases p with
    | mk b h as =>
    rw [sizeT] at hd h60
    rw [partsT] at hq
    refine seq_v (.lst ((Pt.mk b h as :: partsTs []).map ptD)) (ev_lst (a1 (fun Q E q => q) a0) (line rfl)) ?_
    refine seq_for (as.map ptD) (fun Q E q => by
      show rdIx (ptD (.mk b h as)) (.int 2) _
      rw [ptD_eq]
      exact ⟨_, rfl, q⟩) ?_
    refine for_of ptD (fun pre ρ => ∃ o, ρ = [Sl.d (ptD (.mk b h as)), Sl.d (.lst ((Pt.mk b h as :: partsTs pre).map ptD)), o]) as [] _ ⟨_, rfl⟩ ?_ ?_
    · rintro j pre post eq ρ K ⟨o, rfl⟩ hK
      rw [List.nil_append] at eq
      have hs : sizeTs as = sizeTs pre + (sizeT j + sizeTs post) := by rw [eq, sizeTs_app, sizeTs]
      refine ⟨_, rfl, ?_⟩
      refine end_v (.lst ((Pt.mk b h as :: partsTs pre).map ptD ++ (partsT j).map ptD)) (ev_op (x := .lst ((Pt.mk b h as :: partsTs pre).map ptD)) (y := .lst ((partsT j).map ptD)) (fun Q E q => q) (ev_call (a1 (fun Q E q => q) a0) rfl fun Q E q => ⟨j, rfl, by omega, by omega, q⟩) fun Q q => ⟨?_, q⟩) (hK _ ⟨.d (ptD j), ?_⟩)
      · rw [List.length_map, List.length_map, List.length_cons, parts_lenTs, parts_lenT]
        exact size_small (by omega)
      · rw [partsTs_app, partsTs, partsTs, List.append_nil, ← List.map_append]
        rfl
    · rintro ρ ⟨o, rfl⟩
      rw [List.nil_append]
      dsimp only
      exact ret_v (.lst ((Pt.mk b h as :: partsTs as).map ptD)) (fun Q E q => q) hq
theorem rs__law_program_parts {P : Program} {w : World} {mg : Gm} {base : Heap} {Z : Ads} (A : All mg Z) : ∀ d : Nat, DefOk P w mg base (d + 1) "_law_program_parts" 1 (f_ppartsT d)
  | 0 => nv__law_program_parts A
  | d + 1 => ok__law_program_parts A (rs__law_program_parts A d)
theorem nv__law_drawn {P : Program} {w : World} {mg : Gm} {base : Heap} {Z : Ads} {k : Nat} (A : All mg Z) : DefOk P w mg base k "_law_drawn" 3 (f_drawnL wL15 0) :=
  (DefOk.never (ps := ["_law_dice_here", "_law_bound", "_law_most"]) A.d__law_drawn (fun _ _ _ _ _ _ us hl => match us, hl with | [_, _, _], _ => rfl)).mono (Nat.le_refl _) (nope_drawnL wL15)
theorem ok__law_drawn {P : Program} {w : World} {mg : Gm} {base : Heap} {Z : Ads} {d : Nat} (A : All mg Z) (G__law_drawn : DefOk P w mg base (d + 63) "_law_drawn" 3 (f_drawnL wL15 d)) (G__law_pick : DefOk P w mg base 2 "_law_pick" 2 f_pick) (G__law_program_parts : DefOk P w mg base 62 "_law_program_parts" 1 (f_ppartsT 61)) (G__law_roll : DefOk P w mg base 1 "_law_roll" 2 f_roll) : DefOk P w mg base (d + 64) "_law_drawn" 3 (f_drawnL wL15 (d + 1)) := by
  refine mkDef (N := ["_law_dice_here", "_law_bound", "_law_most", "_law_binders", "_law_left", "_law_args", "_law_names", "_law_head", "_law_turn", "_law_at"]) (ps := ["_law_dice_here", "_law_bound", "_law_most"]) A.d__law_drawn sc__law_drawn (fun _ _ _ _ _ _ us hl => match us, hl with | [_, _, _], _ => rfl) fun fa cdv Ar outer s H E hr => ⟨_,
    (dss_cons (ds_par3L (i := 3) (j := 4) (l := 5) (de_call G__law_pick (fun _ => hr.mono (by omega)) (fun _ => pas (takes_of rfl rfl rfl rfl)) (da_cons (de_var 0) (da_cons (de_lst (da_cons de_int (da_cons de_int (da_cons de_int (da_cons de_int da_nil))))) da_nil))) (de_op ok_sub (de_var 2) de_int) (do_lst da_nil) (fun _ => sc__law_drawn.nd))
    (dss_cons (ds_setLc (i := 6) (own := [("_law_at", 9)]) (fun _ => sc__law_drawn.nd) (di_range1 A.n_range (da_cons (de_op ok_add (de_var 1) (de_var 3)) da_nil)) (fun _ => blkOk_by (by kernel_rfl)) (dg_name (i := 9) (fun _ => sc__law_drawn.nd)) dts_nil (de_op ok_add de_str (de_callTy ok_str A.n_str FP.boot_str (da_cons (de_var 9) da_nil))) (fun _ => sw_true rfl rfl rfl (by decide +kernel)))
    (dss_cons (ds_set (i := 7) (de_call G__law_pick (fun _ => hr.mono (by omega)) (fun _ => pas (takes_of rfl rfl rfl rfl)) (da_cons (de_var 0) (da_cons (de_op ok_add (de_op ok_add (de_lst (da_cons de_str (da_cons de_str (da_cons de_str da_nil)))) (de_var 6)) (de_var 6)) da_nil))) (fun _ => sc__law_drawn.nd))
    (dss_cons (ds_for (di_range1 A.n_range (da_cons (de_call G__law_roll (fun _ => hr.mono (by omega)) (fun _ => pas (takes_of rfl rfl rfl rfl)) (da_cons (de_var 0) (da_cons de_int da_nil))) da_nil)) (dg_name (i := 8) (fun _ => sc__law_drawn.nd))
    (dss_one (ds_if (dt_cmp ok_gt (de_var 4) de_int)
    (dss_cons (ds_append 5 (de_call G__law_drawn (fun _ => hr.mono (by omega)) (fun _ => pas (takes_of rfl rfl rfl rfl)) (da_cons (de_var 0) (da_cons (de_op ok_add (de_var 1) (de_var 3)) (da_cons (de_callB ok_max A.n_max FP.boot_max (da_cons de_int (da_cons (de_op ok_fdiv (de_var 4) de_int) da_nil))) da_nil)))) (pe := fun _ _ h => ps_expr (pe_bm PySem.F.plainAttrs_list PySem.F.slot_list_append PySem.F.type_list_append mt_append (pv 5) (pa_cons h pa_nil))))
    (dss_one (ds_set (i := 4) (de_op ok_sub (de_var 4) (de_viewL 5 (de_callB ok_len A.n_len FP.boot_len (da_cons (de_call G__law_program_parts (fun _ => hr.mono (by omega)) (fun _ => pas (takes_of rfl rfl rfl rfl)) (da_cons (de_ix (de_var 5) (de_neg de_int)) da_nil)) da_nil)))) (fun _ => sc__law_drawn.nd))))
    dss_nil)) (fun _ => passes_of rfl))
    (dss_one (ds_frz 5 (ds_ret (de_tup (da_cons (de_var 3) (da_cons (de_var 7) (da_cons (de_callTy ok_tuple A.n_tuple FP.boot_tuple (da_cons (de_var 5) da_nil)) da_nil))))))))))),  fun ds Q Ex hl hf => ?_⟩
  match ds, hl, hf with
  | [.tok, .int _, .int _], _, ⟨b, m, rfl, rfl, h1, hd, h40, hb, hq⟩ =>
    have e0 : startD 10 [.tok, .int b, .int m] = [Sl.d (.tok), Sl.d (.int b), Sl.d (.int m), Sl.no, Sl.no, Sl.no, Sl.no, Sl.no, Sl.no, Sl.no] := rfl
    have hnN : (["_law_dice_here", "_law_bound", "_law_most", "_law_binders", "_law_left", "_law_args", "_law_names", "_law_head", "_law_turn", "_law_at"] : List Str).length = 10 := rfl
    rw [hnN, e0]
    clear e0 hnN
    refine seq_par3L (xs := []) (fun d => ∃ c : Nat, d = .int c ∧ c ≤ 2) (.int ((m - 1 : Nat) : Int)) (fun Q E q => ⟨line rfl, rfl, pkN rfl, fun d hd => q d ?_⟩) (ev_op (x := .int m) (y := .int 1) (fun Q E q => q) (fun Q E q => q) fun Q q => by
      show Q (.int ((m : Int) - 1))
      rw [show (m : Int) - 1 = ((m - 1 : Nat) : Int) by omega]
      exact q) (fun Q E q => ⟨by decide, q⟩) ?_
    · simp only [List.mem_cons, List.not_mem_nil, or_false] at hd
      rcases hd with rfl | rfl | rfl | rfl
      · exact ⟨0, rfl, by decide⟩
      · exact ⟨0, rfl, by decide⟩
      · exact ⟨1, rfl, by decide⟩
      · exact ⟨2, rfl, by decide⟩
    rintro _ ⟨c, rfl, hc⟩
    refine seq_v (.lst ((List.range (b + c)).map fun k => .str (xS k))) (ev_names (n := b + c) (by omega) (ev_op (x := .int b) (y := .int c) (fun Q E q => q) (fun Q E q => q) fun Q q => q) fun k => rfl) ?_
    have hnl : ((List.range (b + c)).map fun k => D.str (xS k)).length = b + c := by rw [List.length_map, List.length_range]
    have hev : Ev (dOp rdAdd (dOp rdAdd (dLst (dCons (dC (.str "f")) (dCons (dC (.str "g")) (dCons (dC (.str "z")) dNil)))) (dVar 6)) (dVar 6)) [Sl.d .tok, Sl.d (.int b), Sl.d (.int m), Sl.d (.int c), Sl.d (.int ((m - 1 : Nat) : Int)), Sl.own [], Sl.d (.lst ((List.range (b + c)).map fun k => .str (xS k))), Sl.no, Sl.no, Sl.no] (.lst ([.str "f", .str "g", .str "z"] ++ ((List.range (b + c)).map fun k => D.str (xS k)) ++ ((List.range (b + c)).map fun k => D.str (xS k)))) :=
      ev_op (x := .lst ([.str "f", .str "g", .str "z"] ++ ((List.range (b + c)).map fun k => D.str (xS k)))) (y := .lst ((List.range (b + c)).map fun k => D.str (xS k))) (ev_op (x := .lst [.str "f", .str "g", .str "z"]) (y := .lst ((List.range (b + c)).map fun k => D.str (xS k))) (ev_lst (a1 (fun Q E q => q) (a1 (fun Q E q => q) (a1 (fun Q E q => q) a0))) (line rfl)) (fun Q E q => q) fun Q q => ⟨by
        rw [hnl]
        exact size_small (by show 3 + (b + c) ≤ 1000; omega), q⟩) (fun Q E q => q) fun Q q => ⟨by
        rw [List.length_append, hnl]
        exact size_small (by show 3 + (b + c) + (b + c) ≤ 1000; omega), q⟩
    have hlen : ([D.str "f", .str "g", .str "z"] ++ ((List.range (b + c)).map fun k => D.str (xS k)) ++ ((List.range (b + c)).map fun k => D.str (xS k))).length = 3 + (b + c) + (b + c) := by
      rw [List.length_append, List.length_append, hnl]
      rfl
    have hmem : ∀ d ∈ ([D.str "f", .str "g", .str "z"] ++ ((List.range (b + c)).map fun k => D.str (xS k)) ++ ((List.range (b + c)).map fun k => D.str (xS k))), ∃ h, d = .str h ∧ scH (fun z => z ∈ wL15) (b + c) h := by
      intro d hd
      simp only [List.mem_append, List.mem_cons, List.not_mem_nil, or_false, List.mem_map, List.mem_range] at hd
      rcases hd with ((rfl | rfl | rfl) | ⟨k, hk, rfl⟩) | ⟨k, hk, rfl⟩
      · exact ⟨"f", rfl, .inl (show ("f" : Str) ∈ wL15 by decide +kernel)⟩
      · exact ⟨"g", rfl, .inl (show ("g" : Str) ∈ wL15 by decide +kernel)⟩
      · exact ⟨"z", rfl, .inl (show ("z" : Str) ∈ wL15 by decide +kernel)⟩
      · exact ⟨xS k, rfl, .inr ⟨k, hk, rfl⟩⟩
      · exact ⟨xS k, rfl, .inr ⟨k, hk, rfl⟩⟩
    refine seq_p (fun d => ∃ h, d = .str h ∧ scH (fun z => z ∈ wL15) (b + c) h) (fun Q E q => (a1 (d := .tok) (fun Q E q => q) (a1 hev a0)) _ _ ⟨rfl, by rw [hlen]; exact ⟨by omega, Nat.lt_of_le_of_lt (show _ ≤ 1000 by omega) (by decide)⟩, fun d hd => q d (hmem d hd)⟩) ?_
    rintro _ ⟨h, rfl, hh⟩
    refine seq_forP (fun ds => ∃ r : Nat, ds = rangeD 0 r ∧ r ≤ 3) (fun Q E q => ⟨rfl, ⟨by decide, by decide⟩, fun r hr0 hr1 => ⟨by omega, by omega, q _ ⟨r.toNat, rfl, by omega⟩⟩⟩) ?_
    rintro _ ⟨r, rfl, hr⟩
    refine for_st (fun rest ρ => ∃ (as : List Pt) (l : Nat) (t : Sl), rest.length + as.length ≤ 3 ∧ drTs wL15 (b + c) as ∧ sizeTs as + l = m - 1 ∧ ρ = [Sl.d .tok, Sl.d (.int b), Sl.d (.int m), Sl.d (.int c), Sl.d (.int l), Sl.own (as.map ptD), Sl.d (.lst ((List.range (b + c)).map fun k => .str (xS k))), Sl.d (.str h), t, Sl.no]) ?_ ?_ _ _ ⟨[], m - 1, _, by rw [rangeD_len]; simpa using hr, trivial, by rw [sizeTs]; omega, rfl⟩
    · rintro ρ ⟨as, l, t, hl3, hsc, hsz, rfl⟩
      have hal : as.length ≤ 3 := by
        have e : ([] : List D).length = 0 := rfl
        omega
      dsimp only
      refine frz_ret rfl (ret_v (ptD (.mk c h as)) ?_ (hq (.mk c h as) ?_ ?_))
      · rw [ptD_eq]
        exact ev_tup (a1 (fun Q E q => q) (a1 (fun Q E q => q) (a1 (ev_cb (a1 (d := .lst (as.map ptD)) (fun Q E q => q) a0) fun Q q => q) a0))) (line rfl)
      · rw [drT]
        exact ⟨hc, hal, hh, hsc⟩
      · rw [sizeT]
        omega
    · rintro x rest ρ ⟨as, l, t, hl3, hsc, hsz, rfl⟩
      rw [List.length_cons] at hl3
      refine ⟨_, rfl, fun K hK => ?_⟩
      have et : EvT (dB (dOp rdGt (dVar 4) (dC (.int 0)))) [Sl.d .tok, Sl.d (.int b), Sl.d (.int m), Sl.d (.int c), Sl.d (.int l), Sl.own (as.map ptD), Sl.d (.lst ((List.range (b + c)).map fun k => .str (xS k))), Sl.d (.str h), Sl.d x, Sl.no] (decide (0 < l)) := b_v (ev_op (x := .int l) (y := .int 0) (fun Q E q => q) (fun Q E q => q) fun Q q => by
        show Q (.bl (decide ((0 : Int) < (l : Int))))
        rw [show decide ((0 : Int) < (l : Int)) = decide (0 < l) from decide_eq_decide.mpr ⟨fun h => by omega, fun h => by omega⟩]
        exact q)
      by_cases hl : 0 < l
      case neg =>
        rw [decide_eq_false hl] at et
        exact end_ifF et (hK _ ⟨as, l, _, by omega, hsc, hsz, rfl⟩)
      rw [decide_eq_true hl] at et
      refine end_ifT et ?_
      have hdl : Ev (dOp rdFdiv (dVar 4) (dC (.int 2))) [Sl.d .tok, Sl.d (.int b), Sl.d (.int m), Sl.d (.int c), Sl.d (.int l), Sl.own (as.map ptD), Sl.d (.lst ((List.range (b + c)).map fun k => .str (xS k))), Sl.d (.str h), Sl.d x, Sl.no] (.int ((l / 2 : Nat) : Int)) := ev_op (x := .int l) (y := .int 2) (fun Q E q => q) (fun Q E q => q) fun Q q => ⟨⟨by decide, by decide⟩, by
        show Q (.int ((l : Int).fdiv 2))
        rw [show (l : Int).fdiv 2 = ((l / 2 : Nat) : Int) by rw [Int.fdiv_eq_ediv_of_nonneg _ (by decide)]; rfl]
        exact q⟩
      have hmx : Ev (dCB rdMax (dCons (dC (.int 1)) (dCons (dOp rdFdiv (dVar 4) (dC (.int 2))) dNil))) [Sl.d .tok, Sl.d (.int b), Sl.d (.int m), Sl.d (.int c), Sl.d (.int l), Sl.own (as.map ptD), Sl.d (.lst ((List.range (b + c)).map fun k => .str (xS k))), Sl.d (.str h), Sl.d x, Sl.no] (.int ((max 1 (l / 2) : Nat) : Int)) := ev_cb (a1 (d := .int 1) (fun Q E q => q) (a1 hdl a0)) fun Q q => by
        show Q (.int (if ((l / 2 : Nat) : Int) > 1 then ((l / 2 : Nat) : Int) else 1))
        rw [show (if ((l / 2 : Nat) : Int) > 1 then ((l / 2 : Nat) : Int) else 1) = ((max 1 (l / 2) : Nat) : Int) by split <;> omega]
        exact q
      have has : (as.map ptD).length < sizeLine := by
        rw [List.length_map]
        exact Nat.lt_of_le_of_lt (show as.length ≤ 3 by omega) (by decide)
      refine seq_appP rfl (fun d => ∃ p, d = ptD p ∧ drT wL15 (b + c) p ∧ sizeT p ≤ l) has (fun Q E q => (a1 (d := .tok) (fun Q E q => q) (a1 (d := .int ((b + c : Nat) : Int)) (ev_op (x := .int b) (y := .int c) (fun Q E q => q) (fun Q E q => q) fun Q q => q) (a1 hmx a0))) _ _ ⟨rfl, b + c, max 1 (l / 2), rfl, rfl, by omega, by omega, by omega, by omega, fun p hp hps => q _ ⟨p, rfl, hp, by omega⟩⟩) ?_
      · rintro _ ⟨p, rfl, hp, hps⟩
        have hpp := size_pos p
        refine end_v (.int ((l - sizeT p : Nat) : Int)) (ev_op (x := .int l) (y := .int (sizeT p : Nat)) (fun Q E q => q) (ev_viewL (xs := as.map ptD ++ [ptD p]) rfl rfl (ev_cb (a1 (d := .lst ((partsT p).map ptD)) (ev_call (a1 (d := ptD p) (ev_op (x := .lst (as.map ptD ++ [ptD p])) (y := .int (-1)) (fun Q E q => q) (fun Q E q => q) fun Q q => ⟨_, at_last (by simp), q⟩) a0) rfl fun Q E q => ⟨p, rfl, by omega, by omega, q⟩) a0) fun Q q => by
          show Q (.int (((partsT p).map ptD).length : Nat))
          rw [List.length_map, parts_lenT]
          exact q)) fun Q q => by
          show Q (.int ((l : Int) - (sizeT p : Nat)))
          rw [show (l : Int) - (sizeT p : Nat) = ((l - sizeT p : Nat) : Int) by omega]
          exact q) (hK _ ⟨as ++ [p], l - sizeT p, .d x, ?_, drTs_app hsc ?_, ?_, ?_⟩)
        · rw [List.length_append, List.length_singleton]
          omega
        · rw [drTs]
          exact ⟨hp, trivial⟩
        · rw [sizeTs_app, sizeTs, sizeTs]
          omega
        · rw [List.map_append]
          rfl
theorem rs__law_drawn {P : Program} {w : World} {mg : Gm} {base : Heap} {Z : Ads} (A : All mg Z) (G__law_pick : DefOk P w mg base 2 "_law_pick" 2 f_pick) (G__law_program_parts : DefOk P w mg base 62 "_law_program_parts" 1 (f_ppartsT 61)) (G__law_roll : DefOk P w mg base 1 "_law_roll" 2 f_roll) : ∀ d : Nat, DefOk P w mg base (d + 63) "_law_drawn" 3 (f_drawnL wL15 d)
  | 0 => nv__law_drawn A
  | d + 1 => ok__law_drawn A (rs__law_drawn A G__law_pick G__law_program_parts G__law_roll d) G__law_pick G__law_program_parts G__law_roll
theorem nv__law_program_text {P : Program} {w : World} {mg : Gm} {base : Heap} {Z : Ads} {k : Nat} (A : All mg Z) : DefOk P w mg base k "_law_program_text" 2 (f_lptext 0) :=
  (DefOk.never (ps := ["_law_program", "_law_bound"]) A.d__law_program_text (fun _ _ _ _ _ _ us hl => match us, hl with | [_, _], _ => rfl)).mono (Nat.le_refl _) (nope_lptext)
theorem ok__law_program_text {P : Program} {w : World} {mg : Gm} {base : Heap} {Z : Ads} {d : Nat} (A : All mg Z) (G__law_program_text : DefOk P w mg base (d + 1) "_law_program_text" 2 (f_lptext d)) : DefOk P w mg base (d + 2) "_law_program_text" 2 (f_lptext (d + 1)) := by
  refine mkDef (N := ["_law_program", "_law_bound", "_law_words", "_law_one", "_law_names", "_law_text", "_law_at"]) (ps := ["_law_program", "_law_bound"]) A.d__law_program_text sc__law_program_text (fun _ _ _ _ _ _ us hl => match us, hl with | [_, _], _ => rfl) fun fa cdv Ar outer s H E hr => ⟨_,
    (dss_cons (ds_setO (i := 2) (do_lst (da_cons (de_ix (de_var 0) de_int) da_nil)) (fun _ => sc__law_program_text.nd))
    (dss_cons (ds_for (di_tup (de_ix (de_var 0) de_int)) (dg_name (i := 3) (fun _ => sc__law_program_text.nd))
    (dss_cons (ds_set (i := 5) (de_call G__law_program_text (fun _ => hr.mono (by omega)) (fun _ => pas (takes_of rfl rfl rfl rfl)) (da_cons (de_var 3) (da_cons (de_op ok_add (de_var 1) (de_ix (de_var 0) de_int)) da_nil))) (fun _ => sc__law_program_text.nd))
    (dss_one (ds_append 2 (de_if (dt_w (dw_and (dt_cmp (ok_eq (fun _ => hr.r.units)) (de_ix (de_var 3) de_int) de_int) (dw_and1 (dt_cmp (ok_eqT0 (fun _ => hr.r.units)) (de_ix (de_var 3) de_int) (de_tup da_nil))))) (de_var 5) (de_op ok_add (de_op ok_add de_str (de_var 5)) de_str)) (pe := fun _ _ h => ps_expr (pe_bm PySem.F.plainAttrs_list PySem.F.slot_list_append PySem.F.type_list_append mt_append (pv 2) (pa_cons h pa_nil)))))) (fun _ => passes_of rfl))
    (dss_cons (ds_setLc (i := 4) (own := [("_law_at", 6)]) (fun _ => sc__law_program_text.nd) (di_range1 A.n_range (da_cons (de_ix (de_var 0) de_int) da_nil)) (fun _ => blkOk_by (by kernel_rfl)) (dg_name (i := 6) (fun _ => sc__law_program_text.nd)) dts_nil (de_op ok_add de_str (de_callTy ok_str A.n_str FP.boot_str (da_cons (de_op ok_add (de_var 1) (de_var 6)) da_nil))) (fun _ => sw_true rfl rfl rfl (by decide +kernel)))
    (dss_one (ds_frz 2 (ds_ret (de_op ok_add (de_if (dt_cmp (ok_ne (fun _ => hr.r.units)) (de_var 4) (de_lst da_nil)) (de_op ok_add (de_op ok_add de_str (de_join de_str (de_var 4))) de_str) de_str) (de_join de_str (de_var 2))))))))),  fun ds Q Ex hl hf => ?_⟩
  match ds, hl, hf with
  | [_, .int _], _, ⟨W, p, bd, hW, rfl, rfl, hs, hd, h60, hq⟩ =>
    have e0 : startD 7 [ptD p, .int bd] = [Sl.d (ptD p), Sl.d (.int bd), Sl.no, Sl.no, Sl.no, Sl.no, Sl.no] := rfl
    have hnN : (["_law_program", "_law_bound", "_law_words", "_law_one", "_law_names", "_law_text", "_law_at"] : List Str).length = 7 := rfl
    rw [hnN, e0]
    clear e0 hnN
    cases p with
    | mk b h as =>
    have hs2 := hs
    rw [scT] at hs2
    obtain ⟨hb, hal, hbb, hh, hsa⟩ := hs2
    have hsz := h60
    rw [sizeT] at hsz hd
    have hlen1 := args_len hW as (bd + b) hsa
    have hlh := scH.len hW hbb hh
    have hargs : (argsT (bd + b) as).length = as.length := by rw [argsT_map, List.length_map]
    rw [ptD_eq]
    refine seq_o1 (.str h) (ev_op (x := .tup [.int (b : Nat), .str h, .tup (as.map ptD)]) (y := .int 1) (fun Q E q => q) (fun Q E q => q) fun Q q => ⟨_, rfl, q⟩) ?_
    refine seq_for (as.map ptD) (fun Q E q => ⟨_, rfl, q⟩) ?_
    refine for_of ptD (fun pre ρ => ∃ o t, ρ = [Sl.d (.tup [.int (b : Nat), .str h, .tup (as.map ptD)]), Sl.d (.int bd), Sl.own ((h :: argsT (bd + b) pre).map .str), o, Sl.no, t, Sl.no]) as [] _ ⟨_, _, rfl⟩ ?_ ?_
    · rintro j pre post eq ρ K ⟨o, t, rfl⟩ hK
      rw [List.nil_append] at eq
      have hmem : j ∈ as := by rw [eq]; simp
      have hj := scTs_mem hsa j hmem
      have hz := size_in hmem
      have htl := txt_len hW j (bd + b) hj
      have hpl : pre.length ≤ 15 := by
        have := congrArg List.length eq
        rw [List.length_append, List.length_cons] at this
        omega
      refine ⟨_, rfl, ?_⟩
      refine seq_v (.str (textT (bd + b) j)) (ev_call (a1 (fun Q E q => q) (a1 (d := .int ((bd + b : Nat) : Int)) (ev_op (x := .int bd) (y := .int (b : Nat)) (fun Q E q => q) (ev_op (x := .tup [.int (b : Nat), .str h, .tup (as.map ptD)]) (y := .int 0) (fun Q E q => q) (fun Q E q => q) fun Q q => ⟨_, rfl, q⟩) fun Q q => q) a0)) rfl fun Q E q => ⟨W, j, bd + b, hW, rfl, rfl, hj, by omega, by omega, q⟩) ?_
      cases j with
      | mk jb jh jas =>
      rw [ptD_eq]
      refine end_app rfl (.str (parT (flatT (.mk jb jh jas)) (textT (bd + b) (.mk jb jh jas)))) ?_ (ev_if (b := decide (jb = 0) && jas.isEmpty) (and_v (b_v (ev_op (x := .int (jb : Nat)) (y := .int 0) (ev_op (x := .tup [.int (jb : Nat), .str jh, .tup (jas.map ptD)]) (y := .int 0) (fun Q E q => q) (fun Q E q => q) fun Q q => ⟨_, rfl, q⟩) (fun Q E q => q) fun Q q => eq_int ?_)) fun _ => b_v (ev_op (x := .tup (jas.map ptD)) (y := .tup []) (ev_op (x := .tup [.int (jb : Nat), .str jh, .tup (jas.map ptD)]) (y := .int 2) (fun Q E q => q) (fun Q E q => q) fun Q q => ⟨_, rfl, q⟩) (ev_tup a0 (line rfl)) fun Q q => ?_)) (fun hc => Ev.eq (fun Q E q => q) ?_) fun hc => Ev.eq (ev_op (x := .str (("(" : Str) ++ textT (bd + b) (.mk jb jh jas))) (y := .str ")") (ev_op (x := .str "(") (y := .str (textT (bd + b) (.mk jb jh jas))) (fun Q E q => q) (fun Q E q => q) fun Q q => ⟨?_, q⟩) (fun Q E q => q) fun Q q => ⟨?_, q⟩) ?_) (hK _ ⟨.d (.tup [.int (jb : Nat), .str jh, .tup (jas.map ptD)]), .d (.str (textT (bd + b) (.mk jb jh jas))), ?_⟩)
      · rw [List.length_map, List.length_cons, argsT_map, List.length_map]
        exact Nat.lt_of_le_of_lt (show pre.length + 1 ≤ 16 by omega) (by decide)
      · rw [show decide (((jb : Nat) : Int) = 0) = decide (jb = 0) from decide_eq_decide.mpr ⟨fun h => by omega, fun h => by omega⟩]
        exact q
      · show Q (.bl (jas.map ptD).isEmpty)
        rw [List.isEmpty_map]
        exact q
      · have hf : flatT (.mk jb jh jas) = true := hc
        rw [hf]
        rfl
      · have e1 : ("(" : Str).length = 1 := by decide +kernel
        rw [e1]
        exact Nat.le_trans (show _ ≤ 10000 by omega) (by decide)
      · have e1 : ("(" : Str).length = 1 := by decide +kernel
        have e2 : (")" : Str).length = 1 := by decide +kernel
        rw [len_app, e1, e2]
        exact Nat.le_trans (show _ ≤ 10000 by omega) (by decide)
      · have hf : flatT (.mk jb jh jas) = false := hc
        rw [hf]
        rfl
      · have e : h :: argsT (bd + b) (pre ++ [.mk jb jh jas]) = (h :: argsT (bd + b) pre) ++ [parT (flatT (.mk jb jh jas)) (textT (bd + b) (.mk jb jh jas))] := by
          rw [argsT_map, List.map_append, argsT_map, List.cons_append]
          rfl
        rw [e, List.map_append]
        rfl
    · rintro ρ ⟨o, t, rfl⟩
      rw [List.nil_append]
      dsimp only
      refine seq_v (.lst ((xsL bd b).map .str)) (Ev.eq (ev_lc (fun k : Nat => D.int ((0 : Int) + k)) (fun k => .str (xS (bd + k))) (xs := List.range b) (fun Q E q => (ev_op (d := .int (b : Nat)) (x := .tup [.int (b : Nat), .str h, .tup (as.map ptD)]) (y := .int 0) (fun Q E q => q) (fun Q E q => q) fun Q q => ⟨_, rfl, q⟩) _ _ ⟨by omega, by omega, by rw [Int.toNat_natCast]; exact q⟩) (size_small (by rw [List.length_range]; omega)) fun k hk => ⟨_, rfl, ev_xs (by have := List.mem_range.mp hk; omega) (ev_op (x := .int bd) (y := .int ((0 : Int) + k)) (fun Q E q => q) (fun Q E q => q) fun Q q => by
        show Q (.int ((bd : Int) + ((0 : Int) + k)))
        rw [show (bd : Int) + ((0 : Int) + k) = ((bd + k : Nat) : Int) by omega]
        exact q)⟩) (by unfold xsL; rw [List.map_map]; rfl)) ?_
      have hj := join1_len (h :: argsT (bd + b) as)
      rw [List.map_cons, List.sum_cons, List.length_cons] at hj
      have hht := headT_len hb hbb
      have hxs : ∀ z ∈ xsL bd b, PyData.strOk z = true := fun z hz => by
        unfold xsL at hz
        obtain ⟨k, hk, rfl⟩ := List.mem_map.mp hz
        have hk := List.mem_range.mp hk
        exact (x_ok (bd + k) (by omega)).1
      have hsp : (" " : Str).length = 1 := by decide +kernel
      have hns := names_sum hbb
      refine frz_ret rfl (ret_v (.str (textT bd (.mk b h as))) (ev_op (x := .str (headT bd b)) (y := .str (Str.join " " (h :: argsT (bd + b) as))) (ev_if (b := !((xsL bd b).map D.str).isEmpty) (b_v (ev_op (x := .lst ((xsL bd b).map .str)) (y := .lst []) (fun Q E q => q) (ev_lst a0 (line rfl)) fun Q q => neNil (sh_strs hxs) q)) (fun hp => ?_) fun hp => Ev.eq (fun Q E q => q) ?_) (ev_joinS (fun Q E q => q) (fun Q E q => q) ?_) fun Q q => ⟨?_, ?_⟩) hq)
      · have hb0 : ¬ b = 0 := fun e => by
          rw [e] at hp
          cases hp
        have h2 := join1_len (xsL bd b)
        rw [xsL_len] at h2
        have e1 : ("\\" : Str).length = 1 := by decide +kernel
        have e2 : (". " : Str).length = 2 := by decide +kernel
        refine (ev_op (x := .str (("\\" : Str) ++ Str.join " " (xsL bd b))) (y := .str ". ") (ev_op (x := .str "\\") (y := .str (Str.join " " (xsL bd b))) (fun Q E q => q) (ev_joinS (fun Q E q => q) (fun Q E q => q) (by rw [xsL_len, hsp]; omega)) fun Q q => ⟨by rw [e1]; exact size_small (by omega), q⟩) (fun Q E q => q) fun Q q => ⟨by rw [len_app, e1, e2]; exact size_small (by omega), q⟩).eq ?_
        unfold headT
        rw [if_neg hb0]
      · have hb0 : b = 0 := by
          cases b with
          | zero => rfl
          | succ b =>
            unfold xsL at hp
            rw [List.range_succ_eq_map] at hp
            exact absurd hp (by simp)
        unfold headT
        rw [if_pos hb0]
      · rw [List.map_cons, List.sum_cons, List.length_cons, hsp]
        omega
      · exact Nat.le_trans (show _ ≤ 10000 by omega) (by decide)
      · rw [textT] at q
        exact q
theorem rs__law_program_text {P : Program} {w : World} {mg : Gm} {base : Heap} {Z : Ads} (A : All mg Z) : ∀ d : Nat, DefOk P w mg base (d + 1) "_law_program_text" 2 (f_lptext d)
  | 0 => nv__law_program_text A
  | d + 1 => ok__law_program_text A (rs__law_program_text A d)
end K15
namespace K15
open PySem L2 FP
variable [FP.Tabl]
open KP
theorem nv__law_places_right {P : Program} {w : World} {mg : Gm} {base : Heap} {Z : Ads} {k : Nat} (A : All mg Z) : DefOk P w mg base k "_law_places_right" 4 (f_places 0) :=
  (DefOk.never (ps := ["_law_made", "_law_program", "_law_at", "_law_above"]) A.d__law_places_right (fun _ _ _ _ _ _ us hl => match us, hl with | [_, _, _, _], _ => rfl)).mono (Nat.le_refl _) (nope_places)
theorem ok__law_places_right {P : Program} {w : World} {mg : Gm} {base : Heap} {Z : Ads} {d : Nat} (A : All mg Z) (G_Program___getitem__ : SpecOk P w mg base 4 Z.a_Program "__getitem__" 2 (f_atP fun q _ _ => nodD (q.b, q.h, q.as.length))) (G_Program_arguments : MethOk P w mg base 4 Z.a_Program "arguments" 2 (f_atP fun q _ i => kidD (startsT (i + 1) q.as))) (G_Program_bound : MethOk P w mg base 4 Z.a_Program "bound" 2 (f_atP fun _ bd _ => .int (bd : Nat))) (G_Program_end : MethOk P w mg base 4 Z.a_Program "end" 2 (f_atP fun q _ i => .int ((i + sizeT q : Nat) : Int))) (G_Program_nodes : PropOk P w mg base 1 Z.a_Program "nodes" f_nodesT) (G_Program_way_to : MethOk P w mg base 4 Z.a_Program "way_to" 2 f_wayP) (G__law_places_right : DefOk P w mg base (d + 10) "_law_places_right" 4 (f_places d)) : DefOk P w mg base (d + 11) "_law_places_right" 4 (f_places (d + 1)) := by
  refine mkDef (N := ["_law_made", "_law_program", "_law_at", "_law_above", "_law_bound", "_law_kids", "_law_end", "_law_one", "_law_place"]) (ps := ["_law_made", "_law_program", "_law_at", "_law_above"]) A.d__law_places_right sc__law_places_right (fun _ _ _ _ _ _ us hl => match us, hl with | [_, _, _, _], _ => rfl) fun fa cdv Ar outer s H E hr => ⟨_,
    (dss_cons (ds_set (i := 4) (de_callB ok_sum A.n_sum FP.boot_sum (da_cons (de_lc (own := [("_law_place", 8)]) (fun _ => sc__law_places_right.nd) (di_list (de_var 3)) (fun _ => blkOk_by (by kernel_rfl)) (dg_name (i := 8) (fun _ => sc__law_places_right.nd)) dts_nil (de_ix (de_ix (de_prop A.kc_Program G_Program_nodes (fun _ => hr.mono (by omega)) (de_var 0)) (de_var 8)) de_int)) da_nil)) (fun _ => sc__law_places_right.nd))
    (dss_cons (ds_if (dt_w (dw_or (dt_cmp (ok_ne (fun _ => hr.r.units)) (de_meth A.kc_Program G_Program_bound (fun _ => hr.mono (by omega)) (fun _ => pas (takes_of rfl rfl rfl rfl)) (de_var 0) (da_cons (de_var 2) da_nil)) (de_var 4)) (dw_or (dt_cmp (ok_ne (fun _ => hr.r.units)) (de_meth A.kc_Program G_Program_way_to (fun _ => hr.mono (by omega)) (fun _ => pas (takes_of rfl rfl rfl rfl)) (de_var 0) (da_cons (de_var 2) da_nil)) (de_callTy ok_tuple A.n_tuple FP.boot_tuple (da_cons (de_op ok_add (de_var 3) (de_lst (da_cons (de_var 2) da_nil))) da_nil))) (dw_or1 (dt_cmp (ok_ne (fun _ => hr.r.units)) (de_ixM A.kc_Program G_Program___getitem__ (fun _ => hr.mono (by omega)) (de_var 0) (de_var 2)) (de_ix (de_prop A.kc_Program G_Program_nodes (fun _ => hr.mono (by omega)) (de_var 0)) (de_var 2)))))))
    (dss_one (ds_ret (de_neg de_int)))
    dss_nil)
    (dss_cons (ds_parO (i := 5) (j := 6) (do_lst da_nil) (de_op ok_add (de_var 2) de_int) (fun _ => sc__law_places_right.nd))
    (dss_cons (ds_for (di_tup (de_ix (de_var 1) de_int)) (dg_name (i := 7) (fun _ => sc__law_places_right.nd))
    (dss_cons (ds_append 5 (de_var 6) (pe := fun _ _ h => ps_expr (pe_bm PySem.F.plainAttrs_list PySem.F.slot_list_append PySem.F.type_list_append mt_append (pv 5) (pa_cons h pa_nil))))
    (dss_one (ds_set (i := 6) (de_if (dt_cmp ok_gt (de_var 6) de_int) (de_call G__law_places_right (fun _ => hr.mono (by omega)) (fun _ => pas (takes_of rfl rfl rfl rfl)) (da_cons (de_var 0) (da_cons (de_var 7) (da_cons (de_var 6) (da_cons (de_op ok_add (de_var 3) (de_lst (da_cons (de_var 2) da_nil))) da_nil))))) (de_neg de_int)) (fun _ => sc__law_places_right.nd)))) (fun _ => passes_of rfl))
    (dss_one (ds_frz 5 (ds_ret (de_if (dt_w (dw_and (dt_cmp (ok_eq (fun _ => hr.r.units)) (de_meth A.kc_Program G_Program_arguments (fun _ => hr.mono (by omega)) (fun _ => pas (takes_of rfl rfl rfl rfl)) (de_var 0) (da_cons (de_var 2) da_nil)) (de_callTy ok_tuple A.n_tuple FP.boot_tuple (da_cons (de_var 5) da_nil))) (dw_and1 (dt_cmp (ok_eq (fun _ => hr.r.units)) (de_meth A.kc_Program G_Program_end (fun _ => hr.mono (by omega)) (fun _ => pas (takes_of rfl rfl rfl rfl)) (de_var 0) (da_cons (de_var 2) da_nil)) (de_var 6))))) (de_var 6) (de_neg de_int))))))))),  fun ds Q Ex hl hf => ?_⟩
  match ds, hl, hf with
  | [_, _, .int _, .lst _], _, ⟨W, p, q, bd, i, above, rfl, hg, rfl, rfl, rfl, ha, hab, hsum, hlt, hal, hd, hq⟩ =>
    have e0 : startD 9 [progD p, ptD q, .int i, .lst (natsD above)] = [Sl.d (progD p), Sl.d (ptD q), Sl.d (.int i), Sl.d (.lst (natsD above)), Sl.no, Sl.no, Sl.no, Sl.no, Sl.no] := rfl
    have hnN : (["_law_made", "_law_program", "_law_at", "_law_above", "_law_bound", "_law_kids", "_law_end", "_law_one", "_law_place"] : List Str).length = 9 := rfl
    rw [hnN, e0]
    clear e0 hnN
    have hz := hg.z
    have hai := ha.lt
    have hqp := size_pos q
    have evN : ∀ ρ : FP.Env, ρ[0]? = some (.d (progD p)) → Ev (dProp "Program" f_nodesT (dVar 0)) ρ (.tup ((nodesT p).map nodD)) := fun ρ hr => ev_prop (fs := progT p) (fun Q E q' => by
      show (match ρ[0]? with | some (Sl.d x) => Q x | _ => False)
      rw [hr]
      exact q') fun Q q' => ⟨p, rfl, q'⟩
    refine seq_v (.int (bd : Nat)) (ev_cb (a1 (d := .lst (natsD (above.map fun j => ((nodesT p).getD j (0, Str.empty, 0)).1))) (Ev.eq (ev_lc (fun j : Nat => D.int (j : Nat)) (fun j => .int (((nodesT p).getD j (0, Str.empty, 0)).1 : Nat)) (xs := above) (fun Q E q => q) (size_small (by omega)) fun j hj => ⟨_, rfl, ev_op (x := nodD ((nodesT p).getD j (0, Str.empty, 0))) (y := .int 0) (ev_op (x := .tup ((nodesT p).map nodD)) (y := .int j) (evN _ rfl) (fun Q E q => q) fun Q q' => ⟨_, at_of rfl ?_, q'⟩) (fun Q E q => q) fun Q q' => ⟨_, rfl, q'⟩⟩) (by unfold natsD; rw [List.map_map]; rfl)) a0) fun Q q' => ⟨_, intsD_nats _, ?_⟩) ?_
    · have hjl : j < (nodesT p).length := by
        rw [nodes_len]
        have := hlt j hj
        omega
      rw [List.getElem?_map, List.getD_eq_getElem?_getD, List.getElem?_eq_getElem hjl]
      rfl
    · show Q (.int ((above.map fun j => ((nodesT p).getD j (0, Str.empty, 0)).1).map fun k : Nat => (k : Int)).sum)
      rw [sum_cast]
      unfold sumAt at hsum
      rw [hsum]
      exact q'
    have hin := fun n hn => scH.ok hg.w (good_T hg.w p 0 hg.s n hn).2
    cases q with
    | mk b h as =>
    have hnode := AtP.node ha
    have hmem := List.mem_of_getElem? hnode
    have hhs : PyData.strOk h = true := (hin _ hmem).1
    refine seq_ifF (or_f (b_v (ev_op (x := .int (bd : Nat)) (y := .int (bd : Nat)) (ev_meth (fs := progT p) (ds := [.int i]) (fun Q E q => q) rfl (a1 (fun Q E q => q) a0) rfl fun Q E q' => ⟨p, _, bd, i, rfl, hz, rfl, ha, q'⟩) (fun Q E q => q) fun Q q' => ne_int0 rfl q')) (or_f (b_v (ev_op (x := .tup (natsD (above ++ [i]))) (y := .tup (natsD (above ++ [i]))) (ev_meth (fs := progT p) (ds := [.int i]) (fun Q E q => q) rfl (a1 (fun Q E q => q) a0) rfl fun Q E q' => ⟨p, _, bd, i, above, rfl, hz, rfl, ha, hab, q'⟩) (ev_cb (a1 (d := .lst (natsD above ++ [.int i])) (ev_op (x := .lst (natsD above)) (y := .lst [.int i]) (fun Q E q => q) (ev_lst (a1 (fun Q E q => q) a0) (line rfl)) fun Q q' => ⟨by rw [intsD_len]; exact size_small (by show _ + 1 ≤ 1000; omega), q'⟩) a0) fun Q q' => by
      show Q (.tup (natsD above ++ [.int i]))
      rw [show natsD above ++ [D.int (i : Nat)] = natsD (above ++ [i]) by unfold natsD; rw [List.map_append]; rfl]
      exact q') fun Q q' => ne_refl (sh_tup (sh_ints _)) rfl q')) (b_v (ev_op (x := nodD (b, h, as.length)) (y := nodD (b, h, as.length)) (ev_op (x := progD p) (y := .int i) (fun Q E q => q) (fun Q E q => q) fun Q q' => ⟨rfl, p, _, bd, i, rfl, hz, rfl, ha, q'⟩) (ev_op (x := .tup ((nodesT p).map nodD)) (y := .int i) (evN _ rfl) (fun Q E q => q) fun Q q' => ⟨_, at_of rfl (by rw [List.getElem?_map, hnode]; rfl), q'⟩) fun Q q' => ne_refl (sh_tup (sh_cons sh_int (sh_cons (sh_str hhs) (sh_cons sh_int sh_nil)))) rfl q')))) ?_
    rw [sizeT] at hai hd hq
    refine seq_parO (xs := []) (.int ((i + 1 : Nat) : Int)) (fun Q E q' => ⟨line rfl, q'⟩) (ev_op (x := .int i) (y := .int 1) (fun Q E q => q) (fun Q E q => q) fun Q q' => q') ?_
    rw [ptD_eq]
    refine seq_for (as.map ptD) (fun Q E q' => ⟨_, rfl, q'⟩) ?_
    refine for_of ptD (fun pre ρ => ∃ o, ρ = [Sl.d (progD p), Sl.d (.tup [.int (b : Nat), .str h, .tup (as.map ptD)]), Sl.d (.int i), Sl.d (.lst (natsD above)), Sl.d (.int (bd : Nat)), Sl.own (natsD (startsT (i + 1) pre)), Sl.d (.int ((i + 1 + sizeTs pre : Nat) : Int)), o, Sl.no]) as [] _ ⟨_, rfl⟩ ?_ ?_
    · rintro j pre post eq ρ K ⟨o, rfl⟩ hK
      rw [List.nil_append] at eq
      have hpl : pre.length ≤ 40 := by
        have h1 := sizeTs_len as
        have h2 := congrArg List.length eq
        rw [List.length_append, List.length_cons] at h2
        omega
      have hs : sizeTs as = sizeTs pre + (sizeT j + sizeTs post) := by rw [eq, sizeTs_app, sizeTs]
      have hjp := size_pos j
      refine ⟨_, rfl, ?_⟩
      refine seq_app rfl (.int ((i + 1 + sizeTs pre : Nat) : Int)) (by rw [intsD_len, startsT_len]; exact Nat.lt_of_le_of_lt hpl (by decide)) (fun Q E q => q) ?_
      refine end_v (.int ((i + 1 + sizeTs pre + sizeT j : Nat) : Int)) (ev_if (b := true) (b_v (ev_op (x := .int ((i + 1 + sizeTs pre : Nat) : Int)) (y := .int 0) (fun Q E q => q) (fun Q E q => q) fun Q q' => ?_)) (fun _ => ev_call (ds := [progD p, ptD j, .int ((i + 1 + sizeTs pre : Nat) : Int), .lst (natsD (above ++ [i]))]) (a1 (fun Q E q => q) (a1 (fun Q E q => q) (a1 (fun Q E q => q) (a1 (ev_op (x := .lst (natsD above)) (y := .lst [.int i]) (fun Q E q => q) (ev_lst (a1 (fun Q E q => q) a0) (line rfl)) fun Q q' => ⟨by rw [intsD_len]; exact size_small (by show _ + 1 ≤ 1000; omega), ?_⟩) a0)))) rfl fun Q E q' => ?_) fun h => by cases h) (hK _ ⟨.d (ptD j), ?_⟩)
      · show Q (.bl (decide ((0 : Int) < ((i + 1 + sizeTs pre : Nat) : Int))))
        rw [decide_eq_true (by omega)]
        exact q'
      · rw [show natsD above ++ [D.int (i : Nat)] = natsD (above ++ [i]) by unfold natsD; rw [List.map_append]; rfl]
        exact q'
      · rw [eq] at ha hab
        refine ⟨W, p, j, bd + b, i + 1 + sizeTs pre, above ++ [i], rfl, hg, rfl, rfl, rfl, AtP.kid ha, AbE.kid ha hab, ?_, fun x hx => ?_, ?_, by omega, q'⟩
        · unfold sumAt at hsum ⊢
          rw [List.map_append, List.sum_append, hsum, List.map_cons, List.map_nil, List.sum_cons, List.sum_nil, List.getD_eq_getElem?_getD, hnode]
          rfl
        · rcases List.mem_append.mp hx with hx | hx
          · have := hlt x hx
            omega
          · rw [List.mem_singleton.mp hx]
            omega
        · rw [List.length_append, List.length_singleton]
          omega
      · rw [startsT_app, show natsD (startsT (i + 1) pre ++ startsT (i + 1 + sizeTs pre) [j]) = natsD (startsT (i + 1) pre) ++ [.int ((i + 1 + sizeTs pre : Nat) : Int)] by unfold natsD; rw [List.map_append]; rfl, sizeTs_app, sizeTs, sizeTs, Nat.add_zero, ← Nat.add_assoc]
        rfl
    · rintro ρ ⟨o, rfl⟩
      rw [List.nil_append]
      dsimp only
      refine frz_ret rfl (ret_v (.int ((i + (1 + sizeTs as) : Nat) : Int)) (ev_if (b := true) (and_t (b_v (ev_op (x := kidD (startsT (i + 1) as)) (y := kidD (startsT (i + 1) as)) (ev_meth (fs := progT p) (ds := [.int i]) (fun Q E q => q) rfl (a1 (fun Q E q => q) a0) rfl fun Q E q' => ⟨p, _, bd, i, rfl, hz, rfl, ha, q'⟩) (ev_cb (a1 (d := .lst (natsD (startsT (i + 1) as))) (fun Q E q => q) a0) fun Q q' => q') fun Q q' => eq_refl (sh_tup (sh_ints _)) rfl q')) (b_v (ev_op (x := .int ((i + (1 + sizeTs as) : Nat) : Int)) (y := .int ((i + (1 + sizeTs as) : Nat) : Int)) (ev_meth (fs := progT p) (ds := [.int i]) (fun Q E q => q) rfl (a1 (fun Q E q => q) a0) rfl fun Q E q' => ⟨p, _, bd, i, rfl, hz, rfl, ha, by show Q (.int ((i + sizeT (.mk b h as) : Nat) : Int)); rw [sizeT]; exact q'⟩) (Ev.eq (fun Q E q => q) (by rw [Nat.add_assoc])) fun Q q' => eq_int (by rw [decide_eq_true rfl]; exact q')))) (fun _ => Ev.eq (fun Q E q => q) (by rw [Nat.add_assoc])) fun h => by cases h) hq)
theorem rs__law_places_right {P : Program} {w : World} {mg : Gm} {base : Heap} {Z : Ads} (A : All mg Z) (G_Program___getitem__ : SpecOk P w mg base 4 Z.a_Program "__getitem__" 2 (f_atP fun q _ _ => nodD (q.b, q.h, q.as.length))) (G_Program_arguments : MethOk P w mg base 4 Z.a_Program "arguments" 2 (f_atP fun q _ i => kidD (startsT (i + 1) q.as))) (G_Program_bound : MethOk P w mg base 4 Z.a_Program "bound" 2 (f_atP fun _ bd _ => .int (bd : Nat))) (G_Program_end : MethOk P w mg base 4 Z.a_Program "end" 2 (f_atP fun q _ i => .int ((i + sizeT q : Nat) : Int))) (G_Program_nodes : PropOk P w mg base 1 Z.a_Program "nodes" f_nodesT) (G_Program_way_to : MethOk P w mg base 4 Z.a_Program "way_to" 2 f_wayP) : ∀ d : Nat, DefOk P w mg base (d + 10) "_law_places_right" 4 (f_places d)
  | 0 => nv__law_places_right A
  | d + 1 => ok__law_places_right A G_Program___getitem__ G_Program_arguments G_Program_bound G_Program_end G_Program_nodes G_Program_way_to (rs__law_places_right A G_Program___getitem__ G_Program_arguments G_Program_bound G_Program_end G_Program_nodes G_Program_way_to d)
theorem ok__law_is_ahead {P : Program} {w : World} {mg : Gm} {base : Heap} {Z : Ads} (A : All mg Z) : DefOk P w mg base 1 "_law_is_ahead" 2 f_isahead := by
  refine mkDef (N := ["_law_one", "_law_other"]) (ps := ["_law_one", "_law_other"]) A.d__law_is_ahead sc__law_is_ahead (fun _ _ _ _ _ _ us hl => match us, hl with | [_, _], _ => rfl) fun fa cdv Ar outer s H E hr => ⟨_,
    (dss_one (ds_ret (de_or (de_cmp ok_lt (de_callB ok_len A.n_len FP.boot_len (da_cons (de_var 0) da_nil)) (de_callB ok_len A.n_len FP.boot_len (da_cons (de_var 1) da_nil))) (de_one (de_and (de_cmp (ok_eq (fun _ => hr.r.units)) (de_callB ok_len A.n_len FP.boot_len (da_cons (de_var 0) da_nil)) (de_callB ok_len A.n_len FP.boot_len (da_cons (de_var 1) da_nil))) (de_one (de_cmp (ok_ltD (fun _ => hr.r.units)) (de_var 0) (de_var 1)))))))),  fun ds Q Ex hl hf => ?_⟩
  match ds, hl, hf with
  | [.lst _, .lst _], _, ⟨ns, ms, rfl, rfl, hq⟩ =>
    have e0 : startD 2 [.lst (ns.map nodD), .lst (ms.map nodD)] = [Sl.d (.lst (ns.map nodD)), Sl.d (.lst (ms.map nodD))] := rfl
    have hnN : (["_law_one", "_law_other"] : List Str).length = 2 := rfl
    rw [hnN, e0]
    clear e0 hnN
    have evL : ∀ (i : Nat) (ks : List Nod) (ρ : FP.Env), ρ[i]? = some (.d (.lst (ks.map nodD))) → Ev (dCB rdLen (dCons (dVar i) dNil)) ρ (.int (ks.length : Nat)) := fun i ks ρ hr => ev_cb (a1 (d := .lst (ks.map nodD)) (fun Q E q => by
      show (match ρ[i]? with | some (Sl.d x) => Q x | _ => False)
      rw [hr]
      exact q) a0) fun Q q => by
      show Q (.int ((ks.map nodD).length : Nat))
      rw [List.length_map]
      exact q
    rw [ahead_eq] at hq
    refine ret_v (.bl (decide (ns.length < ms.length) || (decide (ns.length = ms.length) && PySem.W.dataLt (.list (pyN ns)) (.list (pyN ms))))) (ev_orV (ev_op (x := .int (ns.length : Nat)) (y := .int (ms.length : Nat)) (evL 0 ns _ rfl) (evL 1 ms _ rfl) fun Q q => ?_) fun _ => ev_andV (ev_op (x := .int (ns.length : Nat)) (y := .int (ms.length : Nat)) (evL 0 ns _ rfl) (evL 1 ms _ rfl) fun Q q => eq_int ?_) fun _ => ev_op (x := .lst (ns.map nodD)) (y := .lst (ms.map nodD)) (fun Q E q => q) (fun Q E q => q) fun Q q => ltList q) hq
    · show Q (.bl (decide (((ns.length : Nat) : Int) < ((ms.length : Nat) : Int))))
      rw [show decide (((ns.length : Nat) : Int) < ((ms.length : Nat) : Int)) = decide (ns.length < ms.length) from decide_eq_decide.mpr ⟨fun h => by omega, fun h => by omega⟩]
      exact q
    · rw [show decide (((ns.length : Nat) : Int) = ((ms.length : Nat) : Int)) = decide (ns.length = ms.length) from decide_eq_decide.mpr ⟨fun h => by omega, fun h => by omega⟩]
      exact q
end K15
namespace K15
open PySem L2 FP
variable [FP.Tabl]
open KP
theorem ok__law_right {P : Program} {w : World} {mg : Gm} {base : Heap} {Z : Ads} (A : All mg Z) (G_Program___contains__ : SpecOk P w mg base 3 Z.a_Program "__contains__" 2 f_contP) (G_Program___eq__ : SpecOk P w mg base 1 Z.a_Program "__eq__" 2 f_eqP) (G_Program___init__ : InitOk P w mg base 5 "Program" Z.a_Program 1 f_initPN) (G_Program___len__ : SpecOk P w mg base 1 Z.a_Program "__len__" 1 f_sizeP) (G_Program___str__ : SpecOk P w mg base 126 Z.a_Program "__str__" 1 f_textP) (G_Program_comes_ahead : MethOk P w mg base 1 Z.a_Program "comes_ahead" 2 f_aheadP) (G_Program_counts : PropOk P w mg base 3 Z.a_Program "counts" f_countsP) (G_Program_nodes : PropOk P w mg base 1 Z.a_Program "nodes" f_nodesT) (G_Program_parts : PropOk P w mg base 3 Z.a_Program "parts" f_partsP) (G_Program_renamed : MethOk P w mg base 9 Z.a_Program "renamed" 2 f_renP) (G_Program_size : PropOk P w mg base 1 Z.a_Program "size" f_sizeP) (G_Program_text : PropOk P w mg base 126 Z.a_Program "text" f_textP) (G__law_drawn : DefOk P w mg base 104 "_law_drawn" 3 (f_drawnL wL15 41)) (G__law_is_ahead : DefOk P w mg base 1 "_law_is_ahead" 2 f_isahead) (G__law_pick : DefOk P w mg base 2 "_law_pick" 2 f_pick) (G__law_places_right : DefOk P w mg base 71 "_law_places_right" 4 (f_places 61)) (G__law_program_nodes : DefOk P w mg base 62 "_law_program_nodes" 1 (f_pnodes 61)) (G__law_program_text : DefOk P w mg base 62 "_law_program_text" 2 (f_lptext 61)) : DefOk P w mg base 150 "_law_right" 1 f_tokT := by
  refine mkDef (N := ["_law_dice_here", "_law_program", "_law_other", "_law_nodes", "_law_more", "_law_made", "_law_far", "_law_heads", "_law_counts", "_law_told", "_law_due", "_law_names", "_law_named", "_law_binders", "_law_head", "_law_size", "_law_word"]) (ps := ["_law_dice_here"]) A.d__law_right sc__law_right (fun _ _ _ _ _ _ us hl => match us, hl with | [_], _ => rfl) fun fa cdv Ar outer s H E hr => ⟨_,
    (dss_cons (ds_par (i := 1) (j := 2) (da_cons (de_call G__law_drawn (fun _ => hr.mono (by omega)) (fun _ => pas (takes_of rfl rfl rfl rfl)) (da_cons (de_var 0) (da_cons de_int (da_cons de_int da_nil)))) (da_cons (de_call G__law_drawn (fun _ => hr.mono (by omega)) (fun _ => pas (takes_of rfl rfl rfl rfl)) (da_cons (de_var 0) (da_cons de_int (da_cons (de_call G__law_pick (fun _ => hr.mono (by omega)) (fun _ => pas (takes_of rfl rfl rfl rfl)) (da_cons (de_var 0) (da_cons (de_lst (da_cons de_int (da_cons de_int da_nil))) da_nil))) da_nil)))) da_nil)) (fun _ => sc__law_right.nd))
    (dss_cons (ds_par (i := 3) (j := 4) (da_cons (de_call G__law_program_nodes (fun _ => hr.mono (by omega)) (fun _ => pas (takes_of rfl rfl rfl rfl)) (da_cons (de_var 1) da_nil)) (da_cons (de_call G__law_program_nodes (fun _ => hr.mono (by omega)) (fun _ => pas (takes_of rfl rfl rfl rfl)) (da_cons (de_var 2) da_nil)) da_nil)) (fun _ => sc__law_right.nd))
    (dss_cons (ds_asg (de_tup (da_cons (de_make A.kc_Program G_Program___init__ (fun _ => hr.mono (by omega)) (fun _ => pas (takes_of rfl rfl rfl rfl)) (da_cons (de_callTy ok_tuple A.n_tuple FP.boot_tuple (da_cons (de_var 3) da_nil)) da_nil)) (da_cons (de_make A.kc_Program G_Program___init__ (fun _ => hr.mono (by omega)) (fun _ => pas (takes_of rfl rfl rfl rfl)) (da_cons (de_callTy ok_tuple A.n_tuple FP.boot_tuple (da_cons (de_var 4) da_nil)) da_nil)) da_nil))) (dg_tup (dgs_cons (dg_name (i := 5) (fun _ => sc__law_right.nd)) (dgs_cons (dg_name (i := 6) (fun _ => sc__law_right.nd)) dgs_nil))))
    (dss_cons (ds_set (i := 7) (de_lc (own := [("_law_binders", 13), ("_law_head", 14), ("_law_size", 15)]) (fun _ => sc__law_right.nd) (di_list (de_var 3)) (fun _ => blkOk_by (by kernel_rfl)) (dg_tup (dgs_cons (dg_name (i := 13) (fun _ => sc__law_right.nd)) (dgs_cons (dg_name (i := 14) (fun _ => sc__law_right.nd)) (dgs_cons (dg_name (i := 15) (fun _ => sc__law_right.nd)) dgs_nil)))) (dts_one (dt_cmp ok_in (de_var 14) (de_lst (da_cons de_str (da_cons de_str (da_cons de_str da_nil)))))) (de_var 14)) (fun _ => sc__law_right.nd))
    (dss_cons (ds_set (i := 8) (de_dictP (de_lc (own := [("_law_head", 14)]) (fun _ => sc__law_right.nd) (di_list (de_sortSet (de_var 7) A.n_sorted A.n_set FP.boot_sorted FP.boot_set)) (fun _ => blkOk_by (by kernel_rfl)) (dg_name (i := 14) (fun _ => sc__law_right.nd)) dts_nil (de_tup (da_cons (de_var 14) (da_cons (de_lcount (de_var 7) (de_var 14)) da_nil)))) A.n_dict FP.boot_dict) (fun _ => sc__law_right.nd))
    (dss_cons (ds_set (i := 9) (de_lst (da_cons (de_prop A.kc_Program G_Program_nodes (fun _ => hr.mono (by omega)) (de_var 5)) (da_cons (de_prop A.kc_Program G_Program_text (fun _ => hr.mono (by omega)) (de_var 5)) (da_cons (de_callTy (ok_strM A.kc_Program G_Program___str__ (fun _ => hr.mono (by omega))) A.n_str FP.boot_str (da_cons (de_var 5) da_nil)) (da_cons (de_prop A.kc_Program G_Program_size (fun _ => hr.mono (by omega)) (de_var 5)) (da_cons (de_callB (ok_lenM A.kc_Program G_Program___len__ (fun _ => hr.mono (by omega))) A.n_len FP.boot_len (da_cons (de_var 5) da_nil)) (da_cons (de_prop A.kc_Program G_Program_parts (fun _ => hr.mono (by omega)) (de_var 5)) (da_cons (de_prop A.kc_Program G_Program_counts (fun _ => hr.mono (by omega)) (de_var 5)) da_nil)))))))) (fun _ => sc__law_right.nd))
    (dss_cons (ds_set (i := 10) (de_lst (da_cons (de_callTy ok_tuple A.n_tuple FP.boot_tuple (da_cons (de_var 3) da_nil)) (da_cons (de_call G__law_program_text (fun _ => hr.mono (by omega)) (fun _ => pas (takes_of rfl rfl rfl rfl)) (da_cons (de_var 1) (da_cons de_int da_nil))) (da_cons (de_call G__law_program_text (fun _ => hr.mono (by omega)) (fun _ => pas (takes_of rfl rfl rfl rfl)) (da_cons (de_var 1) (da_cons de_int da_nil))) (da_cons (de_callB ok_len A.n_len FP.boot_len (da_cons (de_var 3) da_nil)) (da_cons (de_callB ok_len A.n_len FP.boot_len (da_cons (de_var 3) da_nil)) da_nil)))))) (fun _ => sc__law_right.nd))
    (dss_cons (ds_if (dt_cmp (ok_ne (fun _ => hr.r.units)) (de_callB (ok_reprQ (fun _ => hr.g) (fun _ => hr.r.units)) A.n_repr FP.boot_repr (da_cons (de_var 9) da_nil)) (de_callB (ok_reprQ (fun _ => hr.g) (fun _ => hr.r.units)) A.n_repr FP.boot_repr (da_cons (de_op ok_add (de_var 10) (de_lst (da_cons (de_callTy ok_tuple A.n_tuple FP.boot_tuple (da_cons (de_sortSet (de_var 7) A.n_sorted A.n_set FP.boot_sorted FP.boot_set) da_nil)) (da_cons (de_var 8) da_nil)))) da_nil)))
    (dss_one (ds_ret de_bl))
    dss_nil)
    (dss_cons (ds_if (dt_cmp (ok_ne (fun _ => hr.r.units)) (de_call G__law_places_right (fun _ => hr.mono (by omega)) (fun _ => pas (takes_of rfl rfl rfl rfl)) (da_cons (de_var 5) (da_cons (de_var 1) (da_cons de_int (da_cons (de_lst da_nil) da_nil))))) (de_callB ok_len A.n_len FP.boot_len (da_cons (de_var 3) da_nil)))
    (dss_one (ds_ret de_bl))
    dss_nil)
    (dss_cons (ds_if (dt_cmp (ok_ne (fun _ => hr.r.units)) (de_lc (own := [("_law_word", 16)]) (fun _ => sc__law_right.nd) (di_list (de_lst (da_cons de_str (da_cons de_str (da_cons de_str (da_cons de_str (da_cons de_str da_nil))))))) (fun _ => blkOk_by (by kernel_rfl)) (dg_name (i := 16) (fun _ => sc__law_right.nd)) (dts_one (dt_cmp (ok_ne (fun _ => hr.r.units)) (de_cmp (ok_inM A.kc_Program G_Program___contains__ (fun _ => hr.mono (by omega))) (de_var 16) (de_var 5)) (de_cmp ok_in (de_var 16) (de_var 7)))) (de_var 16)) (de_lst da_nil))
    (dss_one (ds_ret de_bl))
    dss_nil)
    (dss_cons (ds_if (dt_w (dw_or (dt_cmp (ok_ne (fun _ => hr.r.units)) (de_cmp (ok_eqM A.kc_Program G_Program___eq__ A.eq_Program (fun _ => hr.mono (by omega))) (de_var 5) (de_var 6)) (de_cmp (ok_eq (fun _ => hr.r.units)) (de_var 3) (de_var 4))) (dw_or (dt_cmp (ok_eqM A.kc_Program G_Program___eq__ A.eq_Program (fun _ => hr.mono (by omega))) (de_var 5) (de_prop A.kc_Program G_Program_nodes (fun _ => hr.mono (by omega)) (de_var 5))) (dw_or1 (dt_cmp (ok_neM A.kc_Program G_Program___eq__ A.eq_Program A.ne_Program (fun _ => hr.mono (by omega))) (de_var 5) (de_make A.kc_Program G_Program___init__ (fun _ => hr.mono (by omega)) (fun _ => pas (takes_of rfl rfl rfl rfl)) (da_cons (de_prop A.kc_Program G_Program_nodes (fun _ => hr.mono (by omega)) (de_var 5)) da_nil)))))))
    (dss_one (ds_ret de_bl))
    dss_nil)
    (dss_cons (ds_if (dt_w (dw_or (dt_cmp (ok_ne (fun _ => hr.r.units)) (de_meth A.kc_Program G_Program_comes_ahead (fun _ => hr.mono (by omega)) (fun _ => pas (takes_of rfl rfl rfl rfl)) (de_var 5) (da_cons (de_var 6) da_nil)) (de_call G__law_is_ahead (fun _ => hr.mono (by omega)) (fun _ => pas (takes_of rfl rfl rfl rfl)) (da_cons (de_var 3) (da_cons (de_var 4) da_nil)))) (dw_or1 (dt_cmp ok_isNotB (de_meth A.kc_Program G_Program_comes_ahead (fun _ => hr.mono (by omega)) (fun _ => pas (takes_of rfl rfl rfl rfl)) (de_var 5) (da_cons (de_var 5) da_nil)) de_bl))))
    (dss_one (ds_ret de_bl))
    dss_nil)
    (dss_cons (ds_set (i := 11) (de_disp (dps_cons de_str de_str (dps_cons de_str de_str (dps_cons de_str de_str (dps_cons de_str de_str dps_nil))))) (fun _ => sc__law_right.nd))
    (dss_cons (ds_setLc (i := 12) (own := [("_law_binders", 13), ("_law_head", 14), ("_law_size", 15)]) (fun _ => sc__law_right.nd) (di_list (de_var 3)) (fun _ => blkOk_by (by kernel_rfl)) (dg_tup (dgs_cons (dg_name (i := 13) (fun _ => sc__law_right.nd)) (dgs_cons (dg_name (i := 14) (fun _ => sc__law_right.nd)) (dgs_cons (dg_name (i := 15) (fun _ => sc__law_right.nd)) dgs_nil)))) dts_nil (de_tup (da_cons (de_var 13) (da_cons (de_dget2 (k := 0) (fun _ => hr.mono (by omega)) (de_var 11) (de_var 14) (de_var 14)) (da_cons (de_var 15) da_nil)))) (fun _ => sw_true rfl rfl rfl (by decide +kernel)))
    (dss_one (ds_ret (de_cmp (ok_eqM A.kc_Program G_Program___eq__ A.eq_Program (fun _ => hr.mono (by omega))) (de_meth A.kc_Program G_Program_renamed (fun _ => hr.mono (by omega)) (fun _ => pas (takes_of rfl rfl rfl rfl)) (de_var 5) (da_cons (de_var 11) da_nil)) (de_make A.kc_Program G_Program___init__ (fun _ => hr.mono (by omega)) (fun _ => pas (takes_of rfl rfl rfl rfl)) (da_cons (de_callTy ok_tuple A.n_tuple FP.boot_tuple (da_cons (de_var 12) da_nil)) da_nil))))))))))))))))))),  fun ds Q Ex hl hf => ?_⟩
  match ds, hl, hf with
  | [.tok], _, hq =>
    have e0 : startD 17 [.tok] = [Sl.d (.tok), Sl.no, Sl.no, Sl.no, Sl.no, Sl.no, Sl.no, Sl.no, Sl.no, Sl.no, Sl.no, Sl.no, Sl.no, Sl.no, Sl.no, Sl.no, Sl.no] := rfl
    have hnN : (["_law_dice_here", "_law_program", "_law_other", "_law_nodes", "_law_more", "_law_made", "_law_far", "_law_heads", "_law_counts", "_law_told", "_law_due", "_law_names", "_law_named", "_law_binders", "_law_head", "_law_size", "_law_word"] : List Str).length = 17 := rfl
    rw [hnN, e0]
    clear e0 hnN
    refine seq_parP (fun d => ∃ p, d = ptD p ∧ scT (fun z => z ∈ wL15) 0 p ∧ sizeT p ≤ 12) (fun d => ∃ p, d = ptD p ∧ scT (fun z => z ∈ wL15) 0 p ∧ sizeT p ≤ 12) (fun Q E q => ⟨rfl, 0, 12, rfl, rfl, by decide, by decide, by decide, by decide, fun p hp hz => q _ ⟨p, rfl, dr_sc p 0 hp (by omega), hz⟩⟩) (fun Q E q => ⟨line rfl, rfl, pkN rfl, fun m hm => ?_⟩) ?_
    · have hm2 : m = .int 3 ∨ m = .int 12 := by
        simp only [List.mem_cons, List.not_mem_nil, or_false] at hm
        exact hm
      rcases hm2 with rfl | rfl
      · exact ⟨rfl, 0, 3, rfl, rfl, by decide, by decide, by decide, by decide, fun p hp hz => q _ ⟨p, rfl, dr_sc p 0 hp (by omega), by omega⟩⟩
      · exact ⟨rfl, 0, 12, rfl, rfl, by decide, by decide, by decide, by decide, fun p hp hz => q _ ⟨p, rfl, dr_sc p 0 hp (by omega), hz⟩⟩
    rintro _ _ ⟨p, rfl, hp, hpz⟩ ⟨o, rfl, ho, hoz⟩
    have hg : PG (fun z => z ∈ wL15) p := ⟨wL15_w, hp, by omega⟩
    have hgo : PG (fun z => z ∈ wL15) o := ⟨wL15_w, ho, by omega⟩
    have hsp : shDs 63 ((nodesT p).map nodD) = true := sh_T (n := 62) wL15_w hp
    have hso : shDs 63 ((nodesT o).map nodD) = true := sh_T (n := 62) wL15_w ho
    refine seq_par (.lst ((nodesT p).map nodD)) (.lst ((nodesT o).map nodD)) (a1 (ev_call (a1 (fun Q E q => q) a0) rfl fun Q E q => ⟨p, rfl, by omega, by omega, q⟩) (a1 (ev_call (a1 (fun Q E q => q) a0) rfl fun Q E q => ⟨o, rfl, by omega, by omega, q⟩) a0)) ?_
    have mk : ∀ (W : Str → Prop) (q : Pt), PG W q → ∀ (fe : DTE) (ρ : FP.Env), Ev fe ρ (.tup ((nodesT q).map nodD)) → Ev (dMake "Program" f_initPN 1 (dCons fe dNil)) ρ (progD q) := fun W q g fe ρ hr => ev_make (fs := progT q) (ds := [.tup ((nodesT q).map nodD)]) (a1 hr a0) rfl fun Q E q' => .inl ⟨okNs_T g.w g.s, rfl, fun xs e _ => by cases e; rw [progF_T]; exact q', fun h => by rw [are_T g.w g.s g.z] at h; cases h⟩
    have evT : ∀ (ρ : FP.Env) (i : Nat) (xs : List D), ρ[i]? = some (.d (.lst xs)) → Ev (dCB rdTuple (dCons (dVar i) dNil)) ρ (.tup xs) := fun ρ i xs hr => ev_cb (a1 (d := .lst xs) (fun Q E q => by
      show (match ρ[i]? with | some (Sl.d x) => Q x | _ => False)
      rw [hr]
      exact q) a0) fun Q q => q
    refine seq_asg (.tup [progD p, progD o]) (ev_tup (a1 (mk _ p hg _ _ (evT _ 3 _ rfl)) (a1 (mk _ o hgo _ _ (evT _ 4 _ rfl)) a0)) (line rfl)) rfl ?_
    have hlen : ((nodesT p).map nodD).length = sizeT p := by rw [List.length_map, nodes_len]
    have hhl : ((headsT p).filter fun h => isWordS h).length ≤ 12 := Nat.le_trans (List.length_filter_le _ _) (by unfold headsT; rw [List.length_map, nodes_len]; exact hpz)
    refine seq_v (.lst (((headsT p).filter fun h => isWordS h).map .str)) (Ev.eq (ev_lcF nodD (fun n => .str n.2.1) (fun n => decide (n.2.1 ∈ wL15)) (xs := nodesT p) (fun Q E q => q) (size_small (by rw [nodes_len]; omega)) fun n hn => ⟨_, rfl, b_v (ev_op (x := .str n.2.1) (y := .lst (wL15.map .str)) (fun Q E q => q) (ev_lst (a1 (fun Q E q => q) (a1 (fun Q E q => q) (a1 (fun Q E q => q) a0))) (line rfl)) fun Q q => in_strs q (by decide)), fun _ => (fun Q E q => q)⟩) ?_) ?_
    · rw [← lawHeads15 hp]
      unfold headsT
      rw [List.filter_map, List.map_map]
      rfl
    have evS : ∀ ρ : FP.Env, ρ[7]? = some (.d (.lst (((headsT p).filter fun h => isWordS h).map .str))) → Ev (dSortSet (dVar 7)) ρ (.lst ((partsU p).map .str)) := fun ρ hr => ev_sortU (ss := (headsT p).filter fun h => isWordS h) (fun Q E q => by
      show (match ρ[7]? with | some (Sl.d x) => Q x | _ => False)
      rw [hr]
      exact q) (by omega)
    have hpl := partsU_len p
    refine seq_v (.dct (countsK p)) (Ev.eq (ev_dictP (xs := (partsU p).map fun z => .tup [.str z, .int (((headsT p).filter fun h => isWordS h).count z : Nat)]) (ev_lc (fun z : Str => D.str z) (fun z => .tup [.str z, .int (((headsT p).filter fun h => isWordS h).count z : Nat)]) (xs := partsU p) (fun Q E q => evS _ rfl _ _ q) (size_small (by omega)) fun z hz => ⟨_, rfl, ev_tup (a1 (fun Q E q => q) (a1 (ev_lcount (ys := (headsT p).filter fun h => isWordS h) (fun Q E q => q) (fun Q E q => q)) a0)) (line rfl)⟩) (pairs15 (fun z => ((headsT p).filter fun h => isWordS h).count z) _)) (by rw [counts15])) ?_
    refine seq_v (.lst (toldL p)) (ev_lst (ds := toldL p) (a1 (ev_prop (fs := progT p) (fun Q E q => q) fun Q q => ⟨p, rfl, q⟩) (a1 (ev_prop (fs := progT p) (fun Q E q => q) fun Q q => ⟨_, p, rfl, hg, q⟩) (a1 (ev_cb (a1 (d := progD p) (fun Q E q => q) a0) fun Q q => ⟨rfl, _, p, rfl, hg, q⟩) (a1 (ev_prop (fs := progT p) (fun Q E q => q) fun Q q => ⟨p, rfl, q⟩) (a1 (ev_cb (a1 (d := progD p) (fun Q E q => q) a0) fun Q q => ⟨rfl, p, rfl, ⟨by omega, (by have h12 : (12 : Int) < 2 ^ 63 := (by decide); omega)⟩, q⟩) (a1 (ev_prop (fs := progT p) (fun Q E q => q) fun Q q => ⟨_, p, rfl, hg, q⟩) (a1 (ev_prop (fs := progT p) (fun Q E q => q) fun Q q => ⟨_, p, rfl, hg, q⟩) a0))))))) (line rfl)) ?_
    have tx : ∀ (ρ : FP.Env), ρ[1]? = some (.d (ptD p)) → Ev (dCall (f_lptext 61) 2 (dCons (dVar 1) (dCons (dC (.int 0)) dNil))) ρ (.str (textT 0 p)) := fun ρ hr => ev_call (ds := [ptD p, .int 0]) (a1 (fun Q E q => by
      show (match ρ[1]? with | some (Sl.d x) => Q x | _ => False)
      rw [hr]
      exact q) (a1 (fun Q E q => q) a0)) rfl fun Q E q => ⟨_, p, 0, wL15_w, rfl, rfl, hp, by omega, by omega, q⟩
    have ln : ∀ (ρ : FP.Env), ρ[3]? = some (.d (.lst ((nodesT p).map nodD))) → Ev (dCB rdLen (dCons (dVar 3) dNil)) ρ (.int (sizeT p : Nat)) := fun ρ hr => ev_cb (a1 (d := .lst ((nodesT p).map nodD)) (fun Q E q => by
      show (match ρ[3]? with | some (Sl.d x) => Q x | _ => False)
      rw [hr]
      exact q) a0) fun Q q => by
      show Q (.int (((nodesT p).map nodD).length : Nat))
      rw [hlen]
      exact q
    refine seq_v (.lst ((toldL p).take 5)) (ev_lst (ds := (toldL p).take 5) (a1 (evT _ 3 _ rfl) (a1 (tx _ rfl) (a1 (tx _ rfl) (a1 (ln _ rfl) (a1 (ln _ rfl) a0))))) (line rfl)) ?_
    refine seq_ifF (b_v (ev_op (x := .str (PyData.shown (.list (toldP p)))) (y := .str (PyData.shown (.list (toldP p)))) (ev_cb (a1 (d := .lst (toldL p)) (fun Q E q => q) a0) fun Q q => told_shown hg q) (ev_cb (a1 (d := .lst (toldL p)) (ev_op (x := .lst ((toldL p).take 5)) (y := .lst ((toldL p).drop 5)) (fun Q E q => q) (ev_lst (ds := (toldL p).drop 5) (a1 (d := .tup ((partsU p).map .str)) (ev_cb (a1 (evS _ rfl) a0) fun Q q => q) (a1 (fun Q E q => q) a0)) (line rfl)) fun Q q => ⟨size_small (by show 5 + 2 ≤ 1000; decide), q⟩) a0) fun Q q => told_shown hg q) fun Q q => ne_same _ q)) ?_
    refine seq_ifF (b_v (ev_op (x := .int ((0 + sizeT p : Nat) : Int)) (y := .int (sizeT p : Nat)) (ev_call (ds := [progD p, ptD p, .int ((0 : Nat) : Int), .lst (natsD [])]) (a1 (fun Q E q => q) (a1 (fun Q E q => q) (a1 (fun Q E q => q) (a1 (ev_lst a0 (line rfl)) a0)))) rfl fun Q E q => ⟨_, p, p, 0, 0, [], rfl, hg, rfl, rfl, rfl, AtP.root p, AbE.root _ _, rfl, fun j hj => absurd hj List.not_mem_nil, Nat.le_refl 0, by omega, q⟩) (ln _ rfl) fun Q q => ne_int0 (by rw [Nat.zero_add]) q)) ?_
    have hin : ∀ z : Str, (decide (z ∈ partsU p)) = decide (z ∈ (headsT p).filter fun h => isWordS h) := fun z => decide_eq_decide.mpr sortU_mem
    refine seq_ifF (b_v (ev_op (x := .lst []) (y := .lst []) (Ev.eq (ev_lcF (fun z : Str => D.str z) (fun z => .str z) (fun _ => false) (xs := (["f", "g", "z", "x0", "h"] : List Str)) (fun Q E q => (ev_lst (ds := [.str "f", .str "g", .str "z", .str "x0", .str "h"]) (a1 (fun Q E q => q) (a1 (fun Q E q => q) (a1 (fun Q E q => q) (a1 (fun Q E q => q) (a1 (fun Q E q => q) a0))))) (line rfl)) _ _ q) (line rfl) fun z hz => ⟨_, rfl, b_v (ev_op (x := .bl (decide (z ∈ partsU p))) (y := .bl (decide (z ∈ (headsT p).filter fun h => isWordS h))) (ev_op (x := .str z) (y := progD p) (fun Q E q => q) (fun Q E q => q) fun Q q => ⟨rfl, _, p, rfl, hg, ok5 hz, q⟩) (ev_op (x := .str z) (y := .lst (((headsT p).filter fun h => isWordS h).map .str)) (fun Q E q => q) (fun Q E q => q) fun Q q => in_strs q (by omega)) fun Q q => neBB (hin z) q), fun h => by cases h⟩) rfl) (ev_lst a0 (line rfl)) fun Q q => neNil sh_nil q)) ?_
    have eqP : ∀ (ρ : FP.Env), ρ[5]? = some (.d (progD p)) → Ev (dVar 5) ρ (progD p) := fun ρ hr Q E q => by
      show (match ρ[5]? with | some (Sl.d x) => Q x | _ => False)
      rw [hr]
      exact q
    have hrefl := eqNd_refl (nodesT p) hsp
    refine seq_ifF (or_f (b_v (ev_op (x := .bl (eqNd (nodesT p) (nodesT o))) (y := .bl (eqNd (nodesT p) (nodesT o))) (ev_op (x := progD p) (y := progD o) (fun Q E q => q) (fun Q E q => q) fun Q q => ⟨rfl, List.mem_cons_self, p, rfl, hsp, .inl ⟨o, rfl, hso, q⟩⟩) (ev_op (x := .lst ((nodesT p).map nodD)) (y := .lst ((nodesT o).map nodD)) (fun Q E q => q) (fun Q E q => q) fun Q q => eq_nodsL hsp hso q) fun Q q => neBB rfl q)) (or_f (b_v (ev_op (x := progD p) (y := .tup ((nodesT p).map nodD)) (fun Q E q => q) (ev_prop (fs := progT p) (fun Q E q => q) fun Q q => ⟨p, rfl, q⟩) fun Q q => ⟨rfl, trivial, p, rfl, hsp, .inr ⟨rfl, q⟩⟩)) (b_v (ev_op (x := progD p) (y := progD p) (fun Q E q => q) (mk _ p hg _ _ (ev_prop (fs := progT p) (fun Q E q => q) fun Q q => ⟨p, rfl, q⟩)) fun Q q => ⟨rfl, List.mem_cons_self, p, rfl, hsp, .inl ⟨p, rfl, hsp, by
      show Q (.bl (!eqNd (nodesT p) (nodesT p)))
      rw [hrefl]
      exact q⟩⟩)))) ?_
    refine seq_ifF (or_f (b_v (ev_op (x := .bl (aheadN (nodesT p) (nodesT o))) (y := .bl (aheadN (nodesT p) (nodesT o))) (ev_meth (fs := progT p) (ds := [progD o]) (fun Q E q => q) rfl (a1 (fun Q E q => q) a0) rfl fun Q E q => ⟨p, o, rfl, rfl, q⟩) (ev_call (a1 (fun Q E q => q) (a1 (fun Q E q => q) a0)) rfl fun Q E q => ⟨nodesT p, nodesT o, rfl, rfl, q⟩) fun Q q => neBB rfl q)) (b_v (ev_op (x := .bl (aheadN (nodesT p) (nodesT p))) (y := .bl false) (ev_meth (fs := progT p) (ds := [progD p]) (fun Q E q => q) rfl (a1 (fun Q E q => q) a0) rfl fun Q E q => ⟨p, p, rfl, rfl, q⟩) (fun Q E q => q) fun Q q => by
      show Q (.bl (!decide (aheadN (nodesT p) (nodesT p) = false)))
      rw [ahead_self]
      exact q))) ?_
    refine seq_v (.dct (dictS names15)) (Ev.eq (ev_disp (kvs := dictS names15) (kv1 (fun Q E q => q) rfl (fun Q E q => q) (kv1 (fun Q E q => q) rfl (fun Q E q => q) (kv1 (fun Q E q => q) rfl (fun Q E q => q) (kv1 (fun Q E q => q) rfl (fun Q E q => q) kv0)))) (by decide)) (by rw [disp15])) ?_
    refine env_eq (ρ' := [Sl.d .tok, Sl.d (ptD p), Sl.d (ptD o), Sl.d (.lst ((nodesT p).map nodD)), Sl.d (.lst ((nodesT o).map nodD)), Sl.d (progD p), Sl.d (progD o), Sl.d (.lst (((headsT p).filter fun h => isWordS h).map .str)), Sl.d (.dct (countsK p)), Sl.d (.lst (toldL p)), Sl.d (.lst ((toldL p).take 5)), Sl.d (.dct (dictS names15)), Sl.no, Sl.no, Sl.no, Sl.no, Sl.no]) rfl ?_
    generalize Sl.d (.dct (countsK p)) = s8
    generalize Sl.d (.lst (toldL p)) = s9
    generalize Sl.d (.lst ((toldL p).take 5)) = s10
    generalize Sl.d (.lst (((headsT p).filter fun h => isWordS h).map .str)) = s7
    have hgr := ren15 hp (by omega)
    have hkk := names15_k
    have hww := names15_w
    have hnn := names15_n
    have hl : names15.length ≤ 100 := by decide
    generalize names15 = kvs at hgr hkk hww hnn hl ⊢
    refine seq_v (.lst ((nodesT (renT (lookS kvs) p)).map nodD)) (Ev.eq (ev_lc nodD (fun n => nodD (renN (lookS kvs) n)) (xs := nodesT p) (fun Q E q => q) (size_small (by rw [nodes_len]; omega)) fun n hn => ⟨_, rfl, ev_tup (a1 (fun Q E q => q) (a1 (d := .str (lookS kvs n.2.1)) (fun Q E q => ⟨.inr n.2.1, rfl, by rw [val_look]; exact q⟩) (a1 (fun Q E q => q) a0))) (line rfl)⟩) (by rw [ren_nodes, List.map_map]; rfl)) ?_
    have hsr : shDs 63 ((nodesT (renT (lookS kvs) p)).map nodD) = true := sh_T (n := 62) hgr.w hgr.s
    exact ret_v (.bl true) (ev_op (x := progD (renT (lookS kvs) p)) (y := progD (renT (lookS kvs) p)) (ev_meth (fs := progT p) (ds := [.dct (dictS kvs)]) (fun Q E q => q) rfl (a1 (fun Q E q => q) a0) rfl fun Q E q => ⟨_, p, kvs, rfl, hg, rfl, hl, fun z hz => hkk z (parts15 hp z hz), hww, hnn, q⟩) (mk _ _ hgr _ _ (evT _ 12 _ rfl)) fun Q q => ⟨rfl, List.mem_cons_self, _, rfl, hsr, .inl ⟨_, rfl, hsr, by rw [eqNd_refl _ hsr]; exact q⟩⟩) hq
end K15
namespace K15
open PySem L2 FP
variable [FP.Tabl]
open KP
theorem ok_law {P : Program} {w : World} {mg : Gm} {base : Heap} {Z : Ads} (A : All mg Z) (G_Program___init__ : InitOk P w mg base 5 "Program" Z.a_Program 1 f_initPN) (G_Program_bound : MethOk P w mg base 4 Z.a_Program "bound" 2 (f_atP fun _ bd _ => .int (bd : Nat))) (G_Program_text : PropOk P w mg base 126 Z.a_Program "text" f_textP) (G_Program_way_to : MethOk P w mg base 4 Z.a_Program "way_to" 2 f_wayP) (G__law_dice : DefOk P w mg base 1 "_law_dice" 2 f_dice) (G__law_right : DefOk P w mg base 150 "_law_right" 1 f_tokT) : DefOk P w mg base 152 "law" 1 f_law := by
  refine mkDef (N := ["_law_script", "_law_spot", "_law_one", "_law_dice_here", "_law_turn"]) (ps := ["_law_script"]) A.d_law sc_law (fun _ _ _ _ _ _ us hl => match us, hl with | [_], _ => rfl) fun fa cdv Ar outer s H E hr => ⟨_,
    (dss_cons (ds_for (di_range1 A.n_range (da_cons (de_callB ok_max A.n_max FP.boot_max (da_cons de_int (da_cons (de_callB ok_min A.n_min FP.boot_min (da_cons de_int (da_cons (de_callB ok_len A.n_len FP.boot_len (da_cons (de_var 0) da_nil)) da_nil))) da_nil))) da_nil)) (dg_name (i := 1) (fun _ => sc_law.nd))
    (dss_cons (ds_set (i := 3) (de_call G__law_dice (fun _ => hr.mono (by omega)) (fun _ => pas (takes_of rfl rfl rfl rfl)) (da_cons (de_var 0) (da_cons (de_var 1) da_nil))) (fun _ => sc_law.nd))
    (dss_one (ds_for (di_range1 A.n_range (da_cons de_int da_nil)) (dg_name (i := 4) (fun _ => sc_law.nd))
    (dss_one (ds_if (dt_not (dt_val (de_call G__law_right (fun _ => hr.mono (by omega)) (fun _ => pas (takes_of rfl rfl rfl rfl)) (da_cons (de_var 3) da_nil))))
    (dss_one (ds_ret de_bl))
    dss_nil)) (fun _ => passes_of rfl)))) (fun _ => passes_of rfl))
    (dss_cons (ds_set (i := 2) (de_make A.kc_Program G_Program___init__ (fun _ => hr.mono (by omega)) (fun _ => pas (takes_of rfl rfl rfl rfl)) (da_cons (de_tup (da_cons (de_tup (da_cons de_int (da_cons de_str (da_cons de_int da_nil)))) (da_cons (de_tup (da_cons de_int (da_cons de_str (da_cons de_int da_nil)))) (da_cons (de_tup (da_cons de_int (da_cons de_str (da_cons de_int da_nil)))) (da_cons (de_tup (da_cons de_int (da_cons de_str (da_cons de_int da_nil)))) da_nil))))) da_nil)) (fun _ => sc_law.nd))
    (dss_one (ds_ret (de_cmp (ok_eq (fun _ => hr.r.units)) (de_lst (da_cons (de_prop A.kc_Program G_Program_text (fun _ => hr.mono (by omega)) (de_var 2)) (da_cons (de_meth A.kc_Program G_Program_bound (fun _ => hr.mono (by omega)) (fun _ => pas (takes_of rfl rfl rfl rfl)) (de_var 2) (da_cons de_int da_nil)) (da_cons (de_meth A.kc_Program G_Program_way_to (fun _ => hr.mono (by omega)) (fun _ => pas (takes_of rfl rfl rfl rfl)) (de_var 2) (da_cons de_int da_nil)) da_nil)))) (de_lst (da_cons de_str (da_cons de_int (da_cons (de_tup (da_cons de_int (da_cons de_int (da_cons de_int da_nil)))) da_nil))))))))),  fun ds Q Ex hl hf => ?_⟩
  match ds, hl, hf with
  | [.fz xs], _, ⟨⟨ns, hx, hn⟩, hq⟩ =>
    subst hx
    have e0 : startD 5 [.fz (ns.map D.int)] = [Sl.d (.fz (ns.map D.int)), Sl.no, Sl.no, Sl.no, Sl.no] := rfl
    have hnN : (["_law_script", "_law_spot", "_law_one", "_law_dice_here", "_law_turn"] : List Str).length = 5 := rfl
    rw [hnN, e0]
    clear e0 hnN
    have hm := spots (ns.map D.int).length
    refine seq_by (fun ρ => ∃ a b c, ρ = [Sl.d (.fz (ns.map D.int)), a, Sl.no, b, c]) (fun nx hnx => ?_) ?_
    · refine ⟨by omega, by omega, ?_⟩
      refine forD_inv (fun ρ => ∃ a b c, ρ = [Sl.d (.fz (ns.map D.int)), a, Sl.no, b, c]) _ _ ⟨_, _, _, rfl⟩ ?_ hnx
      rintro x hx ρ K ⟨a, b, c, rfl⟩ hK
      obtain ⟨j, rfl, hj⟩ := mem_range hx
      refine ⟨_, rfl, ?_⟩
      refine seq_v .tok (fun Q E q => ⟨rfl, ⟨ns, rfl⟩, ⟨by omega, by omega⟩, q⟩) ?_
      refine ⟨by decide, by decide, ?_⟩
      refine forD_inv (fun ρ => ∃ a e, ρ = [Sl.d (.fz (ns.map D.int)), a, Sl.no, Sl.d .tok, e]) _ _ ⟨_, _, rfl⟩ ?_ ?_
      · rintro y hy ρ' K' ⟨a, e, rfl⟩ hK'
        refine ⟨_, rfl, ?_⟩
        refine end_if false (not_v (b := true) (b_v (ev_call (a1 (fun Q E q => q) a0) rfl fun Q E q => q))) ?_
        exact hK' _ ⟨_, _, rfl⟩
      · rintro ρ' ⟨a, e, rfl⟩
        exact hK _ ⟨_, _, _, rfl⟩
    rintro ρ ⟨a, b, c, rfl⟩
    have evN : ∀ (ρ : FP.Env) (b c : Int) (s : Str), Ev (dTup (dCons (dC (.int b)) (dCons (dC (.str s)) (dCons (dC (.int c)) dNil)))) ρ (.tup [.int b, .str s, .int c]) := fun ρ b c s => ev_tup (a1 (fun Q E q => q) (a1 (fun Q E q => q) (a1 (fun Q E q => q) a0))) (line rfl)
    refine seq_v (progD one15) (ev_make (fs := progT one15) (ds := [.tup ((nodesT one15).map nodD)]) (a1 (ev_tup (ds := (nodesT one15).map nodD) (a1 (evN _ _ _ _) (a1 (evN _ _ _ _) (a1 (evN _ _ _ _) (a1 (evN _ _ _ _) a0)))) (line rfl)) a0) rfl fun Q E q' => .inl ⟨okNs_T one15_g.w one15_g.s, rfl, fun xs e _ => by cases e; rw [progF_T]; exact q', fun h => by rw [are_T one15_g.w one15_g.s one15_g.z] at h; cases h⟩) ?_
    refine ret_v (.bl true) (ev_op (x := .lst [.str (textT 0 one15), .int 2, .tup (natsD [0, 1, 2])]) (y := .lst [.str (textT 0 one15), .int 2, .tup (natsD [0, 1, 2])]) (ev_lst (a1 (ev_prop (fs := progT one15) (fun Q E q => q) fun Q q => ⟨_, one15, rfl, one15_g, q⟩) (a1 (ev_meth (fs := progT one15) (ds := [.int ((2 : Nat) : Int)]) (fun Q E q => q) rfl (a1 (fun Q E q => q) a0) rfl fun Q E q => ⟨one15, _, 2, 2, rfl, by decide, rfl, one15_at, q⟩) (a1 (ev_meth (fs := progT one15) (ds := [.int ((2 : Nat) : Int)]) (fun Q E q => q) rfl (a1 (fun Q E q => q) a0) rfl fun Q E q => ⟨one15, _, 2, 2, [0, 1], rfl, by decide, rfl, one15_at, one15_ab, q⟩) a0))) (line rfl)) (ev_lst (a1 (Ev.eq (fun Q E q => q) (by rw [one15_t])) (a1 (fun Q E q => q) (a1 (ev_tup (a1 (fun Q E q => q) (a1 (fun Q E q => q) (a1 (fun Q E q => q) a0))) (line rfl)) a0))) (line rfl)) fun Q q => eq_refl (sh_lst (sh_cons (sh_str one15_s) (sh_cons sh_int (sh_cons (sh_tup (sh_ints _)) sh_nil)))) rfl q) hq
end K15
namespace K15
open PySem L2 FP
variable [FP.Tabl]
theorem all_mk {K : PySem.W.Frag} {h : Heap} {mg : Str → Option Value} (X : K.In h) (G : h.Ns mainGlobals mg)
    {t_DIGITS : Tok}
    {t_DOT : Tok}
    {t_GAP : Tok}
    {t_LAMBDA : Tok}
    {t_LETTERS : Tok}
    {t_LONGEST : Tok}
    {t_MAX_COUNT : Tok}
    {t_MAX_LETTERS : Tok}
    {t_MAX_LEVEL : Tok}
    {t_MAX_NODES : Tok}
    {t_VARIABLE : Tok}
    {C_Nodes : Addr}
    {C_Program : Addr}
    {f_is_integer : Addr} {od_is_integer an_is_integer : Option Addr} {sl_is_integer : Array (Option Value)} {oc_is_integer kV_is_integer dc_is_integer pm_is_integer cd_is_integer ct_is_integer : Value}
    {f_is_within : Addr} {od_is_within an_is_within : Option Addr} {sl_is_within : Array (Option Value)} {oc_is_within kV_is_within dc_is_within pm_is_within cd_is_within ct_is_within : Value}
    {f_is_word : Addr} {od_is_word an_is_word : Option Addr} {sl_is_word : Array (Option Value)} {oc_is_word kV_is_word dc_is_word pm_is_word cd_is_word ct_is_word : Value}
    {f_level_of : Addr} {od_level_of an_level_of : Option Addr} {sl_level_of : Array (Option Value)} {oc_level_of kV_level_of dc_level_of pm_level_of cd_level_of ct_level_of : Value}
    {f_is_node : Addr} {od_is_node an_is_node : Option Addr} {sl_is_node : Array (Option Value)} {oc_is_node kV_is_node dc_is_node pm_is_node cd_is_node ct_is_node : Value}
    {f_kids_of : Addr} {od_kids_of an_kids_of : Option Addr} {sl_kids_of : Array (Option Value)} {oc_kids_of kV_kids_of dc_kids_of pm_kids_of cd_kids_of ct_kids_of : Value}
    {f_ends_of : Addr} {od_ends_of an_ends_of : Option Addr} {sl_ends_of : Array (Option Value)} {oc_ends_of kV_ends_of dc_ends_of pm_ends_of cd_ends_of ct_ends_of : Value}
    {f_bound_of : Addr} {od_bound_of an_bound_of : Option Addr} {sl_bound_of : Array (Option Value)} {oc_bound_of kV_bound_of dc_bound_of pm_bound_of cd_bound_of ct_bound_of : Value}
    {f_are_nodes : Addr} {od_are_nodes an_are_nodes : Option Addr} {sl_are_nodes : Array (Option Value)} {oc_are_nodes kV_are_nodes dc_are_nodes pm_are_nodes cd_are_nodes ct_are_nodes : Value}
    {f_variable_text : Addr} {od_variable_text an_variable_text : Option Addr} {sl_variable_text : Array (Option Value)} {oc_variable_text kV_variable_text dc_variable_text pm_variable_text cd_variable_text ct_variable_text : Value}
    {f_node_text : Addr} {od_node_text an_node_text : Option Addr} {sl_node_text : Array (Option Value)} {oc_node_text kV_node_text dc_node_text pm_node_text cd_node_text ct_node_text : Value}
    {f_argument_text : Addr} {od_argument_text an_argument_text : Option Addr} {sl_argument_text : Array (Option Value)} {oc_argument_text kV_argument_text dc_argument_text pm_argument_text cd_argument_text ct_argument_text : Value}
    {f_Nodes___init__ : Addr} {od_Nodes___init__ an_Nodes___init__ : Option Addr} {sl_Nodes___init__ : Array (Option Value)} {oc_Nodes___init__ kV_Nodes___init__ dc_Nodes___init__ pm_Nodes___init__ cd_Nodes___init__ ct_Nodes___init__ : Value}
    {f_program_in : Addr} {od_program_in an_program_in : Option Addr} {sl_program_in : Array (Option Value)} {oc_program_in kV_program_in dc_program_in pm_program_in cd_program_in ct_program_in : Value}
    {f_Program___init__ : Addr} {od_Program___init__ an_Program___init__ : Option Addr} {sl_Program___init__ : Array (Option Value)} {oc_Program___init__ kV_Program___init__ dc_Program___init__ pm_Program___init__ cd_Program___init__ ct_Program___init__ : Value}
    {f_Program_nodes : Addr} {od_Program_nodes an_Program_nodes : Option Addr} {sl_Program_nodes : Array (Option Value)} {oc_Program_nodes kV_Program_nodes dc_Program_nodes pm_Program_nodes cd_Program_nodes ct_Program_nodes : Value}
    {p_Program_nodes : Addr} {rs_Program_nodes : List Value}
    {f_Program_text : Addr} {od_Program_text an_Program_text : Option Addr} {sl_Program_text : Array (Option Value)} {oc_Program_text kV_Program_text dc_Program_text pm_Program_text cd_Program_text ct_Program_text : Value}
    {p_Program_text : Addr} {rs_Program_text : List Value}
    {f_Program_size : Addr} {od_Program_size an_Program_size : Option Addr} {sl_Program_size : Array (Option Value)} {oc_Program_size kV_Program_size dc_Program_size pm_Program_size cd_Program_size ct_Program_size : Value}
    {p_Program_size : Addr} {rs_Program_size : List Value}
    {f_Program_parts : Addr} {od_Program_parts an_Program_parts : Option Addr} {sl_Program_parts : Array (Option Value)} {oc_Program_parts kV_Program_parts dc_Program_parts pm_Program_parts cd_Program_parts ct_Program_parts : Value}
    {p_Program_parts : Addr} {rs_Program_parts : List Value}
    {f_Program_counts : Addr} {od_Program_counts an_Program_counts : Option Addr} {sl_Program_counts : Array (Option Value)} {oc_Program_counts kV_Program_counts dc_Program_counts pm_Program_counts cd_Program_counts ct_Program_counts : Value}
    {p_Program_counts : Addr} {rs_Program_counts : List Value}
    {f_Program_require_place : Addr} {od_Program_require_place an_Program_require_place : Option Addr} {sl_Program_require_place : Array (Option Value)} {oc_Program_require_place kV_Program_require_place dc_Program_require_place pm_Program_require_place cd_Program_require_place ct_Program_require_place : Value}
    {f_Program_arguments : Addr} {od_Program_arguments an_Program_arguments : Option Addr} {sl_Program_arguments : Array (Option Value)} {oc_Program_arguments kV_Program_arguments dc_Program_arguments pm_Program_arguments cd_Program_arguments ct_Program_arguments : Value}
    {f_Program_bound : Addr} {od_Program_bound an_Program_bound : Option Addr} {sl_Program_bound : Array (Option Value)} {oc_Program_bound kV_Program_bound dc_Program_bound pm_Program_bound cd_Program_bound ct_Program_bound : Value}
    {f_Program_way_to : Addr} {od_Program_way_to an_Program_way_to : Option Addr} {sl_Program_way_to : Array (Option Value)} {oc_Program_way_to kV_Program_way_to dc_Program_way_to pm_Program_way_to cd_Program_way_to ct_Program_way_to : Value}
    {f_Program_end : Addr} {od_Program_end an_Program_end : Option Addr} {sl_Program_end : Array (Option Value)} {oc_Program_end kV_Program_end dc_Program_end pm_Program_end cd_Program_end ct_Program_end : Value}
    {f_Program_renamed : Addr} {od_Program_renamed an_Program_renamed : Option Addr} {sl_Program_renamed : Array (Option Value)} {oc_Program_renamed kV_Program_renamed dc_Program_renamed pm_Program_renamed cd_Program_renamed ct_Program_renamed : Value}
    {f_Program_comes_ahead : Addr} {od_Program_comes_ahead an_Program_comes_ahead : Option Addr} {sl_Program_comes_ahead : Array (Option Value)} {oc_Program_comes_ahead kV_Program_comes_ahead dc_Program_comes_ahead pm_Program_comes_ahead cd_Program_comes_ahead ct_Program_comes_ahead : Value}
    {f_Program___getitem__ : Addr} {od_Program___getitem__ an_Program___getitem__ : Option Addr} {sl_Program___getitem__ : Array (Option Value)} {oc_Program___getitem__ kV_Program___getitem__ dc_Program___getitem__ pm_Program___getitem__ cd_Program___getitem__ ct_Program___getitem__ : Value}
    {f_Program___len__ : Addr} {od_Program___len__ an_Program___len__ : Option Addr} {sl_Program___len__ : Array (Option Value)} {oc_Program___len__ kV_Program___len__ dc_Program___len__ pm_Program___len__ cd_Program___len__ ct_Program___len__ : Value}
    {f_Program___contains__ : Addr} {od_Program___contains__ an_Program___contains__ : Option Addr} {sl_Program___contains__ : Array (Option Value)} {oc_Program___contains__ kV_Program___contains__ dc_Program___contains__ pm_Program___contains__ cd_Program___contains__ ct_Program___contains__ : Value}
    {f_Program___eq__ : Addr} {od_Program___eq__ an_Program___eq__ : Option Addr} {sl_Program___eq__ : Array (Option Value)} {oc_Program___eq__ kV_Program___eq__ dc_Program___eq__ pm_Program___eq__ cd_Program___eq__ ct_Program___eq__ : Value}
    {f_Program___str__ : Addr} {od_Program___str__ an_Program___str__ : Option Addr} {sl_Program___str__ : Array (Option Value)} {oc_Program___str__ kV_Program___str__ dc_Program___str__ pm_Program___str__ cd_Program___str__ ct_Program___str__ : Value}
    {f_parts_used : Addr} {od_parts_used an_parts_used : Option Addr} {sl_parts_used : Array (Option Value)} {oc_parts_used kV_parts_used dc_parts_used pm_parts_used cd_parts_used ct_parts_used : Value}
    {f__law_dice : Addr} {od__law_dice an__law_dice : Option Addr} {sl__law_dice : Array (Option Value)} {oc__law_dice kV__law_dice dc__law_dice pm__law_dice cd__law_dice ct__law_dice : Value}
    {f__law_roll : Addr} {od__law_roll an__law_roll : Option Addr} {sl__law_roll : Array (Option Value)} {oc__law_roll kV__law_roll dc__law_roll pm__law_roll cd__law_roll ct__law_roll : Value}
    {f__law_pick : Addr} {od__law_pick an__law_pick : Option Addr} {sl__law_pick : Array (Option Value)} {oc__law_pick kV__law_pick dc__law_pick pm__law_pick cd__law_pick ct__law_pick : Value}
    {f__law_program_nodes : Addr} {od__law_program_nodes an__law_program_nodes : Option Addr} {sl__law_program_nodes : Array (Option Value)} {oc__law_program_nodes kV__law_program_nodes dc__law_program_nodes pm__law_program_nodes cd__law_program_nodes ct__law_program_nodes : Value}
    {f__law_program_text : Addr} {od__law_program_text an__law_program_text : Option Addr} {sl__law_program_text : Array (Option Value)} {oc__law_program_text kV__law_program_text dc__law_program_text pm__law_program_text cd__law_program_text ct__law_program_text : Value}
    {f__law_program_parts : Addr} {od__law_program_parts an__law_program_parts : Option Addr} {sl__law_program_parts : Array (Option Value)} {oc__law_program_parts kV__law_program_parts dc__law_program_parts pm__law_program_parts cd__law_program_parts ct__law_program_parts : Value}
    {f__law_drawn : Addr} {od__law_drawn an__law_drawn : Option Addr} {sl__law_drawn : Array (Option Value)} {oc__law_drawn kV__law_drawn dc__law_drawn pm__law_drawn cd__law_drawn ct__law_drawn : Value}
    {f__law_places_right : Addr} {od__law_places_right an__law_places_right : Option Addr} {sl__law_places_right : Array (Option Value)} {oc__law_places_right kV__law_places_right dc__law_places_right pm__law_places_right cd__law_places_right ct__law_places_right : Value}
    {f__law_is_ahead : Addr} {od__law_is_ahead an__law_is_ahead : Option Addr} {sl__law_is_ahead : Array (Option Value)} {oc__law_is_ahead kV__law_is_ahead dc__law_is_ahead pm__law_is_ahead cd__law_is_ahead ct__law_is_ahead : Value}
    {f__law_right : Addr} {od__law_right an__law_right : Option Addr} {sl__law_right : Array (Option Value)} {oc__law_right kV__law_right dc__law_right pm__law_right cd__law_right ct__law_right : Value}
    {f_law : Addr} {od_law an_law : Option Addr} {sl_law : Array (Option Value)} {oc_law kV_law dc_law pm_law cd_law ct_law : Value}
    {Cx_BuildError : Addr}
    {Cx_InvalidProgram : Addr}
    (z_abs : PySem.W.nsIn K mainGlobals "abs" = some none)
    (z_all : PySem.W.nsIn K mainGlobals "all" = some none)
    (z_bool : PySem.W.nsIn K mainGlobals "bool" = some none)
    (z_dict : PySem.W.nsIn K mainGlobals "dict" = some none)
    (z_enumerate : PySem.W.nsIn K mainGlobals "enumerate" = some none)
    (z_int : PySem.W.nsIn K mainGlobals "int" = some none)
    (z_isinstance : PySem.W.nsIn K mainGlobals "isinstance" = some none)
    (z_len : PySem.W.nsIn K mainGlobals "len" = some none)
    (z_list : PySem.W.nsIn K mainGlobals "list" = some none)
    (z_max : PySem.W.nsIn K mainGlobals "max" = some none)
    (z_min : PySem.W.nsIn K mainGlobals "min" = some none)
    (z_range : PySem.W.nsIn K mainGlobals "range" = some none)
    (z_repr : PySem.W.nsIn K mainGlobals "repr" = some none)
    (z_set : PySem.W.nsIn K mainGlobals "set" = some none)
    (z_sorted : PySem.W.nsIn K mainGlobals "sorted" = some none)
    (z_str : PySem.W.nsIn K mainGlobals "str" = some none)
    (z_sum : PySem.W.nsIn K mainGlobals "sum" = some none)
    (z_tuple : PySem.W.nsIn K mainGlobals "tuple" = some none)
    (z_zip : PySem.W.nsIn K mainGlobals "zip" = some none)
    (y_DIGITS : PySem.W.nsIn K mainGlobals "DIGITS" = some (some (.str "0123456789" t_DIGITS)))
    (y_DOT : PySem.W.nsIn K mainGlobals "DOT" = some (some (.str ". " t_DOT)))
    (y_GAP : PySem.W.nsIn K mainGlobals "GAP" = some (some (.str "?" t_GAP)))
    (y_LAMBDA : PySem.W.nsIn K mainGlobals "LAMBDA" = some (some (.str "\\" t_LAMBDA)))
    (y_LETTERS : PySem.W.nsIn K mainGlobals "LETTERS" = some (some (.str "abcdefghijklmnopqrstuvwxyz" t_LETTERS)))
    (y_LONGEST : PySem.W.nsIn K mainGlobals "LONGEST" = some (some (.int 1000000000000000000000000000000000000000000000000000000000000 t_LONGEST)))
    (y_MAX_COUNT : PySem.W.nsIn K mainGlobals "MAX_COUNT" = some (some (.int 15 t_MAX_COUNT)))
    (y_MAX_LETTERS : PySem.W.nsIn K mainGlobals "MAX_LETTERS" = some (some (.int 8 t_MAX_LETTERS)))
    (y_MAX_LEVEL : PySem.W.nsIn K mainGlobals "MAX_LEVEL" = some (some (.int 99 t_MAX_LEVEL)))
    (y_MAX_NODES : PySem.W.nsIn K mainGlobals "MAX_NODES" = some (some (.int 40 t_MAX_NODES)))
    (y_VARIABLE : PySem.W.nsIn K mainGlobals "VARIABLE" = some (some (.str "x" t_VARIABLE)))
    (aC_Nodes : PySem.W.nsIn K mainGlobals "Nodes" = some (some (.ref C_Nodes)))
    (pg_Nodes : PySem.W.plainGet K C_Nodes Str.empty = true)
    (hd_Nodes : PySem.W.hasDictIn K C_Nodes = true)
    (po_Nodes : PySem.W.plainOver K C_Nodes = true)
    (sa_Nodes : PySem.W.findIn K (.ref C_Nodes) "__setattr__" = some (some (.builtin "object.__setattr__")))
    (ha_Nodes : PySem.W.findIn K (.ref C_Nodes) "__class__" = some (some (.builtin "object.__class__")))
    (hn_Nodes : PySem.W.specialIn K (.builtin "object.__class__") "__get__" = some (some (.builtin "getset_descriptor.__get__")))
    (ht_Nodes : PySem.W.takesIn K (.builtin "object.__class__") = some true)
    (hm_Nodes : PySem.W.mroIn K C_Nodes (.type "object") = some true)
    (fa_Nodes_told_nodes : PySem.W.findIn K (.ref C_Nodes) "told_nodes" = some none)
    (ic_Nodes : PySem.W.isClsIn K C_Nodes = true)
    (ty_Nodes : PySem.W.typeIn K (.ref C_Nodes) = some (.type "type"))
    (ki0_Nodes : PySem.W.subIn K (.type "NoneType") (.ref C_Nodes) = some false)
    (ki1_Nodes : PySem.W.subIn K (.type "bool") (.ref C_Nodes) = some false)
    (ki2_Nodes : PySem.W.subIn K (.type "int") (.ref C_Nodes) = some false)
    (ki3_Nodes : PySem.W.subIn K (.type "str") (.ref C_Nodes) = some false)
    (ki4_Nodes : PySem.W.subIn K (.type "tuple") (.ref C_Nodes) = some false)
    (ki5_Nodes : PySem.W.subIn K (.type "list") (.ref C_Nodes) = some false)
    (ki6_Nodes : PySem.W.subIn K (.type "dict") (.ref C_Nodes) = some false)
    (aC_Program : PySem.W.nsIn K mainGlobals "Program" = some (some (.ref C_Program)))
    (pg_Program : PySem.W.plainGet K C_Program Str.empty = true)
    (hd_Program : PySem.W.hasDictIn K C_Program = true)
    (po_Program : PySem.W.plainOver K C_Program = true)
    (sa_Program : PySem.W.findIn K (.ref C_Program) "__setattr__" = some (some (.builtin "object.__setattr__")))
    (ha_Program : PySem.W.findIn K (.ref C_Program) "__class__" = some (some (.builtin "object.__class__")))
    (hn_Program : PySem.W.specialIn K (.builtin "object.__class__") "__get__" = some (some (.builtin "getset_descriptor.__get__")))
    (ht_Program : PySem.W.takesIn K (.builtin "object.__class__") = some true)
    (hm_Program : PySem.W.mroIn K C_Program (.type "object") = some true)
    (fa_Program_own_kids : PySem.W.findIn K (.ref C_Program) "own_kids" = some none)
    (fa_Program_own_ends : PySem.W.findIn K (.ref C_Program) "own_ends" = some none)
    (fa_Program_own_bound : PySem.W.findIn K (.ref C_Program) "own_bound" = some none)
    (fa_Program_own_nodes : PySem.W.findIn K (.ref C_Program) "own_nodes" = some none)
    (ic_Program : PySem.W.isClsIn K C_Program = true)
    (ty_Program : PySem.W.typeIn K (.ref C_Program) = some (.type "type"))
    (ki0_Program : PySem.W.subIn K (.type "NoneType") (.ref C_Program) = some false)
    (ki1_Program : PySem.W.subIn K (.type "bool") (.ref C_Program) = some false)
    (ki2_Program : PySem.W.subIn K (.type "int") (.ref C_Program) = some false)
    (ki3_Program : PySem.W.subIn K (.type "str") (.ref C_Program) = some false)
    (ki4_Program : PySem.W.subIn K (.type "tuple") (.ref C_Program) = some false)
    (ki5_Program : PySem.W.subIn K (.type "list") (.ref C_Program) = some false)
    (ki6_Program : PySem.W.subIn K (.type "dict") (.ref C_Program) = some false)
    (nf0_Program : PySem.W.notFirst K C_Program (.type "NoneType") = true)
    (nf1_Program : PySem.W.notFirst K C_Program (.type "bool") = true)
    (nf2_Program : PySem.W.notFirst K C_Program (.type "int") = true)
    (nf3_Program : PySem.W.notFirst K C_Program (.type "str") = true)
    (nf4_Program : PySem.W.notFirst K C_Program (.type "tuple") = true)
    (nf5_Program : PySem.W.notFirst K C_Program (.type "list") = true)
    (nf6_Program : PySem.W.notFirst K C_Program (.type "dict") = true)
    (nf7_Program : PySem.W.notFirst K C_Program (.ref C_Program) = true)
    (nn_Program : PySem.W.findIn K (.ref C_Program) "__ne__" = some (some (.builtin "object.__ne__")))
    (a_is_integer : PySem.W.nsIn K mainGlobals "is_integer" = some (some (.ref f_is_integer)))
    (l_is_integer : K.lookup f_is_integer = some ⟨oc_is_integer, od_is_integer, .func (PySem.W.fnOf "is_integer" "is_integer" (defArgs s_is_integer) (defBody s_is_integer) (defScope s_is_integer) .none kV_is_integer dc_is_integer pm_is_integer an_is_integer cd_is_integer ct_is_integer), sl_is_integer⟩)
    (c_is_integer : PySem.W.codeIn K cd_is_integer "is_integer" = true)
    (k_is_integer : PySem.W.keepIn K (.ref f_is_integer) = true)
    (a_is_within : PySem.W.nsIn K mainGlobals "is_within" = some (some (.ref f_is_within)))
    (l_is_within : K.lookup f_is_within = some ⟨oc_is_within, od_is_within, .func (PySem.W.fnOf "is_within" "is_within" (defArgs s_is_within) (defBody s_is_within) (defScope s_is_within) .none kV_is_within dc_is_within pm_is_within an_is_within cd_is_within ct_is_within), sl_is_within⟩)
    (c_is_within : PySem.W.codeIn K cd_is_within "is_within" = true)
    (k_is_within : PySem.W.keepIn K (.ref f_is_within) = true)
    (a_is_word : PySem.W.nsIn K mainGlobals "is_word" = some (some (.ref f_is_word)))
    (l_is_word : K.lookup f_is_word = some ⟨oc_is_word, od_is_word, .func (PySem.W.fnOf "is_word" "is_word" (defArgs s_is_word) (defBody s_is_word) (defScope s_is_word) .none kV_is_word dc_is_word pm_is_word an_is_word cd_is_word ct_is_word), sl_is_word⟩)
    (c_is_word : PySem.W.codeIn K cd_is_word "is_word" = true)
    (k_is_word : PySem.W.keepIn K (.ref f_is_word) = true)
    (a_level_of : PySem.W.nsIn K mainGlobals "level_of" = some (some (.ref f_level_of)))
    (l_level_of : K.lookup f_level_of = some ⟨oc_level_of, od_level_of, .func (PySem.W.fnOf "level_of" "level_of" (defArgs s_level_of) (defBody s_level_of) (defScope s_level_of) .none kV_level_of dc_level_of pm_level_of an_level_of cd_level_of ct_level_of), sl_level_of⟩)
    (c_level_of : PySem.W.codeIn K cd_level_of "level_of" = true)
    (k_level_of : PySem.W.keepIn K (.ref f_level_of) = true)
    (a_is_node : PySem.W.nsIn K mainGlobals "is_node" = some (some (.ref f_is_node)))
    (l_is_node : K.lookup f_is_node = some ⟨oc_is_node, od_is_node, .func (PySem.W.fnOf "is_node" "is_node" (defArgs s_is_node) (defBody s_is_node) (defScope s_is_node) .none kV_is_node dc_is_node pm_is_node an_is_node cd_is_node ct_is_node), sl_is_node⟩)
    (c_is_node : PySem.W.codeIn K cd_is_node "is_node" = true)
    (k_is_node : PySem.W.keepIn K (.ref f_is_node) = true)
    (a_kids_of : PySem.W.nsIn K mainGlobals "kids_of" = some (some (.ref f_kids_of)))
    (l_kids_of : K.lookup f_kids_of = some ⟨oc_kids_of, od_kids_of, .func (PySem.W.fnOf "kids_of" "kids_of" (defArgs s_kids_of) (defBody s_kids_of) (defScope s_kids_of) .none kV_kids_of dc_kids_of pm_kids_of an_kids_of cd_kids_of ct_kids_of), sl_kids_of⟩)
    (c_kids_of : PySem.W.codeIn K cd_kids_of "kids_of" = true)
    (k_kids_of : PySem.W.keepIn K (.ref f_kids_of) = true)
    (a_ends_of : PySem.W.nsIn K mainGlobals "ends_of" = some (some (.ref f_ends_of)))
    (l_ends_of : K.lookup f_ends_of = some ⟨oc_ends_of, od_ends_of, .func (PySem.W.fnOf "ends_of" "ends_of" (defArgs s_ends_of) (defBody s_ends_of) (defScope s_ends_of) .none kV_ends_of dc_ends_of pm_ends_of an_ends_of cd_ends_of ct_ends_of), sl_ends_of⟩)
    (c_ends_of : PySem.W.codeIn K cd_ends_of "ends_of" = true)
    (k_ends_of : PySem.W.keepIn K (.ref f_ends_of) = true)
    (a_bound_of : PySem.W.nsIn K mainGlobals "bound_of" = some (some (.ref f_bound_of)))
    (l_bound_of : K.lookup f_bound_of = some ⟨oc_bound_of, od_bound_of, .func (PySem.W.fnOf "bound_of" "bound_of" (defArgs s_bound_of) (defBody s_bound_of) (defScope s_bound_of) .none kV_bound_of dc_bound_of pm_bound_of an_bound_of cd_bound_of ct_bound_of), sl_bound_of⟩)
    (c_bound_of : PySem.W.codeIn K cd_bound_of "bound_of" = true)
    (k_bound_of : PySem.W.keepIn K (.ref f_bound_of) = true)
    (a_are_nodes : PySem.W.nsIn K mainGlobals "are_nodes" = some (some (.ref f_are_nodes)))
    (l_are_nodes : K.lookup f_are_nodes = some ⟨oc_are_nodes, od_are_nodes, .func (PySem.W.fnOf "are_nodes" "are_nodes" (defArgs s_are_nodes) (defBody s_are_nodes) (defScope s_are_nodes) .none kV_are_nodes dc_are_nodes pm_are_nodes an_are_nodes cd_are_nodes ct_are_nodes), sl_are_nodes⟩)
    (c_are_nodes : PySem.W.codeIn K cd_are_nodes "are_nodes" = true)
    (k_are_nodes : PySem.W.keepIn K (.ref f_are_nodes) = true)
    (a_variable_text : PySem.W.nsIn K mainGlobals "variable_text" = some (some (.ref f_variable_text)))
    (l_variable_text : K.lookup f_variable_text = some ⟨oc_variable_text, od_variable_text, .func (PySem.W.fnOf "variable_text" "variable_text" (defArgs s_variable_text) (defBody s_variable_text) (defScope s_variable_text) .none kV_variable_text dc_variable_text pm_variable_text an_variable_text cd_variable_text ct_variable_text), sl_variable_text⟩)
    (c_variable_text : PySem.W.codeIn K cd_variable_text "variable_text" = true)
    (k_variable_text : PySem.W.keepIn K (.ref f_variable_text) = true)
    (a_node_text : PySem.W.nsIn K mainGlobals "node_text" = some (some (.ref f_node_text)))
    (l_node_text : K.lookup f_node_text = some ⟨oc_node_text, od_node_text, .func (PySem.W.fnOf "node_text" "node_text" (defArgs s_node_text) (defBody s_node_text) (defScope s_node_text) .none kV_node_text dc_node_text pm_node_text an_node_text cd_node_text ct_node_text), sl_node_text⟩)
    (c_node_text : PySem.W.codeIn K cd_node_text "node_text" = true)
    (k_node_text : PySem.W.keepIn K (.ref f_node_text) = true)
    (a_argument_text : PySem.W.nsIn K mainGlobals "argument_text" = some (some (.ref f_argument_text)))
    (l_argument_text : K.lookup f_argument_text = some ⟨oc_argument_text, od_argument_text, .func (PySem.W.fnOf "argument_text" "argument_text" (defArgs s_argument_text) (defBody s_argument_text) (defScope s_argument_text) .none kV_argument_text dc_argument_text pm_argument_text an_argument_text cd_argument_text ct_argument_text), sl_argument_text⟩)
    (c_argument_text : PySem.W.codeIn K cd_argument_text "argument_text" = true)
    (k_argument_text : PySem.W.keepIn K (.ref f_argument_text) = true)
    (a_Nodes___init__ : PySem.W.findIn K (.ref C_Nodes) "__init__" = some (some (.ref f_Nodes___init__)))
    (i_Nodes___init__ : PySem.W.isFn K (.ref f_Nodes___init__) = true)
    (l_Nodes___init__ : K.lookup f_Nodes___init__ = some ⟨oc_Nodes___init__, od_Nodes___init__, .func (PySem.W.fnOf "__init__" "Nodes.__init__" (defArgs s_Nodes___init__) (defBody s_Nodes___init__) (defScope s_Nodes___init__) .none kV_Nodes___init__ dc_Nodes___init__ pm_Nodes___init__ an_Nodes___init__ cd_Nodes___init__ ct_Nodes___init__), sl_Nodes___init__⟩)
    (c_Nodes___init__ : PySem.W.codeIn K cd_Nodes___init__ "Nodes.__init__" = true)
    (k_Nodes___init__ : PySem.W.keepIn K (.ref f_Nodes___init__) = true)
    (mk_Nodes : PySem.W.makesIn K C_Nodes = true)
    (kk_Nodes : PySem.W.keepIn K (.ref C_Nodes) = true)
    (a_program_in : PySem.W.nsIn K mainGlobals "program_in" = some (some (.ref f_program_in)))
    (l_program_in : K.lookup f_program_in = some ⟨oc_program_in, od_program_in, .func (PySem.W.fnOf "program_in" "program_in" (defArgs s_program_in) (defBody s_program_in) (defScope s_program_in) .none kV_program_in dc_program_in pm_program_in an_program_in cd_program_in ct_program_in), sl_program_in⟩)
    (c_program_in : PySem.W.codeIn K cd_program_in "program_in" = true)
    (k_program_in : PySem.W.keepIn K (.ref f_program_in) = true)
    (a_Program___init__ : PySem.W.findIn K (.ref C_Program) "__init__" = some (some (.ref f_Program___init__)))
    (i_Program___init__ : PySem.W.isFn K (.ref f_Program___init__) = true)
    (l_Program___init__ : K.lookup f_Program___init__ = some ⟨oc_Program___init__, od_Program___init__, .func (PySem.W.fnOf "__init__" "Program.__init__" (defArgs s_Program___init__) (defBody s_Program___init__) (defScope s_Program___init__) .none kV_Program___init__ dc_Program___init__ pm_Program___init__ an_Program___init__ cd_Program___init__ ct_Program___init__), sl_Program___init__⟩)
    (c_Program___init__ : PySem.W.codeIn K cd_Program___init__ "Program.__init__" = true)
    (k_Program___init__ : PySem.W.keepIn K (.ref f_Program___init__) = true)
    (mk_Program : PySem.W.makesIn K C_Program = true)
    (kk_Program : PySem.W.keepIn K (.ref C_Program) = true)
    (a_Program_nodes : PySem.W.findIn K (.ref C_Program) "nodes" = some (some (.ref p_Program_nodes)))
    (g_Program_nodes : PySem.W.specialIn K (.ref p_Program_nodes) "__get__" = some (some (.builtin "property.__get__")))
    (t_Program_nodes : PySem.W.takesIn K (.ref p_Program_nodes) = some true)
    (r_Program_nodes : PySem.W.recIn K p_Program_nodes "property" = some (.ref f_Program_nodes :: rs_Program_nodes))
    (l_Program_nodes : K.lookup f_Program_nodes = some ⟨oc_Program_nodes, od_Program_nodes, .func (PySem.W.fnOf "nodes" "Program.nodes" (defArgs s_Program_nodes) (defBody s_Program_nodes) (defScope s_Program_nodes) .none kV_Program_nodes dc_Program_nodes pm_Program_nodes an_Program_nodes cd_Program_nodes ct_Program_nodes), sl_Program_nodes⟩)
    (c_Program_nodes : PySem.W.codeIn K cd_Program_nodes "Program.nodes" = true)
    (k_Program_nodes : PySem.W.keepIn K (.ref f_Program_nodes) = true)
    (a_Program_text : PySem.W.findIn K (.ref C_Program) "text" = some (some (.ref p_Program_text)))
    (g_Program_text : PySem.W.specialIn K (.ref p_Program_text) "__get__" = some (some (.builtin "property.__get__")))
    (t_Program_text : PySem.W.takesIn K (.ref p_Program_text) = some true)
    (r_Program_text : PySem.W.recIn K p_Program_text "property" = some (.ref f_Program_text :: rs_Program_text))
    (l_Program_text : K.lookup f_Program_text = some ⟨oc_Program_text, od_Program_text, .func (PySem.W.fnOf "text" "Program.text" (defArgs s_Program_text) (defBody s_Program_text) (defScope s_Program_text) .none kV_Program_text dc_Program_text pm_Program_text an_Program_text cd_Program_text ct_Program_text), sl_Program_text⟩)
    (c_Program_text : PySem.W.codeIn K cd_Program_text "Program.text" = true)
    (k_Program_text : PySem.W.keepIn K (.ref f_Program_text) = true)
    (a_Program_size : PySem.W.findIn K (.ref C_Program) "size" = some (some (.ref p_Program_size)))
    (g_Program_size : PySem.W.specialIn K (.ref p_Program_size) "__get__" = some (some (.builtin "property.__get__")))
    (t_Program_size : PySem.W.takesIn K (.ref p_Program_size) = some true)
    (r_Program_size : PySem.W.recIn K p_Program_size "property" = some (.ref f_Program_size :: rs_Program_size))
    (l_Program_size : K.lookup f_Program_size = some ⟨oc_Program_size, od_Program_size, .func (PySem.W.fnOf "size" "Program.size" (defArgs s_Program_size) (defBody s_Program_size) (defScope s_Program_size) .none kV_Program_size dc_Program_size pm_Program_size an_Program_size cd_Program_size ct_Program_size), sl_Program_size⟩)
    (c_Program_size : PySem.W.codeIn K cd_Program_size "Program.size" = true)
    (k_Program_size : PySem.W.keepIn K (.ref f_Program_size) = true)
    (a_Program_parts : PySem.W.findIn K (.ref C_Program) "parts" = some (some (.ref p_Program_parts)))
    (g_Program_parts : PySem.W.specialIn K (.ref p_Program_parts) "__get__" = some (some (.builtin "property.__get__")))
    (t_Program_parts : PySem.W.takesIn K (.ref p_Program_parts) = some true)
    (r_Program_parts : PySem.W.recIn K p_Program_parts "property" = some (.ref f_Program_parts :: rs_Program_parts))
    (l_Program_parts : K.lookup f_Program_parts = some ⟨oc_Program_parts, od_Program_parts, .func (PySem.W.fnOf "parts" "Program.parts" (defArgs s_Program_parts) (defBody s_Program_parts) (defScope s_Program_parts) .none kV_Program_parts dc_Program_parts pm_Program_parts an_Program_parts cd_Program_parts ct_Program_parts), sl_Program_parts⟩)
    (c_Program_parts : PySem.W.codeIn K cd_Program_parts "Program.parts" = true)
    (k_Program_parts : PySem.W.keepIn K (.ref f_Program_parts) = true)
    (a_Program_counts : PySem.W.findIn K (.ref C_Program) "counts" = some (some (.ref p_Program_counts)))
    (g_Program_counts : PySem.W.specialIn K (.ref p_Program_counts) "__get__" = some (some (.builtin "property.__get__")))
    (t_Program_counts : PySem.W.takesIn K (.ref p_Program_counts) = some true)
    (r_Program_counts : PySem.W.recIn K p_Program_counts "property" = some (.ref f_Program_counts :: rs_Program_counts))
    (l_Program_counts : K.lookup f_Program_counts = some ⟨oc_Program_counts, od_Program_counts, .func (PySem.W.fnOf "counts" "Program.counts" (defArgs s_Program_counts) (defBody s_Program_counts) (defScope s_Program_counts) .none kV_Program_counts dc_Program_counts pm_Program_counts an_Program_counts cd_Program_counts ct_Program_counts), sl_Program_counts⟩)
    (c_Program_counts : PySem.W.codeIn K cd_Program_counts "Program.counts" = true)
    (k_Program_counts : PySem.W.keepIn K (.ref f_Program_counts) = true)
    (a_Program_require_place : PySem.W.findIn K (.ref C_Program) "require_place" = some (some (.ref f_Program_require_place)))
    (i_Program_require_place : PySem.W.isFn K (.ref f_Program_require_place) = true)
    (l_Program_require_place : K.lookup f_Program_require_place = some ⟨oc_Program_require_place, od_Program_require_place, .func (PySem.W.fnOf "require_place" "Program.require_place" (defArgs s_Program_require_place) (defBody s_Program_require_place) (defScope s_Program_require_place) .none kV_Program_require_place dc_Program_require_place pm_Program_require_place an_Program_require_place cd_Program_require_place ct_Program_require_place), sl_Program_require_place⟩)
    (c_Program_require_place : PySem.W.codeIn K cd_Program_require_place "Program.require_place" = true)
    (k_Program_require_place : PySem.W.keepIn K (.ref f_Program_require_place) = true)
    (a_Program_arguments : PySem.W.findIn K (.ref C_Program) "arguments" = some (some (.ref f_Program_arguments)))
    (i_Program_arguments : PySem.W.isFn K (.ref f_Program_arguments) = true)
    (l_Program_arguments : K.lookup f_Program_arguments = some ⟨oc_Program_arguments, od_Program_arguments, .func (PySem.W.fnOf "arguments" "Program.arguments" (defArgs s_Program_arguments) (defBody s_Program_arguments) (defScope s_Program_arguments) .none kV_Program_arguments dc_Program_arguments pm_Program_arguments an_Program_arguments cd_Program_arguments ct_Program_arguments), sl_Program_arguments⟩)
    (c_Program_arguments : PySem.W.codeIn K cd_Program_arguments "Program.arguments" = true)
    (k_Program_arguments : PySem.W.keepIn K (.ref f_Program_arguments) = true)
    (a_Program_bound : PySem.W.findIn K (.ref C_Program) "bound" = some (some (.ref f_Program_bound)))
    (i_Program_bound : PySem.W.isFn K (.ref f_Program_bound) = true)
    (l_Program_bound : K.lookup f_Program_bound = some ⟨oc_Program_bound, od_Program_bound, .func (PySem.W.fnOf "bound" "Program.bound" (defArgs s_Program_bound) (defBody s_Program_bound) (defScope s_Program_bound) .none kV_Program_bound dc_Program_bound pm_Program_bound an_Program_bound cd_Program_bound ct_Program_bound), sl_Program_bound⟩)
    (c_Program_bound : PySem.W.codeIn K cd_Program_bound "Program.bound" = true)
    (k_Program_bound : PySem.W.keepIn K (.ref f_Program_bound) = true)
    (a_Program_way_to : PySem.W.findIn K (.ref C_Program) "way_to" = some (some (.ref f_Program_way_to)))
    (i_Program_way_to : PySem.W.isFn K (.ref f_Program_way_to) = true)
    (l_Program_way_to : K.lookup f_Program_way_to = some ⟨oc_Program_way_to, od_Program_way_to, .func (PySem.W.fnOf "way_to" "Program.way_to" (defArgs s_Program_way_to) (defBody s_Program_way_to) (defScope s_Program_way_to) .none kV_Program_way_to dc_Program_way_to pm_Program_way_to an_Program_way_to cd_Program_way_to ct_Program_way_to), sl_Program_way_to⟩)
    (c_Program_way_to : PySem.W.codeIn K cd_Program_way_to "Program.way_to" = true)
    (k_Program_way_to : PySem.W.keepIn K (.ref f_Program_way_to) = true)
    (a_Program_end : PySem.W.findIn K (.ref C_Program) "end" = some (some (.ref f_Program_end)))
    (i_Program_end : PySem.W.isFn K (.ref f_Program_end) = true)
    (l_Program_end : K.lookup f_Program_end = some ⟨oc_Program_end, od_Program_end, .func (PySem.W.fnOf "end" "Program.end" (defArgs s_Program_end) (defBody s_Program_end) (defScope s_Program_end) .none kV_Program_end dc_Program_end pm_Program_end an_Program_end cd_Program_end ct_Program_end), sl_Program_end⟩)
    (c_Program_end : PySem.W.codeIn K cd_Program_end "Program.end" = true)
    (k_Program_end : PySem.W.keepIn K (.ref f_Program_end) = true)
    (a_Program_renamed : PySem.W.findIn K (.ref C_Program) "renamed" = some (some (.ref f_Program_renamed)))
    (i_Program_renamed : PySem.W.isFn K (.ref f_Program_renamed) = true)
    (l_Program_renamed : K.lookup f_Program_renamed = some ⟨oc_Program_renamed, od_Program_renamed, .func (PySem.W.fnOf "renamed" "Program.renamed" (defArgs s_Program_renamed) (defBody s_Program_renamed) (defScope s_Program_renamed) .none kV_Program_renamed dc_Program_renamed pm_Program_renamed an_Program_renamed cd_Program_renamed ct_Program_renamed), sl_Program_renamed⟩)
    (c_Program_renamed : PySem.W.codeIn K cd_Program_renamed "Program.renamed" = true)
    (k_Program_renamed : PySem.W.keepIn K (.ref f_Program_renamed) = true)
    (a_Program_comes_ahead : PySem.W.findIn K (.ref C_Program) "comes_ahead" = some (some (.ref f_Program_comes_ahead)))
    (i_Program_comes_ahead : PySem.W.isFn K (.ref f_Program_comes_ahead) = true)
    (l_Program_comes_ahead : K.lookup f_Program_comes_ahead = some ⟨oc_Program_comes_ahead, od_Program_comes_ahead, .func (PySem.W.fnOf "comes_ahead" "Program.comes_ahead" (defArgs s_Program_comes_ahead) (defBody s_Program_comes_ahead) (defScope s_Program_comes_ahead) .none kV_Program_comes_ahead dc_Program_comes_ahead pm_Program_comes_ahead an_Program_comes_ahead cd_Program_comes_ahead ct_Program_comes_ahead), sl_Program_comes_ahead⟩)
    (c_Program_comes_ahead : PySem.W.codeIn K cd_Program_comes_ahead "Program.comes_ahead" = true)
    (k_Program_comes_ahead : PySem.W.keepIn K (.ref f_Program_comes_ahead) = true)
    (a_Program___getitem__ : PySem.W.findIn K (.ref C_Program) "__getitem__" = some (some (.ref f_Program___getitem__)))
    (i_Program___getitem__ : PySem.W.isFn K (.ref f_Program___getitem__) = true)
    (fi_Program___getitem__ : PySem.W.fnIn K f_Program___getitem__ = true)
    (l_Program___getitem__ : K.lookup f_Program___getitem__ = some ⟨oc_Program___getitem__, od_Program___getitem__, .func (PySem.W.fnOf "__getitem__" "Program.__getitem__" (defArgs s_Program___getitem__) (defBody s_Program___getitem__) (defScope s_Program___getitem__) .none kV_Program___getitem__ dc_Program___getitem__ pm_Program___getitem__ an_Program___getitem__ cd_Program___getitem__ ct_Program___getitem__), sl_Program___getitem__⟩)
    (c_Program___getitem__ : PySem.W.codeIn K cd_Program___getitem__ "Program.__getitem__" = true)
    (k_Program___getitem__ : PySem.W.keepIn K (.ref f_Program___getitem__) = true)
    (a_Program___len__ : PySem.W.findIn K (.ref C_Program) "__len__" = some (some (.ref f_Program___len__)))
    (i_Program___len__ : PySem.W.isFn K (.ref f_Program___len__) = true)
    (fi_Program___len__ : PySem.W.fnIn K f_Program___len__ = true)
    (l_Program___len__ : K.lookup f_Program___len__ = some ⟨oc_Program___len__, od_Program___len__, .func (PySem.W.fnOf "__len__" "Program.__len__" (defArgs s_Program___len__) (defBody s_Program___len__) (defScope s_Program___len__) .none kV_Program___len__ dc_Program___len__ pm_Program___len__ an_Program___len__ cd_Program___len__ ct_Program___len__), sl_Program___len__⟩)
    (c_Program___len__ : PySem.W.codeIn K cd_Program___len__ "Program.__len__" = true)
    (k_Program___len__ : PySem.W.keepIn K (.ref f_Program___len__) = true)
    (a_Program___contains__ : PySem.W.findIn K (.ref C_Program) "__contains__" = some (some (.ref f_Program___contains__)))
    (i_Program___contains__ : PySem.W.isFn K (.ref f_Program___contains__) = true)
    (fi_Program___contains__ : PySem.W.fnIn K f_Program___contains__ = true)
    (l_Program___contains__ : K.lookup f_Program___contains__ = some ⟨oc_Program___contains__, od_Program___contains__, .func (PySem.W.fnOf "__contains__" "Program.__contains__" (defArgs s_Program___contains__) (defBody s_Program___contains__) (defScope s_Program___contains__) .none kV_Program___contains__ dc_Program___contains__ pm_Program___contains__ an_Program___contains__ cd_Program___contains__ ct_Program___contains__), sl_Program___contains__⟩)
    (c_Program___contains__ : PySem.W.codeIn K cd_Program___contains__ "Program.__contains__" = true)
    (k_Program___contains__ : PySem.W.keepIn K (.ref f_Program___contains__) = true)
    (a_Program___eq__ : PySem.W.findIn K (.ref C_Program) "__eq__" = some (some (.ref f_Program___eq__)))
    (i_Program___eq__ : PySem.W.isFn K (.ref f_Program___eq__) = true)
    (fi_Program___eq__ : PySem.W.fnIn K f_Program___eq__ = true)
    (l_Program___eq__ : K.lookup f_Program___eq__ = some ⟨oc_Program___eq__, od_Program___eq__, .func (PySem.W.fnOf "__eq__" "Program.__eq__" (defArgs s_Program___eq__) (defBody s_Program___eq__) (defScope s_Program___eq__) .none kV_Program___eq__ dc_Program___eq__ pm_Program___eq__ an_Program___eq__ cd_Program___eq__ ct_Program___eq__), sl_Program___eq__⟩)
    (c_Program___eq__ : PySem.W.codeIn K cd_Program___eq__ "Program.__eq__" = true)
    (k_Program___eq__ : PySem.W.keepIn K (.ref f_Program___eq__) = true)
    (a_Program___str__ : PySem.W.findIn K (.ref C_Program) "__str__" = some (some (.ref f_Program___str__)))
    (i_Program___str__ : PySem.W.isFn K (.ref f_Program___str__) = true)
    (fi_Program___str__ : PySem.W.fnIn K f_Program___str__ = true)
    (l_Program___str__ : K.lookup f_Program___str__ = some ⟨oc_Program___str__, od_Program___str__, .func (PySem.W.fnOf "__str__" "Program.__str__" (defArgs s_Program___str__) (defBody s_Program___str__) (defScope s_Program___str__) .none kV_Program___str__ dc_Program___str__ pm_Program___str__ an_Program___str__ cd_Program___str__ ct_Program___str__), sl_Program___str__⟩)
    (c_Program___str__ : PySem.W.codeIn K cd_Program___str__ "Program.__str__" = true)
    (k_Program___str__ : PySem.W.keepIn K (.ref f_Program___str__) = true)
    (a_parts_used : PySem.W.nsIn K mainGlobals "parts_used" = some (some (.ref f_parts_used)))
    (l_parts_used : K.lookup f_parts_used = some ⟨oc_parts_used, od_parts_used, .func (PySem.W.fnOf "parts_used" "parts_used" (defArgs s_parts_used) (defBody s_parts_used) (defScope s_parts_used) .none kV_parts_used dc_parts_used pm_parts_used an_parts_used cd_parts_used ct_parts_used), sl_parts_used⟩)
    (c_parts_used : PySem.W.codeIn K cd_parts_used "parts_used" = true)
    (k_parts_used : PySem.W.keepIn K (.ref f_parts_used) = true)
    (a__law_dice : PySem.W.nsIn K mainGlobals "_law_dice" = some (some (.ref f__law_dice)))
    (l__law_dice : K.lookup f__law_dice = some ⟨oc__law_dice, od__law_dice, .func (PySem.W.fnOf "_law_dice" "_law_dice" (defArgs s__law_dice) (defBody s__law_dice) (defScope s__law_dice) .none kV__law_dice dc__law_dice pm__law_dice an__law_dice cd__law_dice ct__law_dice), sl__law_dice⟩)
    (c__law_dice : PySem.W.codeIn K cd__law_dice "_law_dice" = true)
    (k__law_dice : PySem.W.keepIn K (.ref f__law_dice) = true)
    (a__law_roll : PySem.W.nsIn K mainGlobals "_law_roll" = some (some (.ref f__law_roll)))
    (l__law_roll : K.lookup f__law_roll = some ⟨oc__law_roll, od__law_roll, .func (PySem.W.fnOf "_law_roll" "_law_roll" (defArgs s__law_roll) (defBody s__law_roll) (defScope s__law_roll) .none kV__law_roll dc__law_roll pm__law_roll an__law_roll cd__law_roll ct__law_roll), sl__law_roll⟩)
    (c__law_roll : PySem.W.codeIn K cd__law_roll "_law_roll" = true)
    (k__law_roll : PySem.W.keepIn K (.ref f__law_roll) = true)
    (a__law_pick : PySem.W.nsIn K mainGlobals "_law_pick" = some (some (.ref f__law_pick)))
    (l__law_pick : K.lookup f__law_pick = some ⟨oc__law_pick, od__law_pick, .func (PySem.W.fnOf "_law_pick" "_law_pick" (defArgs s__law_pick) (defBody s__law_pick) (defScope s__law_pick) .none kV__law_pick dc__law_pick pm__law_pick an__law_pick cd__law_pick ct__law_pick), sl__law_pick⟩)
    (c__law_pick : PySem.W.codeIn K cd__law_pick "_law_pick" = true)
    (k__law_pick : PySem.W.keepIn K (.ref f__law_pick) = true)
    (a__law_program_nodes : PySem.W.nsIn K mainGlobals "_law_program_nodes" = some (some (.ref f__law_program_nodes)))
    (l__law_program_nodes : K.lookup f__law_program_nodes = some ⟨oc__law_program_nodes, od__law_program_nodes, .func (PySem.W.fnOf "_law_program_nodes" "_law_program_nodes" (defArgs s__law_program_nodes) (defBody s__law_program_nodes) (defScope s__law_program_nodes) .none kV__law_program_nodes dc__law_program_nodes pm__law_program_nodes an__law_program_nodes cd__law_program_nodes ct__law_program_nodes), sl__law_program_nodes⟩)
    (c__law_program_nodes : PySem.W.codeIn K cd__law_program_nodes "_law_program_nodes" = true)
    (k__law_program_nodes : PySem.W.keepIn K (.ref f__law_program_nodes) = true)
    (a__law_program_text : PySem.W.nsIn K mainGlobals "_law_program_text" = some (some (.ref f__law_program_text)))
    (l__law_program_text : K.lookup f__law_program_text = some ⟨oc__law_program_text, od__law_program_text, .func (PySem.W.fnOf "_law_program_text" "_law_program_text" (defArgs s__law_program_text) (defBody s__law_program_text) (defScope s__law_program_text) .none kV__law_program_text dc__law_program_text pm__law_program_text an__law_program_text cd__law_program_text ct__law_program_text), sl__law_program_text⟩)
    (c__law_program_text : PySem.W.codeIn K cd__law_program_text "_law_program_text" = true)
    (k__law_program_text : PySem.W.keepIn K (.ref f__law_program_text) = true)
    (a__law_program_parts : PySem.W.nsIn K mainGlobals "_law_program_parts" = some (some (.ref f__law_program_parts)))
    (l__law_program_parts : K.lookup f__law_program_parts = some ⟨oc__law_program_parts, od__law_program_parts, .func (PySem.W.fnOf "_law_program_parts" "_law_program_parts" (defArgs s__law_program_parts) (defBody s__law_program_parts) (defScope s__law_program_parts) .none kV__law_program_parts dc__law_program_parts pm__law_program_parts an__law_program_parts cd__law_program_parts ct__law_program_parts), sl__law_program_parts⟩)
    (c__law_program_parts : PySem.W.codeIn K cd__law_program_parts "_law_program_parts" = true)
    (k__law_program_parts : PySem.W.keepIn K (.ref f__law_program_parts) = true)
    (a__law_drawn : PySem.W.nsIn K mainGlobals "_law_drawn" = some (some (.ref f__law_drawn)))
    (l__law_drawn : K.lookup f__law_drawn = some ⟨oc__law_drawn, od__law_drawn, .func (PySem.W.fnOf "_law_drawn" "_law_drawn" (defArgs s__law_drawn) (defBody s__law_drawn) (defScope s__law_drawn) .none kV__law_drawn dc__law_drawn pm__law_drawn an__law_drawn cd__law_drawn ct__law_drawn), sl__law_drawn⟩)
    (c__law_drawn : PySem.W.codeIn K cd__law_drawn "_law_drawn" = true)
    (k__law_drawn : PySem.W.keepIn K (.ref f__law_drawn) = true)
    (a__law_places_right : PySem.W.nsIn K mainGlobals "_law_places_right" = some (some (.ref f__law_places_right)))
    (l__law_places_right : K.lookup f__law_places_right = some ⟨oc__law_places_right, od__law_places_right, .func (PySem.W.fnOf "_law_places_right" "_law_places_right" (defArgs s__law_places_right) (defBody s__law_places_right) (defScope s__law_places_right) .none kV__law_places_right dc__law_places_right pm__law_places_right an__law_places_right cd__law_places_right ct__law_places_right), sl__law_places_right⟩)
    (c__law_places_right : PySem.W.codeIn K cd__law_places_right "_law_places_right" = true)
    (k__law_places_right : PySem.W.keepIn K (.ref f__law_places_right) = true)
    (a__law_is_ahead : PySem.W.nsIn K mainGlobals "_law_is_ahead" = some (some (.ref f__law_is_ahead)))
    (l__law_is_ahead : K.lookup f__law_is_ahead = some ⟨oc__law_is_ahead, od__law_is_ahead, .func (PySem.W.fnOf "_law_is_ahead" "_law_is_ahead" (defArgs s__law_is_ahead) (defBody s__law_is_ahead) (defScope s__law_is_ahead) .none kV__law_is_ahead dc__law_is_ahead pm__law_is_ahead an__law_is_ahead cd__law_is_ahead ct__law_is_ahead), sl__law_is_ahead⟩)
    (c__law_is_ahead : PySem.W.codeIn K cd__law_is_ahead "_law_is_ahead" = true)
    (k__law_is_ahead : PySem.W.keepIn K (.ref f__law_is_ahead) = true)
    (a__law_right : PySem.W.nsIn K mainGlobals "_law_right" = some (some (.ref f__law_right)))
    (l__law_right : K.lookup f__law_right = some ⟨oc__law_right, od__law_right, .func (PySem.W.fnOf "_law_right" "_law_right" (defArgs s__law_right) (defBody s__law_right) (defScope s__law_right) .none kV__law_right dc__law_right pm__law_right an__law_right cd__law_right ct__law_right), sl__law_right⟩)
    (c__law_right : PySem.W.codeIn K cd__law_right "_law_right" = true)
    (k__law_right : PySem.W.keepIn K (.ref f__law_right) = true)
    (a_law : PySem.W.nsIn K mainGlobals "law" = some (some (.ref f_law)))
    (l_law : K.lookup f_law = some ⟨oc_law, od_law, .func (PySem.W.fnOf "law" "law" (defArgs s_law) (defBody s_law) (defScope s_law) .none kV_law dc_law pm_law an_law cd_law ct_law), sl_law⟩)
    (c_law : PySem.W.codeIn K cd_law "law" = true)
    (k_law : PySem.W.keepIn K (.ref f_law) = true)
    (xa_BuildError : PySem.W.nsIn K mainGlobals "BuildError" = some (some (.ref Cx_BuildError)))
    (xe_BuildError : PySem.W.excIn K Cx_BuildError veBm "ValueError.__new__" = true)
    (xk_BuildError : PySem.W.keepIn K (.ref Cx_BuildError) = true)
    (xs_BuildError : PySem.W.subIn K (.ref Cx_BuildError) (.type "BaseException") = some true)
    (xt_BuildError : PySem.W.typeIn K (.ref Cx_BuildError) = some (.type "type"))
    (xa_InvalidProgram : PySem.W.nsIn K mainGlobals "InvalidProgram" = some (some (.ref Cx_InvalidProgram)))
    (xe_InvalidProgram : PySem.W.excIn K Cx_InvalidProgram veBm "ValueError.__new__" = true)
    (xk_InvalidProgram : PySem.W.keepIn K (.ref Cx_InvalidProgram) = true)
    (xs_InvalidProgram : PySem.W.subIn K (.ref Cx_InvalidProgram) (.type "BaseException") = some true)
    (xt_InvalidProgram : PySem.W.typeIn K (.ref Cx_InvalidProgram) = some (.type "type"))
    (xi_BuildError : PySem.W.isClsIn K Cx_BuildError = true)
    (xo_InvalidProgram_BuildError : PySem.W.subIn K (.ref Cx_InvalidProgram) (.ref Cx_BuildError) = some true)
    (xo_BuildError_BuildError : PySem.W.subIn K (.ref Cx_BuildError) (.ref Cx_BuildError) = some true)
    (xi_InvalidProgram : PySem.W.isClsIn K Cx_InvalidProgram = true)
    (xo_InvalidProgram_InvalidProgram : PySem.W.subIn K (.ref Cx_InvalidProgram) (.ref Cx_InvalidProgram) = some true)
    (xo_BuildError_InvalidProgram : PySem.W.subIn K (.ref Cx_BuildError) (.ref Cx_InvalidProgram) = some false) : ∃ Z, All ⟨mg, K⟩ Z := by
  have kcF_Nodes : ClsF ⟨mg, K⟩ "Nodes" C_Nodes := ⟨PySem.W.mg_of X G aC_Nodes, ⟨pg_Nodes, hd_Nodes, po_Nodes, sa_Nodes⟩, ha_Nodes, hn_Nodes, ht_Nodes, hm_Nodes⟩
  have kcF_Program : ClsF ⟨mg, K⟩ "Program" C_Program := ⟨PySem.W.mg_of X G aC_Program, ⟨pg_Program, hd_Program, po_Program, sa_Program⟩, ha_Program, hn_Program, ht_Program, hm_Program⟩
  exact ⟨⟨C_Nodes, C_Program, Cx_BuildError, Cx_InvalidProgram⟩, ⟨PySem.W.mg_none_of X G z_abs,
    PySem.W.mg_none_of X G z_all,
    PySem.W.mg_none_of X G z_bool,
    PySem.W.mg_none_of X G z_dict,
    PySem.W.mg_none_of X G z_enumerate,
    PySem.W.mg_none_of X G z_int,
    PySem.W.mg_none_of X G z_isinstance,
    PySem.W.mg_none_of X G z_len,
    PySem.W.mg_none_of X G z_list,
    PySem.W.mg_none_of X G z_max,
    PySem.W.mg_none_of X G z_min,
    PySem.W.mg_none_of X G z_range,
    PySem.W.mg_none_of X G z_repr,
    PySem.W.mg_none_of X G z_set,
    PySem.W.mg_none_of X G z_sorted,
    PySem.W.mg_none_of X G z_str,
    PySem.W.mg_none_of X G z_sum,
    PySem.W.mg_none_of X G z_tuple,
    PySem.W.mg_none_of X G z_zip,
    ⟨_, PySem.W.mg_of X G y_DIGITS⟩,
    ⟨_, PySem.W.mg_of X G y_DOT⟩,
    ⟨_, PySem.W.mg_of X G y_GAP⟩,
    ⟨_, PySem.W.mg_of X G y_LAMBDA⟩,
    ⟨_, PySem.W.mg_of X G y_LETTERS⟩,
    ⟨_, PySem.W.mg_of X G y_LONGEST⟩,
    ⟨_, PySem.W.mg_of X G y_MAX_COUNT⟩,
    ⟨_, PySem.W.mg_of X G y_MAX_LETTERS⟩,
    ⟨_, PySem.W.mg_of X G y_MAX_LEVEL⟩,
    ⟨_, PySem.W.mg_of X G y_MAX_NODES⟩,
    ⟨_, PySem.W.mg_of X G y_VARIABLE⟩,
    kcF_Nodes,
    fa_Nodes_told_nodes,
    isi_mk kcF_Nodes ic_Nodes ty_Nodes ki0_Nodes ki1_Nodes ki2_Nodes ki3_Nodes ki4_Nodes ki5_Nodes ki6_Nodes,
    kcF_Program,
    fa_Program_own_kids,
    fa_Program_own_ends,
    fa_Program_own_bound,
    fa_Program_own_nodes,
    isi_mk kcF_Program ic_Program ty_Program ki0_Program ki1_Program ki2_Program ki3_Program ki4_Program ki5_Program ki6_Program,
    eqF_mk kcF_Program nf0_Program nf1_Program nf2_Program nf3_Program nf4_Program nf5_Program nf6_Program nf7_Program,
    nn_Program,
    ⟨_, _, PySem.W.mg_of X G a_is_integer, fun_mk (st := s_is_integer) l_is_integer c_is_integer k_is_integer⟩,
    ⟨_, _, PySem.W.mg_of X G a_is_within, fun_mk (st := s_is_within) l_is_within c_is_within k_is_within⟩,
    ⟨_, _, PySem.W.mg_of X G a_is_word, fun_mk (st := s_is_word) l_is_word c_is_word k_is_word⟩,
    ⟨_, _, PySem.W.mg_of X G a_level_of, fun_mk (st := s_level_of) l_level_of c_level_of k_level_of⟩,
    ⟨_, _, PySem.W.mg_of X G a_is_node, fun_mk (st := s_is_node) l_is_node c_is_node k_is_node⟩,
    ⟨_, _, PySem.W.mg_of X G a_kids_of, fun_mk (st := s_kids_of) l_kids_of c_kids_of k_kids_of⟩,
    ⟨_, _, PySem.W.mg_of X G a_ends_of, fun_mk (st := s_ends_of) l_ends_of c_ends_of k_ends_of⟩,
    ⟨_, _, PySem.W.mg_of X G a_bound_of, fun_mk (st := s_bound_of) l_bound_of c_bound_of k_bound_of⟩,
    ⟨_, _, PySem.W.mg_of X G a_are_nodes, fun_mk (st := s_are_nodes) l_are_nodes c_are_nodes k_are_nodes⟩,
    ⟨_, _, PySem.W.mg_of X G a_variable_text, fun_mk (st := s_variable_text) l_variable_text c_variable_text k_variable_text⟩,
    ⟨_, _, PySem.W.mg_of X G a_node_text, fun_mk (st := s_node_text) l_node_text c_node_text k_node_text⟩,
    ⟨_, _, PySem.W.mg_of X G a_argument_text, fun_mk (st := s_argument_text) l_argument_text c_argument_text k_argument_text⟩,
    ⟨_, _, ⟨mk_Nodes, a_Nodes___init__, i_Nodes___init__, kk_Nodes⟩, fun_mk (st := s_Nodes___init__) l_Nodes___init__ c_Nodes___init__ k_Nodes___init__⟩,
    ⟨_, _, PySem.W.mg_of X G a_program_in, fun_mk (st := s_program_in) l_program_in c_program_in k_program_in⟩,
    ⟨_, _, ⟨mk_Program, a_Program___init__, i_Program___init__, kk_Program⟩, fun_mk (st := s_Program___init__) l_Program___init__ c_Program___init__ k_Program___init__⟩,
    ⟨_, _, _, ⟨a_Program_nodes, g_Program_nodes, t_Program_nodes, _, r_Program_nodes⟩, fun_mk (st := s_Program_nodes) l_Program_nodes c_Program_nodes k_Program_nodes⟩,
    ⟨_, _, _, ⟨a_Program_text, g_Program_text, t_Program_text, _, r_Program_text⟩, fun_mk (st := s_Program_text) l_Program_text c_Program_text k_Program_text⟩,
    ⟨_, _, _, ⟨a_Program_size, g_Program_size, t_Program_size, _, r_Program_size⟩, fun_mk (st := s_Program_size) l_Program_size c_Program_size k_Program_size⟩,
    ⟨_, _, _, ⟨a_Program_parts, g_Program_parts, t_Program_parts, _, r_Program_parts⟩, fun_mk (st := s_Program_parts) l_Program_parts c_Program_parts k_Program_parts⟩,
    ⟨_, _, _, ⟨a_Program_counts, g_Program_counts, t_Program_counts, _, r_Program_counts⟩, fun_mk (st := s_Program_counts) l_Program_counts c_Program_counts k_Program_counts⟩,
    ⟨_, _, ⟨a_Program_require_place, i_Program_require_place, k_Program_require_place⟩, fun_mk (st := s_Program_require_place) l_Program_require_place c_Program_require_place k_Program_require_place⟩,
    ⟨_, _, ⟨a_Program_arguments, i_Program_arguments, k_Program_arguments⟩, fun_mk (st := s_Program_arguments) l_Program_arguments c_Program_arguments k_Program_arguments⟩,
    ⟨_, _, ⟨a_Program_bound, i_Program_bound, k_Program_bound⟩, fun_mk (st := s_Program_bound) l_Program_bound c_Program_bound k_Program_bound⟩,
    ⟨_, _, ⟨a_Program_way_to, i_Program_way_to, k_Program_way_to⟩, fun_mk (st := s_Program_way_to) l_Program_way_to c_Program_way_to k_Program_way_to⟩,
    ⟨_, _, ⟨a_Program_end, i_Program_end, k_Program_end⟩, fun_mk (st := s_Program_end) l_Program_end c_Program_end k_Program_end⟩,
    ⟨_, _, ⟨a_Program_renamed, i_Program_renamed, k_Program_renamed⟩, fun_mk (st := s_Program_renamed) l_Program_renamed c_Program_renamed k_Program_renamed⟩,
    ⟨_, _, ⟨a_Program_comes_ahead, i_Program_comes_ahead, k_Program_comes_ahead⟩, fun_mk (st := s_Program_comes_ahead) l_Program_comes_ahead c_Program_comes_ahead k_Program_comes_ahead⟩,
    ⟨_, _, ⟨⟨a_Program___getitem__, i_Program___getitem__, k_Program___getitem__⟩, fi_Program___getitem__⟩, fun_mk (st := s_Program___getitem__) l_Program___getitem__ c_Program___getitem__ k_Program___getitem__⟩,
    ⟨_, _, ⟨⟨a_Program___len__, i_Program___len__, k_Program___len__⟩, fi_Program___len__⟩, fun_mk (st := s_Program___len__) l_Program___len__ c_Program___len__ k_Program___len__⟩,
    ⟨_, _, ⟨⟨a_Program___contains__, i_Program___contains__, k_Program___contains__⟩, fi_Program___contains__⟩, fun_mk (st := s_Program___contains__) l_Program___contains__ c_Program___contains__ k_Program___contains__⟩,
    ⟨_, _, ⟨⟨a_Program___eq__, i_Program___eq__, k_Program___eq__⟩, fi_Program___eq__⟩, fun_mk (st := s_Program___eq__) l_Program___eq__ c_Program___eq__ k_Program___eq__⟩,
    ⟨_, _, ⟨⟨a_Program___str__, i_Program___str__, k_Program___str__⟩, fi_Program___str__⟩, fun_mk (st := s_Program___str__) l_Program___str__ c_Program___str__ k_Program___str__⟩,
    ⟨_, _, PySem.W.mg_of X G a_parts_used, fun_mk (st := s_parts_used) l_parts_used c_parts_used k_parts_used⟩,
    ⟨_, _, PySem.W.mg_of X G a__law_dice, fun_mk (st := s__law_dice) l__law_dice c__law_dice k__law_dice⟩,
    ⟨_, _, PySem.W.mg_of X G a__law_roll, fun_mk (st := s__law_roll) l__law_roll c__law_roll k__law_roll⟩,
    ⟨_, _, PySem.W.mg_of X G a__law_pick, fun_mk (st := s__law_pick) l__law_pick c__law_pick k__law_pick⟩,
    ⟨_, _, PySem.W.mg_of X G a__law_program_nodes, fun_mk (st := s__law_program_nodes) l__law_program_nodes c__law_program_nodes k__law_program_nodes⟩,
    ⟨_, _, PySem.W.mg_of X G a__law_program_text, fun_mk (st := s__law_program_text) l__law_program_text c__law_program_text k__law_program_text⟩,
    ⟨_, _, PySem.W.mg_of X G a__law_program_parts, fun_mk (st := s__law_program_parts) l__law_program_parts c__law_program_parts k__law_program_parts⟩,
    ⟨_, _, PySem.W.mg_of X G a__law_drawn, fun_mk (st := s__law_drawn) l__law_drawn c__law_drawn k__law_drawn⟩,
    ⟨_, _, PySem.W.mg_of X G a__law_places_right, fun_mk (st := s__law_places_right) l__law_places_right c__law_places_right k__law_places_right⟩,
    ⟨_, _, PySem.W.mg_of X G a__law_is_ahead, fun_mk (st := s__law_is_ahead) l__law_is_ahead c__law_is_ahead k__law_is_ahead⟩,
    ⟨_, _, PySem.W.mg_of X G a__law_right, fun_mk (st := s__law_right) l__law_right c__law_right k__law_right⟩,
    ⟨_, _, PySem.W.mg_of X G a_law, fun_mk (st := s_law) l_law c_law k_law⟩,
    ⟨PySem.W.mg_of X G xa_BuildError, xe_BuildError, xk_BuildError, xs_BuildError, xt_BuildError⟩,
    ⟨PySem.W.mg_of X G xa_InvalidProgram, xe_InvalidProgram, xk_InvalidProgram, xs_InvalidProgram, xt_InvalidProgram⟩,
    (CatF.cons (b := true) (PySem.W.mg_of X G xa_BuildError) (exm_sub xi_BuildError xt_BuildError xs_BuildError xo_BuildError_BuildError) (by decide +kernel) (CatF.cons (b := true) (PySem.W.mg_of X G xa_InvalidProgram) (exm_sub xi_BuildError xt_BuildError xs_BuildError xo_InvalidProgram_BuildError) (by decide +kernel) CatF.none)),
    (CatF.cons (b := false) (PySem.W.mg_of X G xa_BuildError) (exm_sub xi_InvalidProgram xt_InvalidProgram xs_InvalidProgram xo_BuildError_InvalidProgram) (by decide +kernel) (CatF.cons (b := true) (PySem.W.mg_of X G xa_InvalidProgram) (exm_sub xi_InvalidProgram xt_InvalidProgram xs_InvalidProgram xo_InvalidProgram_InvalidProgram) (by decide +kernel) CatF.none))⟩⟩
open KP
theorem ok_all {P : Program} {w : World} {mg : Gm} {base : Heap} (A : ∃ Z, All mg Z) : DefOk P w mg base 152 "law" 1 f_law := by
  obtain ⟨Z, A⟩ := A
  have g_bound_of := ok_bound_of (P := P) (w := w) (base := base) A 
  have g_is_integer := ok_is_integer (P := P) (w := w) (base := base) A 
  have g_is_within := ok_is_within (P := P) (w := w) (base := base) A g_is_integer
  have g_is_word := ok_is_word (P := P) (w := w) (base := base) A 
  have g_level_of := ok_level_of (P := P) (w := w) (base := base) A 
  have g_is_node := ok_is_node (P := P) (w := w) (base := base) A g_is_within g_is_word g_level_of
  have g_kids_of := ok_kids_of (P := P) (w := w) (base := base) A 
  have g_are_nodes := ok_are_nodes (P := P) (w := w) (base := base) A g_bound_of g_is_node g_kids_of g_level_of
  have g_ends_of := ok_ends_of (P := P) (w := w) (base := base) A 
  have g_Program___init__ := ok_Program___init__ (P := P) (w := w) (base := base) A g_are_nodes g_bound_of g_ends_of g_kids_of
  have g_Program_require_place := ok_Program_require_place (P := P) (w := w) (base := base) A g_is_within
  have g_Program_bound := ok_Program_bound (P := P) (w := w) (base := base) A g_Program_require_place
  have g_variable_text := ok_variable_text (P := P) (w := w) (base := base) A 
  have g_node_text := rs_node_text (P := P) (w := w) (base := base) A g_variable_text 61
  have g_Program_text := ok_Program_text (P := P) (w := w) (base := base) A g_node_text
  have g_Program_way_to := ok_Program_way_to (P := P) (w := w) (base := base) A g_Program_require_place
  have g__law_dice := ok__law_dice (P := P) (w := w) (base := base) A 
  have g_parts_used := ok_parts_used (P := P) (w := w) (base := base) A g_is_word
  have g_Program___contains__ := ok_Program___contains__ (P := P) (w := w) (base := base) A g_is_word g_parts_used
  have g_Program___eq__ := ok_Program___eq__ (P := P) (w := w) (base := base) A 
  have g_Program___len__ := ok_Program___len__ (P := P) (w := w) (base := base) A 
  have g_Program___str__ := ok_Program___str__ (P := P) (w := w) (base := base) A g_node_text
  have g_Program_comes_ahead := ok_Program_comes_ahead (P := P) (w := w) (base := base) A 
  have g_Program_counts := ok_Program_counts (P := P) (w := w) (base := base) A g_parts_used
  have g_Program_nodes := ok_Program_nodes (P := P) (w := w) (base := base) A 
  have g_Program_parts := ok_Program_parts (P := P) (w := w) (base := base) A g_parts_used
  have g_Nodes___init__ := ok_Nodes___init__ (P := P) (w := w) (base := base) A 
  have g_program_in := ok_program_in (P := P) (w := w) (base := base) A g_Nodes___init__ g_Program___init__
  have g_Program_renamed := ok_Program_renamed (P := P) (w := w) (base := base) A g_is_word g_parts_used g_program_in
  have g_Program_size := ok_Program_size (P := P) (w := w) (base := base) A 
  have g__law_roll := ok__law_roll (P := P) (w := w) (base := base) A 
  have g__law_pick := ok__law_pick (P := P) (w := w) (base := base) A g__law_roll
  have g__law_program_parts := rs__law_program_parts (P := P) (w := w) (base := base) A  61
  have g__law_drawn := rs__law_drawn (P := P) (w := w) (base := base) A g__law_pick g__law_program_parts g__law_roll 41
  have g__law_is_ahead := ok__law_is_ahead (P := P) (w := w) (base := base) A 
  have g_Program___getitem__ := ok_Program___getitem__ (P := P) (w := w) (base := base) A g_Program_require_place
  have g_Program_arguments := ok_Program_arguments (P := P) (w := w) (base := base) A g_Program_require_place
  have g_Program_end := ok_Program_end (P := P) (w := w) (base := base) A g_Program_require_place
  have g__law_places_right := rs__law_places_right (P := P) (w := w) (base := base) A g_Program___getitem__ g_Program_arguments g_Program_bound g_Program_end g_Program_nodes g_Program_way_to 61
  have g__law_program_nodes := rs__law_program_nodes (P := P) (w := w) (base := base) A  61
  have g__law_program_text := rs__law_program_text (P := P) (w := w) (base := base) A  61
  have g__law_right := ok__law_right (P := P) (w := w) (base := base) A g_Program___contains__ g_Program___eq__ g_Program___init__ g_Program___len__ g_Program___str__ g_Program_comes_ahead g_Program_counts g_Program_nodes g_Program_parts g_Program_renamed g_Program_size g_Program_text g__law_drawn g__law_is_ahead g__law_pick g__law_places_right g__law_program_nodes g__law_program_text
  have g_law := ok_law (P := P) (w := w) (base := base) A g_Program___init__ g_Program_bound g_Program_text g_Program_way_to g__law_dice g__law_right
  exact g_law
end K15
open PySem PySem.W PyProof.Rows in
set_option maxRecDepth 100000 in
set_option maxHeartbeats 0 in
theorem PySem.Challenge.cw_fromparts_k15_programs_told_holds : PySem.Challenge.rw_fromparts_k15_programs_told.Holds := by
  w_on; o_law; k_head; (case hw => w_witness2)
  k_fill
  letI : FP.Tabl := ⟨[]⟩
  refine FP.walkG (l := PySem.Challenge.rw_fromparts_k15_programs_told) (f := KP.f_law) (k := 152) rfl rfl rfl ⟨⟨rfl, by decide, by decide⟩, rfl⟩ (fun w h Y => PySem.W.kIn_of Y) ?F (fun ns h => ⟨⟨ns, rfl, h⟩, rfl⟩)
  case F =>
    intro w mg h KX G base
    refine K15.ok_all ?A
    refine' K15.all_mk KX G ?z_abs ?z_all ?z_bool ?z_dict ?z_enumerate ?z_int ?z_isinstance ?z_len ?z_list ?z_max ?z_min ?z_range ?z_repr ?z_set ?z_sorted ?z_str ?z_sum ?z_tuple ?z_zip ?y_DIGITS ?y_DOT ?y_GAP ?y_LAMBDA ?y_LETTERS ?y_LONGEST ?y_MAX_COUNT ?y_MAX_LETTERS ?y_MAX_LEVEL ?y_MAX_NODES ?y_VARIABLE ?aC_Nodes ?pg_Nodes ?hd_Nodes ?po_Nodes ?sa_Nodes ?ha_Nodes ?hn_Nodes ?ht_Nodes ?hm_Nodes ?fa_Nodes_told_nodes ?ic_Nodes ?ty_Nodes ?ki0_Nodes ?ki1_Nodes ?ki2_Nodes ?ki3_Nodes ?ki4_Nodes ?ki5_Nodes ?ki6_Nodes ?aC_Program ?pg_Program ?hd_Program ?po_Program ?sa_Program ?ha_Program ?hn_Program ?ht_Program ?hm_Program ?fa_Program_own_kids ?fa_Program_own_ends ?fa_Program_own_bound ?fa_Program_own_nodes ?ic_Program ?ty_Program ?ki0_Program ?ki1_Program ?ki2_Program ?ki3_Program ?ki4_Program ?ki5_Program ?ki6_Program ?nf0_Program ?nf1_Program ?nf2_Program ?nf3_Program ?nf4_Program ?nf5_Program ?nf6_Program ?nf7_Program ?nn_Program ?a_is_integer ?l_is_integer ?c_is_integer ?k_is_integer ?a_is_within ?l_is_within ?c_is_within ?k_is_within ?a_is_word ?l_is_word ?c_is_word ?k_is_word ?a_level_of ?l_level_of ?c_level_of ?k_level_of ?a_is_node ?l_is_node ?c_is_node ?k_is_node ?a_kids_of ?l_kids_of ?c_kids_of ?k_kids_of ?a_ends_of ?l_ends_of ?c_ends_of ?k_ends_of ?a_bound_of ?l_bound_of ?c_bound_of ?k_bound_of ?a_are_nodes ?l_are_nodes ?c_are_nodes ?k_are_nodes ?a_variable_text ?l_variable_text ?c_variable_text ?k_variable_text ?a_node_text ?l_node_text ?c_node_text ?k_node_text ?a_argument_text ?l_argument_text ?c_argument_text ?k_argument_text ?a_Nodes___init__ ?i_Nodes___init__ ?l_Nodes___init__ ?c_Nodes___init__ ?k_Nodes___init__ ?mk_Nodes ?kk_Nodes ?a_program_in ?l_program_in ?c_program_in ?k_program_in ?a_Program___init__ ?i_Program___init__ ?l_Program___init__ ?c_Program___init__ ?k_Program___init__ ?mk_Program ?kk_Program ?a_Program_nodes ?g_Program_nodes ?t_Program_nodes ?r_Program_nodes ?l_Program_nodes ?c_Program_nodes ?k_Program_nodes ?a_Program_text ?g_Program_text ?t_Program_text ?r_Program_text ?l_Program_text ?c_Program_text ?k_Program_text ?a_Program_size ?g_Program_size ?t_Program_size ?r_Program_size ?l_Program_size ?c_Program_size ?k_Program_size ?a_Program_parts ?g_Program_parts ?t_Program_parts ?r_Program_parts ?l_Program_parts ?c_Program_parts ?k_Program_parts ?a_Program_counts ?g_Program_counts ?t_Program_counts ?r_Program_counts ?l_Program_counts ?c_Program_counts ?k_Program_counts ?a_Program_require_place ?i_Program_require_place ?l_Program_require_place ?c_Program_require_place ?k_Program_require_place ?a_Program_arguments ?i_Program_arguments ?l_Program_arguments ?c_Program_arguments ?k_Program_arguments ?a_Program_bound ?i_Program_bound ?l_Program_bound ?c_Program_bound ?k_Program_bound ?a_Program_way_to ?i_Program_way_to ?l_Program_way_to ?c_Program_way_to ?k_Program_way_to ?a_Program_end ?i_Program_end ?l_Program_end ?c_Program_end ?k_Program_end ?a_Program_renamed ?i_Program_renamed ?l_Program_renamed ?c_Program_renamed ?k_Program_renamed ?a_Program_comes_ahead ?i_Program_comes_ahead ?l_Program_comes_ahead ?c_Program_comes_ahead ?k_Program_comes_ahead ?a_Program___getitem__ ?i_Program___getitem__ ?fi_Program___getitem__ ?l_Program___getitem__ ?c_Program___getitem__ ?k_Program___getitem__ ?a_Program___len__ ?i_Program___len__ ?fi_Program___len__ ?l_Program___len__ ?c_Program___len__ ?k_Program___len__ ?a_Program___contains__ ?i_Program___contains__ ?fi_Program___contains__ ?l_Program___contains__ ?c_Program___contains__ ?k_Program___contains__ ?a_Program___eq__ ?i_Program___eq__ ?fi_Program___eq__ ?l_Program___eq__ ?c_Program___eq__ ?k_Program___eq__ ?a_Program___str__ ?i_Program___str__ ?fi_Program___str__ ?l_Program___str__ ?c_Program___str__ ?k_Program___str__ ?a_parts_used ?l_parts_used ?c_parts_used ?k_parts_used ?a__law_dice ?l__law_dice ?c__law_dice ?k__law_dice ?a__law_roll ?l__law_roll ?c__law_roll ?k__law_roll ?a__law_pick ?l__law_pick ?c__law_pick ?k__law_pick ?a__law_program_nodes ?l__law_program_nodes ?c__law_program_nodes ?k__law_program_nodes ?a__law_program_text ?l__law_program_text ?c__law_program_text ?k__law_program_text ?a__law_program_parts ?l__law_program_parts ?c__law_program_parts ?k__law_program_parts ?a__law_drawn ?l__law_drawn ?c__law_drawn ?k__law_drawn ?a__law_places_right ?l__law_places_right ?c__law_places_right ?k__law_places_right ?a__law_is_ahead ?l__law_is_ahead ?c__law_is_ahead ?k__law_is_ahead ?a__law_right ?l__law_right ?c__law_right ?k__law_right ?a_law ?l_law ?c_law ?k_law ?xa_BuildError ?xe_BuildError ?xk_BuildError ?xs_BuildError ?xt_BuildError ?xa_InvalidProgram ?xe_InvalidProgram ?xk_InvalidProgram ?xs_InvalidProgram ?xt_InvalidProgram ?xi_BuildError ?xo_InvalidProgram_BuildError ?xo_BuildError_BuildError ?xi_InvalidProgram ?xo_InvalidProgram_InvalidProgram ?xo_BuildError_InvalidProgram
    (case z_abs => k_is)
    (case z_all => k_is)
    (case z_bool => k_is)
    (case z_dict => k_is)
    (case z_enumerate => k_is)
    (case z_int => k_is)
    (case z_isinstance => k_is)
    (case z_len => k_is)
    (case z_list => k_is)
    (case z_max => k_is)
    (case z_min => k_is)
    (case z_range => k_is)
    (case z_repr => k_is)
    (case z_set => k_is)
    (case z_sorted => k_is)
    (case z_str => k_is)
    (case z_sum => k_is)
    (case z_tuple => k_is)
    (case z_zip => k_is)
    (case y_DIGITS => k_is)
    (case y_DOT => k_is)
    (case y_GAP => k_is)
    (case y_LAMBDA => k_is)
    (case y_LETTERS => k_is)
    (case y_LONGEST => k_is)
    (case y_MAX_COUNT => k_is)
    (case y_MAX_LETTERS => k_is)
    (case y_MAX_LEVEL => k_is)
    (case y_MAX_NODES => k_is)
    (case y_VARIABLE => k_is)
    (case aC_Nodes => k_is)
    (case pg_Nodes => k_is)
    (case hd_Nodes => k_is)
    (case po_Nodes => k_is)
    (case sa_Nodes => k_is)
    (case ha_Nodes => k_is)
    (case hn_Nodes => k_is)
    (case ht_Nodes => k_is)
    (case hm_Nodes => k_is)
    (case fa_Nodes_told_nodes => k_is)
    (case ic_Nodes => k_is)
    (case ty_Nodes => k_is)
    (case ki0_Nodes => k_is)
    (case ki1_Nodes => k_is)
    (case ki2_Nodes => k_is)
    (case ki3_Nodes => k_is)
    (case ki4_Nodes => k_is)
    (case ki5_Nodes => k_is)
    (case ki6_Nodes => k_is)
    (case aC_Program => k_is)
    (case pg_Program => k_is)
    (case hd_Program => k_is)
    (case po_Program => k_is)
    (case sa_Program => k_is)
    (case ha_Program => k_is)
    (case hn_Program => k_is)
    (case ht_Program => k_is)
    (case hm_Program => k_is)
    (case fa_Program_own_kids => k_is)
    (case fa_Program_own_ends => k_is)
    (case fa_Program_own_bound => k_is)
    (case fa_Program_own_nodes => k_is)
    (case ic_Program => k_is)
    (case ty_Program => k_is)
    (case ki0_Program => k_is)
    (case ki1_Program => k_is)
    (case ki2_Program => k_is)
    (case ki3_Program => k_is)
    (case ki4_Program => k_is)
    (case ki5_Program => k_is)
    (case ki6_Program => k_is)
    (case nf0_Program => k_is)
    (case nf1_Program => k_is)
    (case nf2_Program => k_is)
    (case nf3_Program => k_is)
    (case nf4_Program => k_is)
    (case nf5_Program => k_is)
    (case nf6_Program => k_is)
    (case nf7_Program => k_is)
    (case nn_Program => k_is)
    (case a_is_integer => k_is)
    (case l_is_integer => k_is)
    (case c_is_integer => k_is)
    (case k_is_integer => k_is)
    (case a_is_within => k_is)
    (case l_is_within => k_is)
    (case c_is_within => k_is)
    (case k_is_within => k_is)
    (case a_is_word => k_is)
    (case l_is_word => k_is)
    (case c_is_word => k_is)
    (case k_is_word => k_is)
    (case a_level_of => k_is)
    (case l_level_of => k_is)
    (case c_level_of => k_is)
    (case k_level_of => k_is)
    (case a_is_node => k_is)
    (case l_is_node => k_is)
    (case c_is_node => k_is)
    (case k_is_node => k_is)
    (case a_kids_of => k_is)
    (case l_kids_of => k_is)
    (case c_kids_of => k_is)
    (case k_kids_of => k_is)
    (case a_ends_of => k_is)
    (case l_ends_of => k_is)
    (case c_ends_of => k_is)
    (case k_ends_of => k_is)
    (case a_bound_of => k_is)
    (case l_bound_of => k_is)
    (case c_bound_of => k_is)
    (case k_bound_of => k_is)
    (case a_are_nodes => k_is)
    (case l_are_nodes => k_is)
    (case c_are_nodes => k_is)
    (case k_are_nodes => k_is)
    (case a_variable_text => k_is)
    (case l_variable_text => k_is)
    (case c_variable_text => k_is)
    (case k_variable_text => k_is)
    (case a_node_text => k_is)
    (case l_node_text => k_is)
    (case c_node_text => k_is)
    (case k_node_text => k_is)
    (case a_argument_text => k_is)
    (case l_argument_text => k_is)
    (case c_argument_text => k_is)
    (case k_argument_text => k_is)
    (case a_Nodes___init__ => k_is)
    (case i_Nodes___init__ => k_is)
    (case l_Nodes___init__ => k_is)
    (case c_Nodes___init__ => k_is)
    (case k_Nodes___init__ => k_is)
    (case mk_Nodes => k_is)
    (case kk_Nodes => k_is)
    (case a_program_in => k_is)
    (case l_program_in => k_is)
    (case c_program_in => k_is)
    (case k_program_in => k_is)
    (case a_Program___init__ => k_is)
    (case i_Program___init__ => k_is)
    (case l_Program___init__ => k_is)
    (case c_Program___init__ => k_is)
    (case k_Program___init__ => k_is)
    (case mk_Program => k_is)
    (case kk_Program => k_is)
    (case a_Program_nodes => k_is)
    (case g_Program_nodes => k_is)
    (case t_Program_nodes => k_is)
    (case r_Program_nodes => k_is)
    (case l_Program_nodes => k_is)
    (case c_Program_nodes => k_is)
    (case k_Program_nodes => k_is)
    (case a_Program_text => k_is)
    (case g_Program_text => k_is)
    (case t_Program_text => k_is)
    (case r_Program_text => k_is)
    (case l_Program_text => k_is)
    (case c_Program_text => k_is)
    (case k_Program_text => k_is)
    (case a_Program_size => k_is)
    (case g_Program_size => k_is)
    (case t_Program_size => k_is)
    (case r_Program_size => k_is)
    (case l_Program_size => k_is)
    (case c_Program_size => k_is)
    (case k_Program_size => k_is)
    (case a_Program_parts => k_is)
    (case g_Program_parts => k_is)
    (case t_Program_parts => k_is)
    (case r_Program_parts => k_is)
    (case l_Program_parts => k_is)
    (case c_Program_parts => k_is)
    (case k_Program_parts => k_is)
    (case a_Program_counts => k_is)
    (case g_Program_counts => k_is)
    (case t_Program_counts => k_is)
    (case r_Program_counts => k_is)
    (case l_Program_counts => k_is)
    (case c_Program_counts => k_is)
    (case k_Program_counts => k_is)
    (case a_Program_require_place => k_is)
    (case i_Program_require_place => k_is)
    (case l_Program_require_place => k_is)
    (case c_Program_require_place => k_is)
    (case k_Program_require_place => k_is)
    (case a_Program_arguments => k_is)
    (case i_Program_arguments => k_is)
    (case l_Program_arguments => k_is)
    (case c_Program_arguments => k_is)
    (case k_Program_arguments => k_is)
    (case a_Program_bound => k_is)
    (case i_Program_bound => k_is)
    (case l_Program_bound => k_is)
    (case c_Program_bound => k_is)
    (case k_Program_bound => k_is)
    (case a_Program_way_to => k_is)
    (case i_Program_way_to => k_is)
    (case l_Program_way_to => k_is)
    (case c_Program_way_to => k_is)
    (case k_Program_way_to => k_is)
    (case a_Program_end => k_is)
    (case i_Program_end => k_is)
    (case l_Program_end => k_is)
    (case c_Program_end => k_is)
    (case k_Program_end => k_is)
    (case a_Program_renamed => k_is)
    (case i_Program_renamed => k_is)
    (case l_Program_renamed => k_is)
    (case c_Program_renamed => k_is)
    (case k_Program_renamed => k_is)
    (case a_Program_comes_ahead => k_is)
    (case i_Program_comes_ahead => k_is)
    (case l_Program_comes_ahead => k_is)
    (case c_Program_comes_ahead => k_is)
    (case k_Program_comes_ahead => k_is)
    (case a_Program___getitem__ => k_is)
    (case i_Program___getitem__ => k_is)
    (case fi_Program___getitem__ => k_is)
    (case l_Program___getitem__ => k_is)
    (case c_Program___getitem__ => k_is)
    (case k_Program___getitem__ => k_is)
    (case a_Program___len__ => k_is)
    (case i_Program___len__ => k_is)
    (case fi_Program___len__ => k_is)
    (case l_Program___len__ => k_is)
    (case c_Program___len__ => k_is)
    (case k_Program___len__ => k_is)
    (case a_Program___contains__ => k_is)
    (case i_Program___contains__ => k_is)
    (case fi_Program___contains__ => k_is)
    (case l_Program___contains__ => k_is)
    (case c_Program___contains__ => k_is)
    (case k_Program___contains__ => k_is)
    (case a_Program___eq__ => k_is)
    (case i_Program___eq__ => k_is)
    (case fi_Program___eq__ => k_is)
    (case l_Program___eq__ => k_is)
    (case c_Program___eq__ => k_is)
    (case k_Program___eq__ => k_is)
    (case a_Program___str__ => k_is)
    (case i_Program___str__ => k_is)
    (case fi_Program___str__ => k_is)
    (case l_Program___str__ => k_is)
    (case c_Program___str__ => k_is)
    (case k_Program___str__ => k_is)
    (case a_parts_used => k_is)
    (case l_parts_used => k_is)
    (case c_parts_used => k_is)
    (case k_parts_used => k_is)
    (case a__law_dice => k_is)
    (case l__law_dice => k_is)
    (case c__law_dice => k_is)
    (case k__law_dice => k_is)
    (case a__law_roll => k_is)
    (case l__law_roll => k_is)
    (case c__law_roll => k_is)
    (case k__law_roll => k_is)
    (case a__law_pick => k_is)
    (case l__law_pick => k_is)
    (case c__law_pick => k_is)
    (case k__law_pick => k_is)
    (case a__law_program_nodes => k_is)
    (case l__law_program_nodes => k_is)
    (case c__law_program_nodes => k_is)
    (case k__law_program_nodes => k_is)
    (case a__law_program_text => k_is)
    (case l__law_program_text => k_is)
    (case c__law_program_text => k_is)
    (case k__law_program_text => k_is)
    (case a__law_program_parts => k_is)
    (case l__law_program_parts => k_is)
    (case c__law_program_parts => k_is)
    (case k__law_program_parts => k_is)
    (case a__law_drawn => k_is)
    (case l__law_drawn => k_is)
    (case c__law_drawn => k_is)
    (case k__law_drawn => k_is)
    (case a__law_places_right => k_is)
    (case l__law_places_right => k_is)
    (case c__law_places_right => k_is)
    (case k__law_places_right => k_is)
    (case a__law_is_ahead => k_is)
    (case l__law_is_ahead => k_is)
    (case c__law_is_ahead => k_is)
    (case k__law_is_ahead => k_is)
    (case a__law_right => k_is)
    (case l__law_right => k_is)
    (case c__law_right => k_is)
    (case k__law_right => k_is)
    (case a_law => k_is)
    (case l_law => k_is)
    (case c_law => k_is)
    (case k_law => k_is)
    (case xa_BuildError => k_is)
    (case xe_BuildError => k_exc)
    (case xk_BuildError => k_is)
    (case xs_BuildError => k_is)
    (case xt_BuildError => k_is)
    (case xa_InvalidProgram => k_is)
    (case xe_InvalidProgram => k_exc)
    (case xk_InvalidProgram => k_is)
    (case xs_InvalidProgram => k_is)
    (case xt_InvalidProgram => k_is)
    (case xi_BuildError => k_is)
    (case xo_InvalidProgram_BuildError => k_is)
    (case xo_BuildError_BuildError => k_is)
    (case xi_InvalidProgram => k_is)
    (case xo_InvalidProgram_InvalidProgram => k_is)
    (case xo_BuildError_InvalidProgram => k_is)
#print axioms PySem.Challenge.cw_fromparts_k15_programs_told_holds
