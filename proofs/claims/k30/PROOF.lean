import PyProof.Rows.All
import Wide.All
import OpenK.AllK
import Wide.FinOn
import HandS.ForMost
import HandS.ForExc
import HandS.Walk
import HandS.IsInst
import HandS.RaiseMore
import HandS.TupAny
import HandS.Lambda
import HandS.NoneIn
import HandS.Wide
import PyProof.ListStr
import PyProof.ReprRoads
import HandS.More
import HandS.Property
import KE.KCallOwn
import HandS.Set
import PyProof.Rows.SortShellAny
import HandS.Star
import HandS.FStr
import HandS.DictComp
import HandS.IterVal
import KE.KOwnIter
import HandS.ClsMeth
import KE.KEqNest
import KE.KMinBuiltin
import OpenK.KMeth
import HandS.EndTab
import KE.KExcInit
import HandS.ExcField
import HandS.TryMany
import KE.GoesMore
import HandS.Zip
import KE.KDictZip
import KE.KItemsList
import HandS.StrMore
import PyProof.Rows.StrCountLaw
import PyProof.StrBlock2
import PyProof.MeetsIn
import PyProof.NeKinds
import PyProof.FactsAll.dict_2
import KE.KFmtOwn
import HandS.Defaults
import KE.KEqDict
import KE.KDictList
import KE.GoesEnum
import HandS.Replace
import HandS.ReplaceLit
import HandS.Iter
import HandS.Style
import HandS.Conv
import HandS.TupMul
import PyProof.Rows.CountFlat
import KE.DataCmp
import HandS.TupLe
import PyProof.Rows.SumAny
import KE.KDictSum
import HandS.Text
import KE.KRevSl
import PyProof.P3In
import HandS.Strs
import HandS.SortInts
import HandS.Codes
import HandS.ReplaceList
import PyProof.StrLawsRepr
import PyProof.Fits
import KE.KExcLine
import PySem.Challenge.RW_fromparts_k30_rooms_judged
set_option Elab.async false
set_option linter.all false
set_option maxRecDepth 100000
set_option maxHeartbeats 4000000
/-! FP1: a heap-free layer over HandS: data D, worlds, judgements whose readings speak of data alone. -/
namespace FP
open PySem L2
/-- a world: what never changes; what may change under all (the dice, the tables of code); the dice -/
structure Wd where
  H : Hp
  T : Addr → Prop
  Dc : Addr → Prop
/-- data without addresses (a lambda at hand is told by its place and the world at its making) -/
inductive D where
  | non | bl (b : Bool) | int (i : Int) | str (x : Str)
  | tup (xs : List D) | lst (xs : List D) | fz (xs : List D)
  | dct (kvs : List (Key × D)) | ins (c : Str) (fs : List (Str × D)) | tok | cl (c : Str)
  | fn (f : Addr) (W : Wd)
/-- the module: its names, the written part -/
structure Gm where
  mg : Str → Option Value
  K : PySem.W.Frag
/-- the tables of code, with the names of what is made there -/
class Tabl where
  B : List (Addr × Str)
variable [Tabl]
structure Le (W W' : Wd) : Prop where
  h : Same W.H W'.H
  t : ∀ a, W.T a → W'.T a
  dc : ∀ a, W.Dc a → W'.Dc a
theorem Le.refl (W : Wd) : Le W W := ⟨Same.refl _, fun _ h => h, fun _ h => h⟩
theorem Le.trans {W W1 W2 : Wd} (a : Le W W1) (b : Le W1 W2) : Le W W2 := ⟨a.h.trans b.h, fun x h => b.t x (a.t x h), fun x h => b.dc x (a.dc x h)⟩
mutual
inductive Rep (mg : Gm) (W : Wd) : V → D → Prop
  | non : Rep mg W .non .non
  | bl (b : Bool) : Rep mg W (.bl b) (.bl b)
  | int (i : Int) : Rep mg W (.int i) (.int i)
  | str (x : Str) : Rep mg W (.str x) (.str x)
  | tup {a : Addr} {vs : List V} {ds : List D} : W.H a = some (.tup vs) → Reps mg W vs ds → Rep mg W (.ref a) (.tup ds)
  | lst {a : Addr} {vs : List V} {ds : List D} : W.H a = some (.lst vs) → Reps mg W vs ds → Rep mg W (.ref a) (.lst ds)
  | fz {a : Addr} {vs : List V} {ds : List D} : SqL mg.K W.H a vs → Reps mg W vs ds → Rep mg W (.ref a) (.fz ds)
  | dct {a : Addr} {o : Obj} {kvs : List (Key × V)} {ds : List (Key × D)} : W.H a = some (.frz o (.dK kvs)) → kvs.map (·.1) = ds.map (·.1) → Reps mg W (kvs.map (·.2)) (ds.map (·.2)) → Rep mg W (.ref a) (.dct ds)
  | ins {a C dx : Addr} {fs : List (Str × V)} {c : Str} {ds : List (Str × D)} : mg.mg c = some (.ref C) → W.H a = some (.ins C dx fs) → fs.map (·.1) = ds.map (·.1) → Reps mg W (fs.map (·.2)) (ds.map (·.2)) → Rep mg W (.ref a) (.ins c ds)
  | tok {a : Addr} : W.Dc a → Rep mg W (.ref a) .tok
  | cl {C : Addr} {c : Str} : mg.mg c = some (.ref C) → Rep mg W (.ref C) (.cl c)
  | fn {f : Addr} {W0 : Wd} : Le W0 W → Rep mg W (.ref f) (.fn f W0)
inductive Reps (mg : Gm) (W : Wd) : List V → List D → Prop
  | nil : Reps mg W [] []
  | cons {v : V} {vs : List V} {d : D} {ds : List D} : Rep mg W v d → Reps mg W vs ds → Reps mg W (v :: vs) (d :: ds)
end
section
variable {mg : Gm} {W W' : Wd}
theorem Rep.mono (l : Le W W') {v : V} {d : D} (r : Rep mg W v d) : Rep mg W' v d :=
  Rep.rec (motive_1 := fun v d _ => Rep mg W' v d) (motive_2 := fun vs ds _ => Reps mg W' vs ds) .non (fun b => .bl b) (fun b => .int b) (fun b => .str b) (fun h _ r => .tup (l.h _ _ h) r) (fun h _ r => .lst (l.h _ _ h) r) (fun h _ r => .fz (l.h.seq h) r) (fun h e _ r => .dct (l.h _ _ h) e r) (fun c h e _ r => .ins c (l.h _ _ h) e r) (fun t => .tok (l.dc _ t)) (fun h => .cl h) (fun h => .fn (h.trans l)) .nil (fun _ _ r t => .cons r t) r
theorem Reps.mono (l : Le W W') {vs : List V} {ds : List D} (r : Reps mg W vs ds) : Reps mg W' vs ds :=
  Reps.rec (motive_1 := fun v d _ => True) (motive_2 := fun vs ds _ => Reps mg W' vs ds) True.intro (fun _ => True.intro) (fun _ => True.intro) (fun _ => True.intro) (fun _ _ _ => True.intro) (fun _ _ _ => True.intro) (fun _ _ _ => True.intro) (fun _ _ _ _ => True.intro) (fun _ _ _ _ _ => True.intro) (fun _ => True.intro) (fun _ => True.intro) (fun _ => True.intro) .nil (fun r _ _ t => .cons (r.mono l) t) r
theorem Reps.length : ∀ {vs : List V} {ds : List D}, Reps mg W vs ds → vs.length = ds.length
  | _, _, .nil => rfl
  | _, _, .cons _ t => congrArg (· + 1) (Reps.length t)
theorem Reps.append : ∀ {vs : List V} {ds : List D} {us : List V} {es : List D}, Reps mg W vs ds → Reps mg W us es → Reps mg W (vs ++ us) (ds ++ es)
  | _, _, _, _, .nil, s => s
  | _, _, _, _, .cons r t, s => .cons r (Reps.append t s)
theorem Reps.snoc {vs : List V} {ds : List D} {v : V} {d : D} (r : Reps mg W vs ds) (h : Rep mg W v d) : Reps mg W (vs ++ [v]) (ds ++ [d]) := r.append (.cons h .nil)
theorem Reps.get : ∀ {vs : List V} {ds : List D} {i : Nat} {d : D}, Reps mg W vs ds → ds[i]? = some d → ∃ v, vs[i]? = some v ∧ Rep mg W v d
  | _, _, _, _, .nil, e => by simp at e
  | _, _, 0, _, .cons r _, e => by
    simp at e
    subst e
    exact ⟨_, rfl, r⟩
  | _, _, i + 1, d, .cons _ t, e => by
    obtain ⟨v, h1, h2⟩ := Reps.get (i := i) (d := d) t (by simpa using e)
    exact ⟨v, by simpa using h1, h2⟩
theorem Reps.getV : ∀ {vs : List V} {ds : List D} {i : Nat} {v : V}, Reps mg W vs ds → vs[i]? = some v → ∃ d, ds[i]? = some d ∧ Rep mg W v d
  | _, _, _, _, .nil, e => by simp at e
  | _, _, 0, _, .cons r _, e => by
    simp at e
    subst e
    exact ⟨_, rfl, r⟩
  | _, _, i + 1, d, .cons _ t, e => by
    obtain ⟨v, h1, h2⟩ := Reps.getV (i := i) (v := d) t (by simpa using e)
    exact ⟨v, by simpa using h1, h2⟩
theorem Reps.drop : ∀ {vs : List V} {ds : List D} (n : Nat), Reps mg W vs ds → Reps mg W (vs.drop n) (ds.drop n)
  | _, _, 0, r => r
  | _, _, _ + 1, .nil => .nil
  | _, _, n + 1, .cons _ t => Reps.drop n t
theorem Reps.take : ∀ {vs : List V} {ds : List D} (n : Nat), Reps mg W vs ds → Reps mg W (vs.take n) (ds.take n)
  | _, _, 0, _ => .nil
  | _, _, _ + 1, .nil => .nil
  | _, _, n + 1, .cons r t => .cons r (Reps.take n t)
theorem Reps.eraseIdx : ∀ {vs : List V} {ds : List D} (n : Nat), Reps mg W vs ds → Reps mg W (vs.eraseIdx n) (ds.eraseIdx n)
  | _, _, _, .nil => .nil
  | _, _, 0, .cons _ t => t
  | _, _, n + 1, .cons r t => .cons r (Reps.eraseIdx n t)
theorem Reps.set : ∀ {vs : List V} {ds : List D} {v : V} {d : D} (n : Nat), Reps mg W vs ds → Rep mg W v d → Reps mg W (vs.set n v) (ds.set n d)
  | _, _, _, _, _, .nil, _ => .nil
  | _, _, _, _, 0, .cons _ t, h => .cons h t
  | _, _, _, _, n + 1, .cons r t, h => .cons r (Reps.set n t h)
theorem Reps.replicate {v : V} {d : D} (h : Rep mg W v d) : ∀ n, Reps mg W (List.replicate n v) (List.replicate n d)
  | 0 => .nil
  | n + 1 => .cons h (Reps.replicate h n)
theorem Reps.reverse : ∀ {vs : List V} {ds : List D}, Reps mg W vs ds → Reps mg W vs.reverse ds.reverse
  | _, _, .nil => .nil
  | _, _, .cons r t => by
    rw [List.reverse_cons, List.reverse_cons]
    exact (Reps.reverse t).snoc r
theorem Reps.ints : ∀ (ns : List Int), Reps mg W (ns.map V.int) (ns.map D.int)
  | [] => .nil
  | n :: r => .cons (.int n) (Reps.ints r)
theorem Reps.strs : ∀ (ns : List Str), Reps mg W (ns.map V.str) (ns.map D.str)
  | [] => .nil
  | n :: r => .cons (.str n) (Reps.strs r)
end
/-- the heap bears the world -/
structure Holds (W : Wd) (H : Hp) : Prop where
  same : Same W.H H
  exm : ∀ a, W.T a → W.H a = none ∧ ∃ o, H a = some o
  tok : ∀ a, W.Dc a → W.T a ∧ ∃ x y z, H a = some (.lst [.int x, .int y, .int z])
  tab : ∀ p ∈ Tabl.B, W.T p.1 ∧ LamX.TabS H p.1 p.2
  all : ∀ b ps, H b = some (.tbl ps) → ∃ q, (b, q) ∈ Tabl.B
/-- a new object of the unchanging part -/
def Wd.put (W : Wd) (p : Addr) (o : HO) : Wd := { W with H := upd W.H p o }
theorem Holds.nT {W : Wd} {H : Hp} (h : Holds W H) {p : Addr} (n : H p = none) : ¬ W.T p := fun t => by
  obtain ⟨_, o, e⟩ := h.exm p t
  rw [e] at n
  cases n
theorem Holds.lay {W : Wd} {H : Hp} (h : Holds W H) {p : Addr} {o : HO} (n : H p = none) (no : ∀ ps, o ≠ .tbl ps) : Holds W (upd H p o) := by
  have up : ∀ b u, H b = some u → upd H p o b = some u := fun b u e => by
    rw [upd_ne (ne_of_none e n)]
    exact e
  refine ⟨fun b u e => up b u (h.same b u e), fun a t => ?_, fun a t => ?_, fun q hq => ?_, fun b ps e => ?_⟩
  · obtain ⟨h1, u, h2⟩ := h.exm a t
    exact ⟨h1, u, up a u h2⟩
  · obtain ⟨h1, x, y, z, h2⟩ := h.tok a t
    exact ⟨h1, x, y, z, up a _ h2⟩
  · obtain ⟨h1, h2⟩ := h.tab q hq
    exact ⟨h1, h2.ext up⟩
  · by_cases hb : b = p
    · rw [hb, upd_same] at e
      exact absurd (Option.some.inj e) (no ps)
    · rw [upd_ne hb] at e
      exact h.all b ps e
theorem Holds.put {W : Wd} {H : Hp} (h : Holds W H) {p : Addr} {o : HO} (e : H p = some o) (nt : ¬ W.T p) : Holds (W.put p o) H := by
  refine ⟨fun b u q => ?_, fun a t => ?_, h.tok, h.tab, h.all⟩
  · by_cases hb : b = p
    · subst hb
      have q' : upd W.H b o b = some u := q
      rw [upd_same] at q'
      rw [e]
      exact q'
    · have q' : upd W.H p o b = some u := q
      rw [upd_ne hb] at q'
      exact h.same b u q'
  · have na : a ≠ p := fun q => nt (q ▸ t)
    obtain ⟨h1, r⟩ := h.exm a t
    refine ⟨?_, r⟩
    show upd W.H p o a = none
    rw [upd_ne na]
    exact h1
theorem Holds.own {W : Wd} {H : Hp} (h : Holds W H) {p : Addr} {o o' : HO} (e : H p = some o) (nw : W.H p = none) (nt : ¬ W.T p) (nx : ∀ φ, o ≠ .ext φ) (no : ∀ ps, o' ≠ .tbl ps) : Holds W (upd H p o') := by
  refine ⟨fun b u q => ?_, fun a t => ?_, fun a t => ?_, fun q hq => ?_, fun b ps q => ?_⟩
  · rw [upd_ne (ne_of_none q nw)]
    exact h.same b u q
  · have na : a ≠ p := fun q => nt (q ▸ t)
    obtain ⟨h1, u, h2⟩ := h.exm a t
    exact ⟨h1, u, by rw [upd_ne na]; exact h2⟩
  · obtain ⟨h1, x, y, z, h2⟩ := h.tok a t
    have na : a ≠ p := fun q => nt (q ▸ h1)
    exact ⟨h1, x, y, z, by rw [upd_ne na]; exact h2⟩
  · obtain ⟨h1, ps, h2, h3, h4⟩ := h.tab q hq
    have na : q.1 ≠ p := fun z => nt (z ▸ h1)
    refine ⟨h1, ps, by rw [upd_ne na]; exact h2, h3, fun pos cv hc => ?_⟩
    obtain ⟨c, e1, e2⟩ := h4 pos cv hc
    refine ⟨c, e1, ?_⟩
    have nc : c ≠ p := fun z => by
      rw [z, e] at e2
      exact nx _ (Option.some.inj e2)
    rw [upd_ne nc]
    exact e2
  · by_cases hb : b = p
    · rw [hb, upd_same] at q
      exact absurd (Option.some.inj q) (no ps)
    · rw [upd_ne hb] at q
      exact h.all b ps q
structure Step (W : Wd) (H : Hp) (W' : Wd) (H' : Hp) : Prop where
  le : Le W W'
  holds : Holds W' H'
  keep : ∀ b o, H b = some o → ¬ W.T b → H' b = some o
  fresh : ∀ b o, H b = some o → W'.H b = W.H b
  freshT : ∀ b, W'.T b → W.T b ∨ H b = none
  live : ∀ b o, H b = some o → ∃ o', H' b = some o'
theorem Step.refl {W : Wd} {H : Hp} (h : Holds W H) : Step W H W H :=
  ⟨Le.refl W, h, fun _ _ e _ => e, fun _ _ _ => rfl, fun _ t => .inl t, fun _ o e => ⟨o, e⟩⟩
theorem Step.trans {W W1 W2 : Wd} {H H1 H2 : Hp} (a : Step W H W1 H1) (b : Step W1 H1 W2 H2) : Step W H W2 H2 where
  le := a.le.trans b.le
  holds := b.holds
  keep := fun c o e n => by
    refine b.keep c o (a.keep c o e n) fun t => ?_
    rcases a.freshT c t with t | t
    · exact n t
    · rw [e] at t
      cases t
  fresh := fun c o e => by
    obtain ⟨o', e'⟩ := a.live c o e
    rw [b.fresh c o' e', a.fresh c o e]
  freshT := fun c t => by
    rcases b.freshT c t with t | t
    · exact a.freshT c t
    · refine .inr ?_
      cases q : H c with
      | none => rfl
      | some o =>
        obtain ⟨o', e'⟩ := a.live c o q
        rw [e'] at t
        cases t
  live := fun c o e => by
    obtain ⟨o', e'⟩ := a.live c o e
    exact b.live c o' e'
/-- from the same heap on, with a later world -/
theorem Step.rebase {W W1 : Wd} {H H1 : Hp} (a : Step W H W1 H1) : Step W1 H W1 H1 :=
  ⟨Le.refl W1, a.holds, fun b o e n => a.keep b o e fun t => n (a.le.t b t), fun _ _ _ => rfl, fun _ t => .inl t, a.live⟩
theorem Step.join {W W1 W2 : Wd} {H H1 H2 : Hp} (a : Step W H W1 H1) (b : Step W1 H W2 H2) : Step W H W2 H2 where
  le := a.le.trans b.le
  holds := b.holds
  keep := fun c o e n => b.keep c o e fun t => by
    rcases a.freshT c t with t | t
    · exact n t
    · rw [e] at t
      cases t
  fresh := fun c o e => (b.fresh c o e).trans (a.fresh c o e)
  freshT := fun c t => by
    rcases b.freshT c t with t | t
    · exact a.freshT c t
    · exact .inr t
  live := b.live
theorem Wd.put_le {W : Wd} {p : Addr} {o : HO} (nw : W.H p = none) : Le W (W.put p o) := ⟨fun b u e => by
  show upd W.H p o b = some u
  rw [upd_ne (ne_of_none e nw)]
  exact e, fun _ t => t, fun _ t => t⟩
theorem Step.alloc {W : Wd} {H : Hp} (h : Holds W H) {p : Addr} {o : HO} (n : H p = none) (no : ∀ ps, o ≠ .tbl ps := by intro _ h; cases h) : Step W H (W.put p o) (upd H p o) := by
  have nw : W.H p = none := h.same.free n
  refine ⟨Wd.put_le nw, (h.lay n no).put upd_same (h.nT n), fun b u e _ => ?_, fun b u e => ?_, fun b t => .inl t, fun b u e => ?_⟩
  · rw [upd_ne (ne_of_none e n)]
    exact e
  · show upd W.H p o b = W.H b
    rw [upd_ne (ne_of_none e n)]
  · exact ⟨u, by rw [upd_ne (ne_of_none e n)]; exact e⟩
/-- a new object beside the world (owned) -/
theorem Step.lay {W : Wd} {H : Hp} (h : Holds W H) {p : Addr} {o : HO} (n : H p = none) (no : ∀ ps, o ≠ .tbl ps := by intro _ h; cases h) : Step W H W (upd H p o) := by
  refine ⟨Le.refl W, h.lay n no, fun b u e _ => ?_, fun _ _ _ => rfl, fun b t => .inl t, fun b u e => ?_⟩
  · rw [upd_ne (ne_of_none e n)]
    exact e
  · exact ⟨u, by rw [upd_ne (ne_of_none e n)]; exact e⟩
/-- an owned thing is taken into the world -/
theorem Step.take {W : Wd} {H : Hp} (h : Holds W H) {p : Addr} {o : HO} (e : H p = some o) (nw : W.H p = none) (nt : ¬ W.T p) : Le W (W.put p o) ∧ Holds (W.put p o) H := ⟨Wd.put_le nw, h.put e nt⟩
/-- a step that ends with the taking in of an object that was not there at its start -/
theorem Step.taken {W W1 : Wd} {H H1 : Hp} (s : Step W H W1 H1) {p : Addr} {o : HO} (n : H p = none) (e : H1 p = some o) (nw : W1.H p = none) (nt : ¬ W1.T p) : Step W H (W1.put p o) H1 := by
  obtain ⟨l, h⟩ := Step.take s.holds e nw nt
  refine ⟨s.le.trans l, h, s.keep, fun b u q => ?_, s.freshT, s.live⟩
  show upd W1.H p o b = W.H b
  rw [upd_ne (ne_of_none q n)]
  exact s.fresh b u q
/-- an owned thing is changed -/
theorem Step.own {W W1 : Wd} {H H1 : Hp} (s : Step W H W1 H1) {p : Addr} {o o' : HO} (n : H p = none) (e : H1 p = some o) (nw : W1.H p = none) (nt : ¬ W1.T p) (nx : ∀ φ, o ≠ .ext φ := by intro _ h; cases h) (no : ∀ ps, o' ≠ .tbl ps := by intro _ h; cases h) : Step W H W1 (upd H1 p o') := by
  refine ⟨s.le, s.holds.own e nw nt nx no, fun b u q nq => ?_, s.fresh, s.freshT, fun b u q => ?_⟩
  · rw [upd_ne (ne_of_none q n)]
    exact s.keep b u q nq
  · by_cases hb : b = p
    · rw [hb]
      exact ⟨_, upd_same⟩
    · rw [upd_ne hb]
      exact s.live b u q
/-- a field of an owned object: a datum, an owned list, an owned list of owned lists -/
inductive OF where
  | d (x : D) | l (xs : List D) | ll (xss : List (List D))
/-- own lists in an own list, or in an own dict -/
inductive O2 where
  | ll (xss : List (List D)) | dl (kvs : List (Key × List D)) | pd (vs : List (Key × V)) (kvs : List (Key × D))
/-- a local name's place: nothing, a datum, a list that is this def's own, an object that is this def's own, an owned object whose fields may be owned lists (its addresses told) -/
inductive Sl where
  | no | d (x : D) | own (xs : List D) | ob (c : Str) (a : Addr) (fs : List (Str × D)) | ow (c : Str) (as : List Addr) (fs : List (Str × OF))
  | exc (a : Addr) (cls : Value) (d : Option Addr) (c : Str) (fs : List (Str × D))
  | od (kvs : List (Key × D))
  | o2 (as : List Addr) (x : O2)
  | hv (f : Addr → HO)
abbrev Env := List Sl
/-- the addresses that a place owns -/
def Sl.fp (o : Option V) : Sl → List Addr
  | .own _ => match o with
    | some (.ref a) => [a]
    | _ => []
  | .od _ => match o with
    | some (.ref a) => [a]
    | _ => []
  | .ob _ a _ => [a]
  | .ow _ as _ => as
  | .o2 as _ => as
  | .hv _ => match o with
    | some (.ref a) => [a]
    | _ => []
  | _ => []
/-- the inner lists -/
def Inn (mg : Gm) (W : Wd) (H : Hp) (Ls : List Addr) (xss : List (List D)) : Prop :=
  Ls.length = xss.length ∧ ∀ (i : Nat) (l : Addr) (xs : List D), Ls[i]? = some l → xss[i]? = some xs → ∃ vs, H l = some (.lst vs) ∧ Reps mg W vs xs
def O2R (mg : Gm) (W : Wd) (H : Hp) (a : Addr) (Ls : List Addr) : O2 → Prop
  | .ll xss => H a = some (.lst (Ls.map V.ref)) ∧ Inn mg W H Ls xss
  | .dl kvs => H a = some (.dK ((kvs.map (·.1)).zip (Ls.map V.ref))) ∧ Inn mg W H Ls (kvs.map (·.2))
  | .pd vs kvs => Ls = [] ∧ H a = some (.dK vs) ∧ vs.map (·.1) = kvs.map (·.1) ∧ Reps mg W (vs.map (·.2)) (kvs.map (·.2))
/-- an owned field, with its addresses -/
def OFR (mg : Gm) (W : Wd) (H : Hp) (v : V) : OF → List Addr → Prop
  | .d x, as => as = [] ∧ Rep mg W v x
  | .l xs, as => ∃ L vs, as = [L] ∧ v = .ref L ∧ H L = some (.lst vs) ∧ Reps mg W vs xs
  | .ll xss, as => ∃ L Ls, as = L :: Ls ∧ v = .ref L ∧ H L = some (.lst (Ls.map V.ref)) ∧ Ls.length = xss.length ∧ ∀ (i : Nat) (l : Addr) (xs : List D), Ls[i]? = some l → xss[i]? = some xs → ∃ vs, H l = some (.lst vs) ∧ Reps mg W vs xs
def OFs (mg : Gm) (W : Wd) (H : Hp) : List (Str × V) → List (Str × OF) → List Addr → Prop
  | [], [], as => as = []
  | (f, v) :: vs, (g, x) :: fs, as => f = g ∧ ∃ as1 as2, as = as1 ++ as2 ∧ OFR mg W H v x as1 ∧ OFs mg W H vs fs as2
  | _, _, _ => False
/-- an exception's class and its dict -/
def ExcR (mg : Gm) (W : Wd) (cls : Value) (dd : Option Addr) (c : Str) (fs : List (Str × D)) : Prop :=
  ∃ C, mg.mg c = some (.ref C) ∧ cls = .ref C ∧ ((fs = [] ∧ dd = none) ∨ ∃ a vs, dd = some a ∧ W.H a = some (.xd vs) ∧ vs.map (·.1) = fs.map (·.1) ∧ Reps mg W (vs.map (·.2)) (fs.map (·.2)))
theorem ExcR.mono {mg : Gm} {W W' : Wd} {cls : Value} {dd : Option Addr} {c : Str} {fs : List (Str × D)} (h : ExcR mg W cls dd c fs) (l : Le W W') : ExcR mg W' cls dd c fs := by
  obtain ⟨C, h1, h2, h | ⟨a, vs, h3, h4, h5, h6⟩⟩ := h
  · exact ⟨C, h1, h2, .inl h⟩
  · exact ⟨C, h1, h2, .inr ⟨a, vs, h3, l.h _ _ h4, h5, h6.mono l⟩⟩
def SlR (mg : Gm) (B : Hp) (W : Wd) (H : Hp) (o : Option V) : Sl → Prop
  | .no => True
  | .exc a cls d c fs => o = some (.ref a) ∧ ExcR mg W cls d c fs
  | .d x => ∃ v, o = some v ∧ Rep mg W v x
  | .own xs => ∃ a vs, o = some (.ref a) ∧ H a = some (.lst vs) ∧ W.H a = none ∧ ¬ W.T a ∧ B a = none ∧ Reps mg W vs xs
  | .od kvs => ∃ a vs, o = some (.ref a) ∧ H a = some (.dK vs) ∧ W.H a = none ∧ ¬ W.T a ∧ B a = none ∧ vs.map (·.1) = kvs.map (·.1) ∧ Reps mg W (vs.map (·.2)) (kvs.map (·.2))
  | .ob c a fs => ∃ vs, o = some (.ref a) ∧ (∃ C dx, mg.mg c = some (.ref C) ∧ H a = some (.ins C dx vs)) ∧ W.H a = none ∧ ¬ W.T a ∧ B a = none ∧ vs.map (·.1) = fs.map (·.1) ∧ Reps mg W (vs.map (·.2)) (fs.map (·.2))
  | .ow c as fs => ∃ a as' vs, as = a :: as' ∧ o = some (.ref a) ∧ (∃ C dx, mg.mg c = some (.ref C) ∧ H a = some (.ins C dx vs)) ∧ OFs mg W H vs fs as' ∧ as.Nodup ∧ ∀ b ∈ as, (∃ u, H b = some u) ∧ W.H b = none ∧ ¬ W.T b ∧ B b = none
  | .o2 as x => ∃ a Ls, as = a :: Ls ∧ o = some (.ref a) ∧ O2R mg W H a Ls x ∧ as.Nodup ∧ ∀ b ∈ as, (∃ u, H b = some u) ∧ W.H b = none ∧ ¬ W.T b ∧ B b = none
  | .hv f => ∃ a, o = some (.ref a) ∧ H a = some (f a) ∧ W.H a = none ∧ ¬ W.T a ∧ B a = none
structure EnvR (mg : Gm) (B : Hp) (W : Wd) (H : Hp) (σ : St) (ρ : Env) : Prop where
  len : σ.length = ρ.length
  sl : ∀ (i : Nat) (s : Sl), ρ[i]? = some s → ∃ o, σ[i]? = some o ∧ SlR mg B W H o s
  dis : ∀ (i j : Nat) (s t : Sl) (o o' : Option V) (a : Addr), i ≠ j → ρ[i]? = some s → ρ[j]? = some t → σ[i]? = some o → σ[j]? = some o' → a ∈ s.fp o → a ∈ t.fp o' → False
section
variable {mg : Gm} {B : Hp} {W W' : Wd} {H H' : Hp} {σ : St} {ρ : Env}
/-- what is mine has addresses of its own -/
theorem SlR.at {o : Option V} {s : Sl} (h : SlR mg B W H o s) {a : Addr} (m : a ∈ s.fp o) : ∃ u, H a = some u ∧ W.H a = none ∧ ¬ W.T a ∧ B a = none := by
  cases s with
  | no => cases m
  | exc => cases m
  | d x => cases m
  | own xs =>
    obtain ⟨b, vs, h1, h2, h3, h4, h5, _⟩ := h
    subst h1
    obtain rfl := List.mem_singleton.mp m
    exact ⟨_, h2, h3, h4, h5⟩
  | od xs =>
    obtain ⟨b, vs, h1, h2, h3, h4, h5, _⟩ := h
    subst h1
    obtain rfl := List.mem_singleton.mp m
    exact ⟨_, h2, h3, h4, h5⟩
  | ob c b fs =>
    obtain ⟨vs, h1, ⟨C, dx, _, h2⟩, h3, h4, h5, _⟩ := h
    obtain rfl := List.mem_singleton.mp m
    exact ⟨_, h2, h3, h4, h5⟩
  | ow c as fs =>
    obtain ⟨b, as', vs, _, _, _, _, _, k⟩ := h
    obtain ⟨⟨u, hu⟩, k⟩ := k a m
    exact ⟨u, hu, k⟩
  | o2 as x =>
    obtain ⟨b, Ls, _, _, _, _, k⟩ := h
    obtain ⟨⟨u, hu⟩, k⟩ := k a m
    exact ⟨u, hu, k⟩
  | hv f =>
    obtain ⟨b, h1, h2, h3, h4, h5⟩ := h
    subst h1
    obtain rfl := List.mem_singleton.mp m
    exact ⟨_, h2, h3, h4, h5⟩
theorem Inn.keep {Ls : List Addr} {xss : List (List D)} (h : Inn mg W H Ls xss) (l : Le W W') (k : ∀ b ∈ Ls, ∀ u, H b = some u → H' b = some u) : Inn mg W' H' Ls xss := ⟨h.1, fun i b xs q1 q2 => by
  obtain ⟨vs, g1, g2⟩ := h.2 i b xs q1 q2
  exact ⟨vs, k b (List.mem_of_getElem? q1) _ g1, g2.mono l⟩⟩
theorem O2R.keep {a : Addr} {Ls : List Addr} {x : O2} (h : O2R mg W H a Ls x) (l : Le W W') (k : ∀ b ∈ a :: Ls, ∀ u, H b = some u → H' b = some u) : O2R mg W' H' a Ls x := by
  cases x with
  | ll xss => exact ⟨k a List.mem_cons_self _ h.1, h.2.keep l fun b hb => k b (List.mem_cons_of_mem _ hb)⟩
  | dl kvs => exact ⟨k a List.mem_cons_self _ h.1, h.2.keep l fun b hb => k b (List.mem_cons_of_mem _ hb)⟩
  | pd vs kvs =>
    obtain ⟨e, h1, h2, h3⟩ := h
    exact ⟨e, k a List.mem_cons_self _ h1, h2, h3.mono l⟩
theorem OFR.keep {v : V} {x : OF} {as : List Addr} (h : OFR mg W H v x as) (l : Le W W') (k : ∀ b ∈ as, ∀ u, H b = some u → H' b = some u) : OFR mg W' H' v x as := by
  cases x with
  | d x => exact ⟨h.1, h.2.mono l⟩
  | l xs =>
    obtain ⟨L, vs, rfl, h2, h3, h4⟩ := h
    exact ⟨L, vs, rfl, h2, k L (by simp) _ h3, h4.mono l⟩
  | ll xss =>
    obtain ⟨L, Ls, rfl, h2, h3, h4, h5⟩ := h
    refine ⟨L, Ls, rfl, h2, k L (by simp) _ h3, h4, fun i b xs q1 q2 => ?_⟩
    obtain ⟨vs, g1, g2⟩ := h5 i b xs q1 q2
    exact ⟨vs, k b (List.mem_cons_of_mem _ (List.mem_of_getElem? q1)) _ g1, g2.mono l⟩
theorem OFs.keep : ∀ {vs : List (Str × V)} {fs : List (Str × OF)} {as : List Addr}, OFs mg W H vs fs as → Le W W' → (∀ b ∈ as, ∀ u, H b = some u → H' b = some u) → OFs mg W' H' vs fs as
  | [], [], _, h, _, _ => h
  | _ :: _, _ :: _, _, ⟨e, as1, as2, rfl, h1, h2⟩, l, k => ⟨e, as1, as2, rfl, h1.keep l fun b hb => k b (List.mem_append_left _ hb), OFs.keep h2 l fun b hb => k b (List.mem_append_right _ hb)⟩
  | [], _ :: _, _, h, _, _ => h.elim
  | _ :: _, [], _, h, _, _ => h.elim
/-- a place is kept: the world grows, what is mine stands as it stood -/
theorem SlR.keep {o : Option V} {s : Sl} (h : SlR mg B W H o s) (l : Le W W') (k : ∀ a ∈ s.fp o, ∀ u, H a = some u → W.H a = none → ¬ W.T a → H' a = some u ∧ W'.H a = none ∧ ¬ W'.T a) : SlR mg B W' H' o s := by
  cases s with
  | no => exact True.intro
  | exc => exact ⟨h.1, h.2.mono l⟩
  | d x =>
    obtain ⟨v, q, r⟩ := h
    exact ⟨v, q, r.mono l⟩
  | own xs =>
    obtain ⟨a, vs, h1, h2, h3, h4, h5, r⟩ := h
    subst h1
    obtain ⟨k1, k2, k3⟩ := k a (List.mem_singleton.mpr rfl) _ h2 h3 h4
    exact ⟨a, vs, rfl, k1, k2, k3, h5, r.mono l⟩
  | od xs =>
    obtain ⟨a, vs, h1, h2, h3, h4, h5, hk, r⟩ := h
    subst h1
    obtain ⟨k1, k2, k3⟩ := k a (List.mem_singleton.mpr rfl) _ h2 h3 h4
    exact ⟨a, vs, rfl, k1, k2, k3, h5, hk, r.mono l⟩
  | ob c a fs =>
    obtain ⟨vs, h1, ⟨C, dx, hc, h2⟩, h3, h4, h5, hk, r⟩ := h
    obtain ⟨k1, k2, k3⟩ := k a (List.mem_singleton.mpr rfl) _ h2 h3 h4
    exact ⟨vs, h1, ⟨C, dx, hc, k1⟩, k2, k3, h5, hk, r.mono l⟩
  | ow c as fs =>
    obtain ⟨a, as', vs, rfl, h1, ⟨C, dx, hc, h2⟩, h3, h4, h5⟩ := h
    have kk : ∀ b ∈ a :: as', ∀ u, H b = some u → H' b = some u ∧ W'.H b = none ∧ ¬ W'.T b := fun b hb u hu => k b hb u hu (h5 b hb).2.1 (h5 b hb).2.2.1
    refine ⟨a, as', vs, rfl, h1, ⟨C, dx, hc, (kk a List.mem_cons_self _ h2).1⟩, h3.keep l fun b hb u hu => (kk b (List.mem_cons_of_mem _ hb) u hu).1, h4, fun b hb => ?_⟩
    obtain ⟨⟨u, hu⟩, _, _, g4⟩ := h5 b hb
    obtain ⟨k1, k2, k3⟩ := kk b hb u hu
    exact ⟨⟨u, k1⟩, k2, k3, g4⟩
  | o2 as x =>
    obtain ⟨a, Ls, rfl, h1, h3, h4, h5⟩ := h
    have kk : ∀ b ∈ a :: Ls, ∀ u, H b = some u → H' b = some u ∧ W'.H b = none ∧ ¬ W'.T b := fun b hb u hu => k b hb u hu (h5 b hb).2.1 (h5 b hb).2.2.1
    refine ⟨a, Ls, rfl, h1, h3.keep l fun b hb u hu => (kk b hb u hu).1, h4, fun b hb => ?_⟩
    obtain ⟨⟨u, hu⟩, _, _, g4⟩ := h5 b hb
    obtain ⟨k1, k2, k3⟩ := kk b hb u hu
    exact ⟨⟨u, k1⟩, k2, k3, g4⟩
  | hv f =>
    obtain ⟨a, h1, h2, h3, h4, h5⟩ := h
    subst h1
    obtain ⟨k1, k2, k3⟩ := k a (List.mem_singleton.mpr rfl) _ h2 h3 h4
    exact ⟨a, rfl, k1, k2, k3, h5⟩
theorem Step.mine {a : Addr} {u : HO} (s : Step W H W' H') (h2 : H a = some u) (h3 : W.H a = none) (h4 : ¬ W.T a) : H' a = some u ∧ W'.H a = none ∧ ¬ W'.T a := by
  refine ⟨s.keep a _ h2 h4, ?_, fun t => ?_⟩
  · rw [s.fresh a _ h2]
    exact h3
  · rcases s.freshT a t with t | t
    · exact h4 t
    · rw [h2] at t
      cases t
theorem EnvR.step (e : EnvR mg B W H σ ρ) (s : Step W H W' H') : EnvR mg B W' H' σ ρ := by
  refine ⟨e.len, fun i sl h => ?_, e.dis⟩
  obtain ⟨o, h1, h2⟩ := e.sl i sl h
  exact ⟨o, h1, h2.keep s.le fun a _ u h2 h3 h4 => s.mine h2 h3 h4⟩
theorem EnvR.get (e : EnvR mg B W H σ ρ) {i : Nat} {x : D} (h : ρ[i]? = some (.d x)) : ∃ v, σ[i]? = some (some v) ∧ Rep mg W v x := by
  obtain ⟨o, h1, v, q, r⟩ := e.sl i _ h
  exact ⟨v, by rw [h1, q], r⟩
theorem get_set {α : Type} {l : List α} {i j : Nat} {x y : α} (h : (l.set i x)[j]? = some y) : (i = j ∧ x = y) ∨ (i ≠ j ∧ l[j]? = some y) := by
  by_cases e : i = j
  · subst e
    refine .inl ⟨rfl, ?_⟩
    rw [List.getElem?_set_self'] at h
    cases q : l[i]? with
    | none =>
      rw [q] at h
      cases h
    | some z =>
      rw [q] at h
      exact Option.some.inj h
  · rw [List.getElem?_set_ne e] at h
    exact .inr ⟨e, h⟩
theorem set_get {α : Type} {l : List α} {i : Nat} {x y : α} (h : l[i]? = some y) : (l.set i x)[i]? = some x := by
  rw [List.getElem?_set_self', h]
  rfl
/-- a place is stored -/
theorem EnvR.put (e : EnvR mg B W H σ ρ) {i : Nat} {o : Option V} {s : Sl} (n : s.fp o = []) (r : SlR mg B W H o s) : EnvR mg B W H (σ.set i o) (ρ.set i s) := by
  refine ⟨by simpa using e.len, fun j t h => ?_, fun j k s1 s2 o1 o2 a hjk h1 h2 h3 h4 m1 m2 => ?_⟩
  · rcases get_set h with ⟨rfl, rfl⟩ | ⟨nj, h⟩
    · have hl : i < ρ.length := by simpa using (List.getElem?_eq_some_iff.mp h).1
      exact ⟨o, by rw [List.getElem?_set_self (by rw [e.len]; exact hl)], r⟩
    · obtain ⟨o', h1, h2⟩ := e.sl j t h
      exact ⟨o', by rw [List.getElem?_set_ne nj]; exact h1, h2⟩
  · rcases get_set h1 with ⟨e1, z⟩ | ⟨n1, h1⟩
    · rcases get_set h3 with ⟨_, z'⟩ | ⟨q, _⟩
      · rw [← z, ← z', n] at m1
        cases m1
      · exact q e1
    · rcases get_set h2 with ⟨e2, z⟩ | ⟨n2, h2⟩
      · rcases get_set h4 with ⟨_, z'⟩ | ⟨q, _⟩
        · rw [← z, ← z', n] at m2
          cases m2
        · exact q e2
      · rw [List.getElem?_set_ne n1] at h3
        rw [List.getElem?_set_ne n2] at h4
        exact e.dis j k s1 s2 o1 o2 a hjk h1 h2 h3 h4 m1 m2
/-- nothing is said of any place -/
def noEnv (ρ : Env) : Env := ρ.map fun _ => Sl.no
theorem EnvR.noEnv (h : σ.length = ρ.length) : EnvR mg B W H σ (noEnv ρ) := by
  have no : ∀ (i : Nat) (s : Sl), (FP.noEnv ρ)[i]? = some s → s = .no ∧ i < σ.length := fun i s q => by
    unfold FP.noEnv at q
    rw [List.getElem?_map] at q
    cases z : ρ[i]? with
    | none =>
      rw [z] at q
      cases q
    | some y =>
      rw [z] at q
      cases q
      exact ⟨rfl, by rw [h]; exact (List.getElem?_eq_some_iff.mp z).1⟩
  refine ⟨by simpa [FP.noEnv] using h, fun i s q => ?_, fun i j s t o o' a _ h1 _ _ _ m _ => ?_⟩
  · obtain ⟨rfl, hl⟩ := no i s q
    exact ⟨_, List.getElem?_eq_getElem hl, True.intro⟩
  · obtain ⟨rfl, _⟩ := no i s h1
    cases m
theorem EnvR.set (e : EnvR mg B W H σ ρ) {i : Nat} {v : V} {x : D} (r : Rep mg W v x) : EnvR mg B W H (σ.set i (some v)) (ρ.set i (.d x)) := e.put rfl ⟨v, rfl, r⟩
theorem EnvR.no (e : EnvR mg B W H σ ρ) {i : Nat} {o : Option V} : EnvR mg B W H (σ.set i o) (ρ.set i .no) := e.put rfl True.intro
/-- new things of one's own at a place -/
theorem EnvR.news (e : EnvR mg B W H σ ρ) {i : Nat} {o : Option V} {s : Sl} (st : Step W H W H') (n : ∀ a ∈ s.fp o, H a = none) (r : SlR mg B W H' o s) : EnvR mg B W H' (σ.set i o) (ρ.set i s) := by
  have e1 := e.step st
  have old : ∀ (j : Nat) (t : Sl) (o' : Option V) (b : Addr), ρ[j]? = some t → σ[j]? = some o' → b ∈ t.fp o' → b ∈ s.fp o → False := fun j t o' b h1 h2 m m' => by
    obtain ⟨o2, h3, h4⟩ := e.sl j _ h1
    rw [h2] at h3
    cases h3
    obtain ⟨u', h6, _⟩ := h4.at m
    rw [n b m'] at h6
    cases h6
  refine ⟨by simpa using e.len, fun j sl hj => ?_, fun j k s1 s2 o1 o2 a hjk h1 h2 h3 h4 m1 m2 => ?_⟩
  · rcases get_set hj with ⟨rfl, rfl⟩ | ⟨nj, hj⟩
    · have hl : i < ρ.length := by simpa using (List.getElem?_eq_some_iff.mp hj).1
      exact ⟨o, by rw [List.getElem?_set_self (by rw [e.len]; exact hl)], r⟩
    · obtain ⟨o', h1, h2⟩ := e1.sl j sl hj
      exact ⟨o', by rw [List.getElem?_set_ne nj]; exact h1, h2⟩
  · rcases get_set h1 with ⟨e1, z1⟩ | ⟨n1, h1⟩
    · rcases get_set h2 with ⟨q, _⟩ | ⟨n2, h2⟩
      · exact hjk (e1.symm.trans q)
      · rw [List.getElem?_set_ne n2] at h4
        rcases get_set h3 with ⟨_, q⟩ | ⟨q, _⟩
        · rw [← z1, ← q] at m1
          exact old k s2 o2 a h2 h4 m2 m1
        · exact q e1
    · rcases get_set h2 with ⟨e2, z2⟩ | ⟨n2, h2⟩
      · rw [List.getElem?_set_ne n1] at h3
        rcases get_set h4 with ⟨_, q⟩ | ⟨q, _⟩
        · rw [← z2, ← q] at m2
          exact old j s1 o1 a h1 h3 m1 m2
        · exact q e2
      · rw [List.getElem?_set_ne n1] at h3
        rw [List.getElem?_set_ne n2] at h4
        exact e.dis j k s1 s2 o1 o2 a hjk h1 h2 h3 h4 m1 m2
/-- a new list of one's own -/
theorem EnvR.setOwn (e : EnvR mg B W H σ ρ) (h : Holds W H) {i : Nat} {p : Addr} {vs : List V} {xs : List D} (n : H p = none) (nb : B p = none) (r : Reps mg W vs xs) : EnvR mg B W (upd H p (.lst vs)) (σ.set i (some (.ref p))) (ρ.set i (.own xs)) :=
  e.news (Step.lay h n) (fun a ha => by obtain rfl := List.mem_singleton.mp ha; exact n) ⟨p, vs, rfl, upd_same, h.same.free n, h.nT n, nb, r⟩
/-- what is mine at a place is changed, or another thing is said of the place: the heap differs at its addresses alone; new ones are new -/
theorem EnvR.turns (e : EnvR mg B W H σ ρ) {i : Nat} {o : Option V} {s s' : Sl} (hi : ρ[i]? = some s) (hs : σ[i]? = some o) (hH : ∀ b u, H b = some u → b ∉ s.fp o → H' b = some u) (hn : ∀ a ∈ s'.fp o, a ∈ s.fp o ∨ H a = none) (r : SlR mg B W H' o s') : EnvR mg B W H' σ (ρ.set i s') := by
  have off : ∀ (j : Nat) (t : Sl) (o' : Option V) (b : Addr), j ≠ i → ρ[j]? = some t → σ[j]? = some o' → b ∈ t.fp o' → b ∈ s'.fp o → False := fun j t o' b nj h1 h2 m m' => by
    rcases hn b m' with z | z
    · exact e.dis j i t s o' o b nj h1 hi h2 hs m z
    · obtain ⟨o2, h3, h4⟩ := e.sl j _ h1
      rw [h2] at h3
      cases h3
      obtain ⟨u', h6, _⟩ := h4.at m
      rw [z] at h6
      cases h6
  refine ⟨by simpa using e.len, fun j sl hj => ?_, fun j k s1 s2 o1 o2 a hjk h1 h2 h3 h4 m1 m2 => ?_⟩
  · rcases get_set hj with ⟨rfl, rfl⟩ | ⟨nj, hj⟩
    · exact ⟨_, hs, r⟩
    · obtain ⟨o', h1, h2⟩ := e.sl j sl hj
      exact ⟨o', h1, h2.keep (Le.refl W) fun a ha u h5 h6 h7 => ⟨hH a u h5 fun z => e.dis i j s sl o o' a nj hi hj hs h1 z ha, h6, h7⟩⟩
  · rcases get_set h1 with ⟨e1, z1⟩ | ⟨n1, h1⟩
    · rcases get_set h2 with ⟨q, _⟩ | ⟨n2, h2⟩
      · exact hjk (e1.symm.trans q)
      · subst e1
        rw [hs] at h3
        cases h3
        rw [← z1] at m1
        exact off k s2 o2 a (Ne.symm n2) h2 h4 m2 m1
    · rcases get_set h2 with ⟨e2, z2⟩ | ⟨n2, h2⟩
      · subst e2
        rw [hs] at h4
        cases h4
        rw [← z2] at m2
        exact off j s1 o1 a (Ne.symm n1) h1 h3 m1 m2
      · exact e.dis j k s1 s2 o1 o2 a hjk h1 h2 h3 h4 m1 m2
/-- one address of one's own is changed -/
theorem EnvR.turn (e : EnvR mg B W H σ ρ) {i : Nat} {p : Addr} {u : HO} {o : Option V} {s s' : Sl} (hi : ρ[i]? = some s) (hs : σ[i]? = some o) (m : p ∈ s.fp o) (hf : ∀ a ∈ s'.fp o, a ∈ s.fp o) (r : SlR mg B W (upd H p u) o s') : EnvR mg B W (upd H p u) σ (ρ.set i s') :=
  e.turns hi hs (fun b u' h n => by
    have ne : b ≠ p := fun q => n (by rw [q]; exact m)
    rw [upd_ne ne]
    exact h) (fun a ha => .inl (hf a ha)) r
/-- one's own list is changed -/
theorem EnvR.own (e : EnvR mg B W H σ ρ) {i : Nat} {p : Addr} {us vs : List V} {xs ys : List D} (hi : ρ[i]? = some (.own xs)) (hs : σ[i]? = some (some (.ref p))) (r : Reps mg W vs ys) : EnvR mg B W (upd H p (.lst vs)) σ (ρ.set i (.own ys)) := by
  obtain ⟨o, h1, h2⟩ := e.sl i _ hi
  rw [hs] at h1
  cases h1
  obtain ⟨u, h4, h5, h6, h7⟩ := h2.at (a := p) (List.mem_singleton.mpr rfl)
  exact e.turn hi hs (List.mem_singleton.mpr rfl) (fun _ h => h) ⟨p, vs, rfl, upd_same, h5, h6, h7, r⟩
/-- what is mine is handed to the world -/
theorem EnvR.give (e : EnvR mg B W H σ ρ) (h : Holds W H) {i : Nat} {p : Addr} {u : HO} {s : Sl} {x : D} (hi : ρ[i]? = some s) (hs : σ[i]? = some (some (.ref p))) (m : p ∈ s.fp (some (.ref p))) (hu : H p = some u) (hw : W.H p = none) (ht : ¬ W.T p) (r : Rep mg (W.put p u) (.ref p) x) : EnvR mg B (W.put p u) H σ (ρ.set i (.d x)) := by
  obtain ⟨l, hh⟩ := Step.take h hu hw ht
  refine ⟨by simpa using e.len, fun j sl hj => ?_, fun j k s1 s2 o1 o2 a hjk q1 q2 q3 q4 m1 m2 => ?_⟩
  · rcases get_set hj with ⟨rfl, rfl⟩ | ⟨nj, hj⟩
    · exact ⟨_, hs, _, rfl, r⟩
    · obtain ⟨o, g1, g2⟩ := e.sl j sl hj
      refine ⟨o, g1, g2.keep l fun a ha u' h5 h6 h7 => ⟨h5, ?_, h7⟩⟩
      show upd W.H p _ a = none
      have ne : a ≠ p := fun q => e.dis i j s sl _ o p nj hi hj hs g1 m (by rw [← q]; exact ha)
      rw [upd_ne ne]
      exact h6
  · rcases get_set q1 with ⟨_, z⟩ | ⟨n1, q1⟩
    · rw [← z] at m1
      cases m1
    · rcases get_set q2 with ⟨_, z⟩ | ⟨n2, q2⟩
      · rw [← z] at m2
        cases m2
      · exact e.dis j k s1 s2 o1 o2 a hjk q1 q2 q3 q4 m1 m2
/-- one's own list is handed to the world -/
theorem EnvR.freeze (e : EnvR mg B W H σ ρ) (h : Holds W H) {i : Nat} {xs : List D} (hi : ρ[i]? = some (.own xs)) :
    ∃ p vs, σ[i]? = some (some (.ref p)) ∧ H p = some (.lst vs) ∧ W.H p = none ∧ ¬ W.T p ∧ B p = none ∧ Reps mg W vs xs ∧ EnvR mg B (W.put p (.lst vs)) H σ (ρ.set i (.d (.lst xs))) := by
  obtain ⟨o, h1, p, vs, h2, h3, h4, h5, h6, r⟩ := e.sl i _ hi
  subst h2
  obtain ⟨l, hh⟩ := Step.take h h3 h4 h5
  exact ⟨p, vs, h1, h3, h4, h5, h6, r, e.give h hi h1 (List.mem_singleton.mpr rfl) h3 h4 h5 (.lst (show upd W.H p (.lst vs) p = _ from upd_same) (r.mono l))⟩
end
end FP
/-! FP2: judgements over data: expressions, tests, arguments, statements; a def's promise. -/
namespace FP
open PySem L2
variable [Tabl]
/-- an exception as a datum -/
structure XD where
  cls : Str
  fs : List (Str × D)
abbrev M (α : Type) := (α → Prop) → (XD → Prop) → Prop
abbrev DTE := Env → M D
abbrev DTT := Env → M Bool
abbrev DTA := Env → M (List D)
abbrev DTI := Env → M (List D)
structure Nd where
  nx : Env → Prop
  rt : D → Env → Prop
  bk : Env → Prop
  ct : Env → Prop
  rs : XD → Env → Prop
abbrev DTS := Nd → Env → Prop
abbrev F0 : XD → Prop := fun _ => False
abbrev Wx0 : WX := fun _ _ _ _ => False
def RepX (mg : Gm) (W : Wd) (_H : Hp) (cls : Value) (dd : Option Addr) (x : XD) : Prop := ExcR mg W cls dd x.cls x.fs
def ExR (mg : Gm) (Wx : WX) (W : Wd) (H : Hp) (σ : St) (E : XD → Prop) : Prop :=
  ∀ W' H' cls dd x, Step W H W' H' → RepX mg W' H' cls dd x → E x → Wx cls dd σ H'
theorem ExR.step {mg : Gm} {Wx : WX} {W W1 : Wd} {H H1 : Hp} {σ : St} {E : XD → Prop} (e : ExR mg Wx W H σ E) (s : Step W H W1 H1) : ExR mg Wx W1 H1 σ E :=
  fun W' H' cls dd x s' r h => e W' H' cls dd x (s.trans s') r h
theorem ExR.f0 {mg : Gm} {Wx : WX} {W : Wd} {H : Hp} {σ : St} : ExR mg Wx W H σ F0 := fun _ _ _ _ _ _ _ h => h.elim
/-- what is wanted behind a value, by its datum -/
abbrev ToV (mg : Gm) (W : Wd) (H : Hp) (Q : D → Prop) (Q' : VK) : Prop := ∀ W' H' v d, Step W H W' H' → Rep mg W' v d → Q d → Q' v H'
def Cp (mg : Gm) (Wx : WX) (t : TE) (f : DTE) : Prop := ∀ B ρ Q E, f ρ Q E → ∀ W σ H Q', Holds W H → EnvR mg B W H σ ρ → ExR mg Wx W H σ E → ToV mg W H Q Q' → t σ H Q'
def CpT (mg : Gm) (Wx : WX) (t : TT) (f : DTT) : Prop := ∀ B ρ Q E, f ρ Q E → ∀ W σ H Q', Holds W H → EnvR mg B W H σ ρ → ExR mg Wx W H σ E → (∀ W' H' b, Step W H W' H' → Q b → Q' b H') → t σ H Q'
def CpA (mg : Gm) (Wx : WX) (t : TA) (f : DTA) : Prop := ∀ B ρ Q E, f ρ Q E → ∀ W σ H Q', Holds W H → EnvR mg B W H σ ρ → ExR mg Wx W H σ E → (∀ W' H' vs ds, Step W H W' H' → Reps mg W' vs ds → Q ds → Q' vs H') → t σ H Q'
structure EndsR (mg : Gm) (Wx : WX) (W0 : Wd) (B : Hp) (N : Nd) (Ds : Ends) : Prop where
  nx : ∀ W' H' σ' ρ', Step W0 B W' H' → EnvR mg B W' H' σ' ρ' → N.nx ρ' → Ds.nx σ' H'
  rt : ∀ W' H' σ' ρ' v d, Step W0 B W' H' → EnvR mg B W' H' σ' ρ' → Rep mg W' v d → N.rt d ρ' → Ds.rt v H'
  bk : ∀ W' H' σ' ρ', Step W0 B W' H' → EnvR mg B W' H' σ' ρ' → N.bk ρ' → Ds.bk σ' H'
  ct : ∀ W' H' σ' ρ', Step W0 B W' H' → EnvR mg B W' H' σ' ρ' → N.ct ρ' → Ds.ct σ' H'
  rs : ∀ W' H' σ' ρ' cls dd x, Step W0 B W' H' → EnvR mg B W' H' σ' ρ' → RepX mg W' H' cls dd x → N.rs x ρ' → Wx cls dd σ' H'
def CpS (mg : Gm) (Wx : WX) (t : TS) (f : DTS) : Prop := ∀ W0 B N ρ, f N ρ → ∀ W σ H Ds, Step W0 B W H → EnvR mg B W H σ ρ → EndsR mg Wx W0 B N Ds → t Ds σ H
theorem EndsR.ex {mg : Gm} {Wx : WX} {W0 W : Wd} {B H : Hp} {N : Nd} {Ds : Ends} {σ : St} {ρ : Env} (n : EndsR mg Wx W0 B N Ds) (s : Step W0 B W H) (e : EnvR mg B W H σ ρ) : ExR mg Wx W H σ (fun x => N.rs x ρ) :=
  fun W' H' cls dd x s' r h => n.rs W' H' σ ρ cls dd x (s.trans s') (e.step s') r h
section
variable {ι : Type}
def DE (Xs : ι → Cx) (mg : Gm) (Wx : WX) (e : Expr) (f : DTE) : Prop := ∃ t, (∀ i, PE (Xs i) e t) ∧ Cp mg Wx t f
def DT (Xs : ι → Cx) (mg : Gm) (Wx : WX) (e : Expr) (f : DTT) : Prop := ∃ t, (∀ i, PT (Xs i) e t) ∧ CpT mg Wx t f
def DW (Xs : ι → Cx) (mg : Gm) (Wx : WX) (e : Expr) (f : DTT) : Prop := ∃ t, (∀ i, PW (Xs i) e t) ∧ CpT mg Wx t f
def DA (Xs : ι → Cx) (mg : Gm) (Wx : WX) (es : List Expr) (f : DTA) : Prop := ∃ t, (∀ i, PA (Xs i) es t) ∧ CpA mg Wx t f
def DS (Xs : ι → Cx) (mg : Gm) (Wx : WX) (st : Stmt) (f : DTS) : Prop := ∃ t, (∀ i, PS (Xs i) st t) ∧ CpS mg Wx t f
def DSs (Xs : ι → Cx) (mg : Gm) (Wx : WX) (st : List Stmt) (f : DTS) : Prop := ∃ t, (∀ i, PSs (Xs i) st t) ∧ CpS mg Wx t f
end
section
variable {ι : Type} {Xs : ι → Cx} {mg : Gm} {Wx : WX} {pos : Pos}
/-- one of two ways -/
def bit (b : Bool) (A B : Prop) : Prop := match b with
  | true => A
  | false => B
/-- a truth as a datum -/
def blc (d : D) (k : Bool → Prop) : Prop := match d with
  | .bl b => k b
  | _ => False
theorem bit_t (A B : Prop) : bit true A B = A := rfl
theorem bit_f (A B : Prop) : bit false A B = B := rfl
theorem bit_not (b : Bool) (A B : Prop) : bit (!b) A B = bit b B A := by cases b <;> rfl
theorem bit_dec (p : Prop) [Decidable p] (A B : Prop) : bit (decide p) A B = ((p → A) ∧ (¬ p → B)) := by
  by_cases h : p <;> simp [h, bit]
theorem blc_bl (b : Bool) (k : Bool → Prop) : blc (.bl b) k = k b := rfl
/-! ### what is new is locked -/
def tLk (t : TE) : TE := fun σ H Q => t σ H fun v H1 => ∃ p u, v = .ref p ∧ H1 p = some u ∧ Mut (some u) ∧ ∀ od, Q v (upd H1 p (.frz od u))
theorem pe_lk {X : Cx} {e : Expr} {t : TE} (h : PE X e t) : PE X e (tLk t) := by
  refine ⟨fun pins s σ H Q I hw => ?_⟩
  refine thn (h.run pins s σ H _ I hw) fun v s1 ⟨x, H1, I1, r, p, u, e, hp, mu, q⟩ => ?_
  obtain ⟨od, I2⟩ := I1.lock hp mu
  exact ⟨x, _, I2, r, q od⟩
/-! ### names, constants -/
abbrev dVar (i : Nat) : DTE := fun ρ Q _ => match ρ[i]? with
  | some (.d x) => Q x
  | _ => False
theorem de_var (i : Nat) {x : Str} (hN : ∀ j, (Xs j).N[i]? = some x := by intro _; rfl) (hv : ∀ j, Vis (Xs j).env.scope x := by intro _; first | exact Or.inl rfl | exact Or.inr (Or.inl rfl) | exact Or.inr (Or.inr rfl))
    (hd : (x == ("__debug__" : Str)) = false := by decide) (hcd : (x == ("__classdict__" : Str)) = false := by decide) : DE Xs mg Wx (.Name x pos) (dVar i) := by
  refine ⟨tVar i, fun j => pe_var (hN j) (hv j) hd hcd, fun B ρ Q E h W σ H Q' hh e _ q => ?_⟩
  unfold dVar at h
  split at h
  · rename_i z hz
    obtain ⟨v, hv, r⟩ := e.get hz
    exact ⟨v, hv, q W H v z (Step.refl hh) r h⟩
  · exact h.elim
abbrev dC (x : D) : DTE := fun _ Q _ => Q x
theorem Cp.const {v : V} {d : D} (r : ∀ W, Rep mg W v d) : Cp mg Wx (tC v) (dC d) := fun B ρ Q E h W σ H Q' hh _ _ q => q W H v d (Step.refl hh) (r W) h
theorem de_int {i : Int} {j : Nat} : DE Xs mg Wx (.Constant (.int i) j pos) (dC (.int i)) := ⟨_, fun _ => pe_int, Cp.const fun _ => .int i⟩
theorem de_bl {b : Bool} {j : Nat} : DE Xs mg Wx (.Constant (.bool b) j pos) (dC (.bl b)) := ⟨_, fun _ => pe_bl, Cp.const fun _ => .bl b⟩
theorem de_non {j : Nat} : DE Xs mg Wx (.Constant .none j pos) (dC .non) := ⟨_, fun _ => pe_non, Cp.const fun _ => .non⟩
theorem de_str {x : Str} {j : Nat} : DE Xs mg Wx (.Constant (.str x) j pos) (dC (.str x)) := ⟨_, fun _ => pe_str, Cp.const fun _ => .str x⟩
theorem de_gint {x : Str} {i : Int} (hm' : ∃ tk, mg.mg x = some (.int i tk)) (hM : ∀ j, (Xs j).mg = mg.mg := by intro _; rfl) (hg : ∀ j, Gl (Xs j) x := by intro _; rfl) (hd : (x == ("__debug__" : Str)) = false := by decide) : DE Xs mg Wx (.Name x pos) (dC (.int i)) := by
  obtain ⟨tk, hm⟩ := hm'
  exact ⟨_, fun j => pe_glob (v := .int i) (hg j) (by rw [hM j]; exact hm) ⟨tk, rfl⟩ hd, Cp.const fun _ => .int i⟩
theorem de_gstr {x y : Str} (hm' : ∃ tk, mg.mg x = some (.str y tk)) (hM : ∀ j, (Xs j).mg = mg.mg := by intro _; rfl) (hg : ∀ j, Gl (Xs j) x := by intro _; rfl) (hd : (x == ("__debug__" : Str)) = false := by decide) : DE Xs mg Wx (.Name x pos) (dC (.str y)) := by
  obtain ⟨tk, hm⟩ := hm'
  exact ⟨_, fun j => pe_glob (v := .str y) (hg j) (by rw [hM j]; exact hm) ⟨tk, rfl⟩ hd, Cp.const fun _ => .str y⟩
/-! ### operators by data -/
abbrev RD2 := D → D → (D → Prop) → Prop
def OpD (mg : Gm) (r : R2) (rd : RD2) : Prop := ∀ W H x y dx dy Q Q', Holds W H → Rep mg W x dx → Rep mg W y dy → rd dx dy Q → ToV mg W H Q Q' → r x y H Q'
/-- an operator that reads data alone -/
def OpOk (Xs : ι → Cx) (mg : Gm) (f : Value → Value → Sem Value) (rd : RD2) : Prop := ∃ r, (∀ i, OpR (Xs i) f r) ∧ OpD mg r rd
theorem OpOk.mk {f : Value → Value → Sem Value} {rd : RD2} {r : R2} (h : ∀ i, OpR (Xs i) f r) (k : ∀ (W : Wd) (H : Hp) (x y : V) (dx dy : D) (Q : D → Prop) (Q' : VK) (P : V → V → Prop), Holds W H → Rep mg W x dx → Rep mg W y dy → rd dx dy Q → ToV mg W H Q Q' → (∀ x y, r x y H Q' → P x y) → P x y) : OpOk Xs mg f rd := ⟨r, h, fun W H x y dx dy Q Q' hh rx ry hd q => k W H x y dx dy Q Q' (fun x y => r x y H Q') hh rx ry hd q fun _ _ z => z⟩
abbrev dOp (rd : RD2) (fa fb : DTE) : DTE := fun ρ Q E => fa ρ (fun x => fb ρ (fun y => rd x y Q) E) E
theorem Cp.op {r : R2} {rd : RD2} {ta tb : TE} {fa fb : DTE} (o : OpD mg r rd) (ha : Cp mg Wx ta fa) (hb : Cp mg Wx tb fb) : Cp mg Wx (tOp r ta tb) (dOp rd fa fb) := by
  intro B ρ Q E h W σ H Q' hh e x q
  refine ha B ρ _ E h W σ H _ hh e x fun W1 H1 v1 d1 s1 r1 h1 => ?_
  refine hb B ρ _ E h1 W1 σ H1 _ s1.holds (e.step s1) (x.step s1) fun W2 H2 v2 d2 s2 r2 h2 => ?_
  exact o W2 H2 v1 v2 d1 d2 _ _ s2.holds (r1.mono s2.le) r2 h2 fun W3 H3 v3 d3 s3 r3 h3 => q W3 H3 v3 d3 ((s1.trans s2).trans s3) r3 h3
theorem de_op {op : Operator} {rd : RD2} {a b : Expr} {fa fb : DTE} (o : OpOk Xs mg (binaryOp op) rd) (ha : DE Xs mg Wx a fa) (hb : DE Xs mg Wx b fb) : DE Xs mg Wx (.BinOp a op b pos) (dOp rd fa fb) := by
  obtain ⟨r, h1, h2⟩ := o
  obtain ⟨ta, a1, a2⟩ := ha
  obtain ⟨tb, b1, b2⟩ := hb
  exact ⟨_, fun i => pe_op (h1 i) (a1 i) (b1 i), Cp.op h2 a2 b2⟩
theorem de_cmp {op : CmpOp} {rd : RD2} {a b : Expr} {fa fb : DTE} (o : OpOk Xs mg (compareOp op) rd) (ha : DE Xs mg Wx a fa) (hb : DE Xs mg Wx b fb) (hm : behindInMarks op b = false := by first | rfl | exact nomark _) : DE Xs mg Wx (.Compare a [op] [b] pos) (dOp rd fa fb) := by
  obtain ⟨r, h1, h2⟩ := o
  obtain ⟨ta, a1, a2⟩ := ha
  obtain ⟨tb, b1, b2⟩ := hb
  exact ⟨_, fun i => pe_cmpR (h1 i) (a1 i) (b1 i) hm, Cp.op h2 a2 b2⟩
abbrev dChain (r r' : RD2) (fa fb fc : DTE) : DTE := fun ρ Q E => fa ρ (fun x => fb ρ (fun y => r x y fun z => blc z fun b => bit b (fc ρ (fun w => r' y w Q) E) (Q (.bl false))) E) E
theorem Cp.chain {r r' : R2} {rd rd' : RD2} {ta tb tc : TE} {fa fb fc : DTE} (h2 : OpD mg r rd) (h2' : OpD mg r' rd') (a2 : Cp mg Wx ta fa) (b2 : Cp mg Wx tb fb) (c2 : Cp mg Wx tc fc) : Cp mg Wx (tChain r r' ta tb tc) (dChain rd rd' fa fb fc) := by
  intro B ρ Q E h W σ H Q' hh e x q
  refine a2 B ρ _ E h W σ H _ hh e x fun W1 H1 v1 d1 s1 r1 h1 => ?_
  refine b2 B ρ _ E h1 W1 σ H1 _ s1.holds (e.step s1) (x.step s1) fun W2 H2 v2 d2 s2 r2 h2x => ?_
  refine h2 W2 H2 v1 v2 d1 d2 _ _ s2.holds (r1.mono s2.le) r2 h2x fun W3 H3 v3 d3 s3 r3 h3 => ?_
  have s13 := (s1.trans s2).trans s3
  cases r3 with
  | bl k =>
    refine ⟨k, rfl, ?_⟩
    cases k with
    | true =>
      rw [if_pos rfl]
      refine c2 B ρ _ E h3 W3 σ H3 _ s3.holds (e.step s13) (x.step s13) fun W4 H4 v4 d4 s4 r4 h4 => ?_
      exact h2' W4 H4 v2 v4 d2 d4 _ _ s4.holds ((r2.mono s3.le).mono s4.le) r4 h4 fun W5 H5 v5 d5 s5 r5 h5 => q W5 H5 v5 d5 ((s13.trans s4).trans s5) r5 h5
    | false =>
      rw [if_neg Bool.false_ne_true]
      exact q W3 H3 _ _ s13 (.bl false) h3
  | _ => exact h3.elim
theorem de_chain {op op' : CmpOp} {rd rd' : RD2} {a b c : Expr} {fa fb fc : DTE} (o : OpOk Xs mg (compareOp op) rd) (o' : OpOk Xs mg (compareOp op') rd') (ha : DE Xs mg Wx a fa) (hb : DE Xs mg Wx b fb) (hc : DE Xs mg Wx c fc) (hm : lastMarks [op, op'] [b, c] = false := by with_unfolding_all rfl) : DE Xs mg Wx (.Compare a [op, op'] [b, c] pos) (dChain rd rd' fa fb fc) := by
  obtain ⟨r, h1, h2⟩ := o
  obtain ⟨r', h1', h2'⟩ := o'
  obtain ⟨ta, a1, a2⟩ := ha
  obtain ⟨tb, b1, b2⟩ := hb
  obtain ⟨tc, c1, c2⟩ := hc
  exact ⟨_, fun i => pe_chain (h1 i) (h1' i) (a1 i) (b1 i) (c1 i) hm, Cp.chain h2 h2' a2 b2 c2⟩
/-! ### tests -/
abbrev dB (f : DTE) : DTT := fun ρ Q E => f ρ (fun x => blc x Q) E
theorem Cp.b {t : TE} {f : DTE} (h : Cp mg Wx t f) : CpT mg Wx (tB t) (dB f) := by
  intro B ρ Q E hf W σ H Q' hh e x q
  refine h B ρ _ E hf W σ H _ hh e x fun W1 H1 v1 d1 s1 r1 h1 => ?_
  cases r1 with
  | bl b => exact ⟨b, rfl, q W1 H1 b s1 h1⟩
  | _ => exact h1.elim
theorem dt_val {e : Expr} {f : DTE} (h : DE Xs mg Wx e f) (he : ∀ i whole, isTrue e (Xs i).env whole = (do let v ← whole; standAt e.pos; holding [v] (truthy v)) := by intro _ _; rfl) : DT Xs mg Wx e (dB f) := by
  obtain ⟨t, h1, h2⟩ := h
  exact ⟨_, fun i => pt_val (h1 i) (he i), h2.b⟩
theorem dt_cmp {op : CmpOp} {rd : RD2} {a b : Expr} {fa fb : DTE} (o : OpOk Xs mg (compareOp op) rd) (ha : DE Xs mg Wx a fa) (hb : DE Xs mg Wx b fb) (hm : behindInMarks op b = false := by first | rfl | exact nomark _) : DT Xs mg Wx (.Compare a [op] [b] pos) (dB (dOp rd fa fb)) := by
  obtain ⟨r, h1, h2⟩ := o
  obtain ⟨ta, a1, a2⟩ := ha
  obtain ⟨tb, b1, b2⟩ := hb
  exact ⟨_, fun i => pt_cmpR (h1 i) (a1 i) (b1 i) hm, Cp.b (Cp.op h2 a2 b2)⟩
theorem dt_chain {op op' : CmpOp} {rd rd' : RD2} {a b c : Expr} {fa fb fc : DTE} (o : OpOk Xs mg (compareOp op) rd) (o' : OpOk Xs mg (compareOp op') rd') (ha : DE Xs mg Wx a fa) (hb : DE Xs mg Wx b fb) (hc : DE Xs mg Wx c fc) (hm : lastMarks [op, op'] [b, c] = false := by with_unfolding_all rfl) : DT Xs mg Wx (.Compare a [op, op'] [b, c] pos) (dB (dChain rd rd' fa fb fc)) := by
  obtain ⟨r, h1, h2⟩ := o
  obtain ⟨r', h1', h2'⟩ := o'
  obtain ⟨ta, a1, a2⟩ := ha
  obtain ⟨tb, b1, b2⟩ := hb
  obtain ⟨tc, c1, c2⟩ := hc
  exact ⟨_, fun i => pt_chain (h1 i) (h1' i) (a1 i) (b1 i) (c1 i) hm, Cp.b (Cp.chain h2 h2' a2 b2 c2)⟩
abbrev dAnd (f g : DTT) : DTT := fun ρ Q E => f ρ (fun c => bit c (g ρ Q E) (Q false)) E
abbrev dOr (f g : DTT) : DTT := fun ρ Q E => f ρ (fun c => bit c (Q true) (g ρ Q E)) E
abbrev dNot (f : DTT) : DTT := fun ρ Q E => f ρ (fun c => Q (!c)) E
theorem dw_and1 {a : Expr} {f : DTT} (h : DT Xs mg Wx a f) : DW Xs mg Wx (.BoolOp .And [a] pos) f := by
  obtain ⟨t, h1, h2⟩ := h
  exact ⟨t, fun i => pw_and1 (h1 i), h2⟩
theorem dw_or1 {a : Expr} {f : DTT} (h : DT Xs mg Wx a f) : DW Xs mg Wx (.BoolOp .Or [a] pos) f := by
  obtain ⟨t, h1, h2⟩ := h
  exact ⟨t, fun i => pw_or1 (h1 i), h2⟩
theorem dw_and {a b : Expr} {rest : List Expr} {f g : DTT} (h : DT Xs mg Wx a f) (h' : DW Xs mg Wx (.BoolOp .And (b :: rest) pos) g) : DW Xs mg Wx (.BoolOp .And (a :: b :: rest) pos) (dAnd f g) := by
  obtain ⟨t, h1, h2⟩ := h
  obtain ⟨u, g1, g2⟩ := h'
  refine ⟨_, fun i => pw_and (h1 i) (g1 i), ?_⟩
  intro B ρ Q E hf W σ H Q' hh e x q
  refine h2 B ρ _ E hf W σ H _ hh e x fun W1 H1 c s1 k1 => ?_
  cases c with
  | true =>
    rw [if_pos rfl]
    exact g2 B ρ Q E k1 W1 σ H1 _ s1.holds (e.step s1) (x.step s1) fun W2 H2 b s2 k2 => q W2 H2 b (s1.trans s2) k2
  | false =>
    rw [if_neg Bool.false_ne_true]
    exact q W1 H1 false s1 k1
theorem dw_or {a b : Expr} {rest : List Expr} {f g : DTT} (h : DT Xs mg Wx a f) (h' : DW Xs mg Wx (.BoolOp .Or (b :: rest) pos) g) : DW Xs mg Wx (.BoolOp .Or (a :: b :: rest) pos) (dOr f g) := by
  obtain ⟨t, h1, h2⟩ := h
  obtain ⟨u, g1, g2⟩ := h'
  refine ⟨_, fun i => pw_or (h1 i) (g1 i), ?_⟩
  intro B ρ Q E hf W σ H Q' hh e x q
  refine h2 B ρ _ E hf W σ H _ hh e x fun W1 H1 c s1 k1 => ?_
  cases c with
  | true =>
    rw [if_pos rfl]
    exact q W1 H1 true s1 k1
  | false =>
    rw [if_neg Bool.false_ne_true]
    exact g2 B ρ Q E k1 W1 σ H1 _ s1.holds (e.step s1) (x.step s1) fun W2 H2 b s2 k2 => q W2 H2 b (s1.trans s2) k2
theorem dt_w {e : Expr} {f : DTT} (h : DW Xs mg Wx e f) : DT Xs mg Wx e f := by
  obtain ⟨t, h1, h2⟩ := h
  exact ⟨t, fun i => (h1 i).pt, h2⟩
theorem dt_not {a : Expr} {f : DTT} (h : DT Xs mg Wx a f) : DT Xs mg Wx (.UnaryOp .Not a pos) (dNot f) := by
  obtain ⟨t, h1, h2⟩ := h
  exact ⟨_, fun i => pt_not (h1 i), fun B ρ Q E hf W σ H Q' hh e x q => h2 B ρ _ E hf W σ H _ hh e x fun W1 H1 c s1 k1 => q W1 H1 _ s1 k1⟩
/-- and, or, not as values (bools) -/
abbrev dAndV (f g : DTE) : DTE := fun ρ Q E => f ρ (fun c => blc c fun b => bit b (g ρ Q E) (Q (.bl false))) E
abbrev dOrV (f g : DTE) : DTE := fun ρ Q E => f ρ (fun c => blc c fun b => bit b (Q (.bl true)) (g ρ Q E)) E
abbrev dNotV (f : DTE) : DTE := fun ρ Q E => f ρ (fun c => blc c fun b => Q (.bl (!b))) E
theorem de_one {op : BoolOp} {a : Expr} {f : DTE} (h : DE Xs mg Wx a f) : DE Xs mg Wx (.BoolOp op [a] pos) f := by
  obtain ⟨t, h1, h2⟩ := h
  exact ⟨t, fun i => pe_one (h1 i), h2⟩
theorem de_and {a b : Expr} {rest : List Expr} {f g : DTE} (h : DE Xs mg Wx a f) (h' : DE Xs mg Wx (.BoolOp .And (b :: rest) pos) g) : DE Xs mg Wx (.BoolOp .And (a :: b :: rest) pos) (dAndV f g) := by
  obtain ⟨t, h1, h2⟩ := h
  obtain ⟨u, g1, g2⟩ := h'
  refine ⟨_, fun i => pe_and (h1 i) (g1 i), ?_⟩
  intro B ρ Q E hf W σ H Q' hh e x q
  refine h2 B ρ _ E hf W σ H _ hh e x fun W1 H1 v d s1 r1 k1 => ?_
  cases r1 with
  | bl c =>
    refine ⟨c, rfl, ?_⟩
    cases c with
    | true =>
      rw [if_pos rfl]
      exact g2 B ρ Q E k1 W1 σ H1 _ s1.holds (e.step s1) (x.step s1) fun W2 H2 v d s2 r2 k2 => q W2 H2 v d (s1.trans s2) r2 k2
    | false =>
      rw [if_neg Bool.false_ne_true]
      exact q W1 H1 _ _ s1 (.bl false) k1
  | _ => exact k1.elim
theorem de_not {a : Expr} {f : DTE} (h : DE Xs mg Wx a f) : DE Xs mg Wx (.UnaryOp .Not a pos) (dNotV f) := by
  obtain ⟨t, h1, h2⟩ := h
  refine ⟨_, fun i => pe_not (h1 i), fun B ρ Q E hf W σ H Q' hh e x q => h2 B ρ _ E hf W σ H _ hh e x fun W1 H1 v d s1 r1 k1 => ?_⟩
  cases r1 with
  | bl c => exact ⟨c, rfl, q W1 H1 _ _ s1 (.bl _) k1⟩
  | _ => exact k1.elim
abbrev dIf (c : DTT) (f g : DTE) : DTE := fun ρ Q E => c ρ (fun b => bit b (f ρ Q E) (g ρ Q E)) E
/-! ### arguments, displays -/
abbrev dNil : DTA := fun _ Q _ => Q []
abbrev dCons (f : DTE) (g : DTA) : DTA := fun ρ Q E => f ρ (fun x => g ρ (fun xs => Q (x :: xs)) E) E
theorem da_nil : DA Xs mg Wx [] dNil := ⟨_, fun _ => pa_nil, fun B ρ Q E h W σ H Q' hh _ _ q => q W H [] [] (Step.refl hh) .nil h⟩
theorem da_cons {e : Expr} {es : List Expr} {f : DTE} {g : DTA} (h : DE Xs mg Wx e f) (h' : DA Xs mg Wx es g) (hs : ∀ i, starEach (e :: es) (Xs i).env = (false, eval e (Xs i).env) :: starEach es (Xs i).env := by intro _; rfl) : DA Xs mg Wx (e :: es) (dCons f g) := by
  obtain ⟨t, h1, h2⟩ := h
  obtain ⟨u, g1, g2⟩ := h'
  refine ⟨_, fun i => pa_cons (h1 i) (g1 i) (hs i), ?_⟩
  intro B ρ Q E hf W σ H Q' hh e x q
  refine h2 B ρ _ E hf W σ H _ hh e x fun W1 H1 v d s1 r1 k1 => ?_
  exact g2 B ρ _ E k1 W1 σ H1 _ s1.holds (e.step s1) (x.step s1) fun W2 H2 vs ds s2 r2 k2 => q W2 H2 _ _ (s1.trans s2) (.cons (r1.mono s2.le) r2) k2
abbrev dTup (g : DTA) : DTE := fun ρ Q E => g ρ (fun xs => xs.length ≤ sizeLine ∧ Q (.tup xs)) E
abbrev dLst (g : DTA) : DTE := fun ρ Q E => g ρ (fun xs => xs.length ≤ sizeLine ∧ Q (.lst xs)) E
theorem Wd.le_put {W : Wd} {p : Addr} {o : HO} (n : W.H p = none) : Le W (W.put p o) := Wd.put_le n
theorem Rep.newTup {W : Wd} {vs : List V} {ds : List D} {p : Addr} (r : Reps mg W vs ds) (n : W.H p = none) : Rep mg (W.put p (.tup vs)) (.ref p) (.tup ds) :=
  .tup (show upd W.H p _ p = _ from upd_same) (r.mono (Wd.le_put n))
theorem Rep.newLst {W : Wd} {vs : List V} {ds : List D} {p : Addr} (r : Reps mg W vs ds) (n : W.H p = none) : Rep mg (W.put p (.lst vs)) (.ref p) (.lst ds) :=
  .lst (show upd W.H p _ p = _ from upd_same) (r.mono (Wd.le_put n))
/-- what is wanted of a new tuple, of a new list -/
theorem to_tup {W : Wd} {H : Hp} {Q : D → Prop} {Q' : VK} {vs : List V} {ds : List D} (q : ToV mg W H Q Q') (hh : Holds W H) (r : Reps mg W vs ds) (h : Q (.tup ds)) : ∀ p, H p = none → Q' (.ref p) (upd H p (.tup vs)) :=
  fun p n => q _ _ _ _ (Step.alloc hh n) (Rep.newTup r (hh.same.free n)) h
theorem to_lst {W : Wd} {H : Hp} {Q : D → Prop} {Q' : VK} {vs : List V} {ds : List D} (q : ToV mg W H Q Q') (hh : Holds W H) (r : Reps mg W vs ds) (h : Q (.lst ds)) : ∀ p, H p = none → Q' (.ref p) (upd H p (.lst vs)) :=
  fun p n => q _ _ _ _ (Step.alloc hh n) (Rep.newLst r (hh.same.free n)) h
theorem ToV.step {W W1 : Wd} {H H1 : Hp} {Q : D → Prop} {Q' : VK} (q : ToV mg W H Q Q') (s : Step W H W1 H1) : ToV mg W1 H1 Q Q' := fun W' H' v d s' r h => q W' H' v d (s.trans s') r h
theorem de_tup {es : List Expr} {g : DTA} {k : Nat} (h : DA Xs mg Wx es g) : DE Xs mg Wx (.Tuple es k pos) (dTup g) := by
  obtain ⟨t, h1, h2⟩ := h
  refine ⟨_, fun i => pe_tup (h1 i), fun B ρ Q E hf W σ H Q' hh e x q => h2 B ρ _ E hf W σ H _ hh e x fun W1 H1 vs ds s1 r1 k1 => ?_⟩
  exact ⟨by rw [r1.length]; exact k1.1, to_tup (ToV.step q s1) s1.holds r1 k1.2⟩
theorem de_lst {es : List Expr} {g : DTA} (h : DA Xs mg Wx es g) : DE Xs mg Wx (.List es pos) (dLst g) := by
  obtain ⟨t, h1, h2⟩ := h
  refine ⟨_, fun i => pe_lst (h1 i), fun B ρ Q E hf W σ H Q' hh e x q => h2 B ρ _ E hf W σ H _ hh e x fun W1 H1 vs ds s1 r1 k1 => ?_⟩
  exact ⟨by rw [r1.length]; exact k1.1, to_lst (ToV.step q s1) s1.holds r1 k1.2⟩
/-! ### built-in functions and methods by data -/
abbrev RDL := List D → (D → Prop) → Prop
def CallD (mg : Gm) (r : List V → Hp → VK → Prop) (rd : RDL) : Prop := ∀ W H vs ds Q Q', Holds W H → Reps mg W vs ds → rd ds Q → ToV mg W H Q Q' → r vs H Q'
def CallOk (Xs : ι → Cx) (mg : Gm) (f : Value) (rd : RDL) : Prop := ∃ r, (∀ i, CallR (Xs i) f r) ∧ CallD mg r rd
theorem CallOk.mk {f : Value} {rd : RDL} {r : List V → Hp → VK → Prop} (h : ∀ i, CallR (Xs i) f r) (k : ∀ (W : Wd) (H : Hp) (vs : List V) (ds : List D) (Q : D → Prop) (Q' : VK) (P : List V → Prop), Holds W H → Reps mg W vs ds → rd ds Q → ToV mg W H Q Q' → (∀ vs, r vs H Q' → P vs) → P vs) : CallOk Xs mg f rd := ⟨r, h, fun W H vs ds Q Q' hh rs hd q => k W H vs ds Q Q' (fun vs => r vs H Q') hh rs hd q fun _ z => z⟩
abbrev dCB (rd : RDL) (g : DTA) : DTE := fun ρ Q E => g ρ (fun ds => rd ds Q) E
theorem Cp.cb {r : List V → Hp → VK → Prop} {rd : RDL} {t : TA} {g : DTA} (c : CallD mg r rd) (h : CpA mg Wx t g) : Cp mg Wx (tCB r t) (dCB rd g) := by
  intro B ρ Q E hf W σ H Q' hh e x q
  refine h B ρ _ E hf W σ H _ hh e x fun W1 H1 vs ds s1 r1 k1 => ?_
  exact c W1 H1 vs ds Q Q' s1.holds r1 k1 (ToV.step q s1)
theorem de_callB {id : String} {rd : RDL} {x : Str} {p : Pos} {e : Expr} {es : List Expr} {g : DTA} (c : CallOk Xs mg (.builtin id) rd) (hm : mg.mg x = none) (hv : bootBuiltins x = some (.builtin id)) (ha : DA Xs mg Wx (e :: es) g)
    (hM : ∀ j, (Xs j).mg = mg.mg := by intro _; rfl) (hg : ∀ j, Gl (Xs j) x := by intro _; rfl) (hn : x ≠ "__name__" := by decide) (hd : (x == ("__debug__" : Str)) = false := by decide)
    (he : ∀ i, starEach (e :: es) (Xs i).env = (false, eval e (Xs i).env) :: starEach es (Xs i).env := by intro _; rfl) (hpl : ∀ i, (backTo pos (starEach es (Xs i).env)).any (·.1) = false := by intro _; rfl) : DE Xs mg Wx (.Call (.Name x p) (e :: es) [] pos) (dCB rd g) := by
  obtain ⟨r, c1, c2⟩ := c
  obtain ⟨t, h1, h2⟩ := ha
  exact ⟨_, fun i => pe_callB (c1 i) (hg i) (by rw [hM i]; exact hm) hv (h1 i) hn hd (he i) (hpl i), Cp.cb c2 h2⟩
theorem de_callTy {T : String} {rd : RDL} {x : Str} {p : Pos} {e : Expr} {es : List Expr} {g : DTA} (c : CallOk Xs mg (.type T) rd) (hm : mg.mg x = none) (hv : bootBuiltins x = some (.type T)) (ha : DA Xs mg Wx (e :: es) g)
    (hM : ∀ j, (Xs j).mg = mg.mg := by intro _; rfl) (hg : ∀ j, Gl (Xs j) x := by intro _; rfl) (hn : x ≠ "__name__" := by decide) (hd : (x == ("__debug__" : Str)) = false := by decide)
    (he : ∀ i, starEach (e :: es) (Xs i).env = (false, eval e (Xs i).env) :: starEach es (Xs i).env := by intro _; rfl) (hpl : ∀ i, (backTo pos (starEach es (Xs i).env)).any (·.1) = false := by intro _; rfl) : DE Xs mg Wx (.Call (.Name x p) (e :: es) [] pos) (dCB rd g) := by
  obtain ⟨r, c1, c2⟩ := c
  obtain ⟨t, h1, h2⟩ := ha
  exact ⟨_, fun i => pe_callTy (c1 i) (hg i) (by rw [hM i]; exact hm) hv (h1 i) hn hd (he i) (hpl i), Cp.cb c2 h2⟩
/-! ### a def's promise; room with no repr under way -/
structure RmG (k : Nat) (A : Around) : Prop where
  r : Room k A
  g : A.guards = some []
theorem RmG.mono {j k : Nat} {A : Around} (x : RmG k A) (h : j ≤ k) : RmG j A := ⟨x.r.mono h, x.g⟩
/-- as FnOk, where no repr is under way -/
structure FnG (P : Program) (w : World) (K : PySem.W.Frag) (mg : Str → Option Value) (base : Heap) (k : Nat) (f : Addr) (fd : FuncData) (ps : List Str) (sp : Sp) : Prop where
  ln : ∀ vs H Q E, sp vs H Q E → vs.length = ps.length
  go : ∀ (A : Around) (out : List PySem.Env) (z : Shared) (H : Hp) (ag : Args) (us : List Value) (vs : List V) (Q : VK) (E : XK), RmG k A → Env0 P w K mg base A out z H → BindsTo z fd ag (ps.zip us) → Vals vs us → sp vs H Q E →
    codeAny (model P w) A (.call (.ref f) ag) (CR (L2.CX P w) out P w H z Q E) z
theorem FnG.of {P : Program} {w : World} {K : PySem.W.Frag} {mg : Str → Option Value} {base : Heap} {k : Nat} {f : Addr} {fd : FuncData} {ps : List Str} {sp : Sp} (F : FnOk P w K mg base (L2.CX P w) k f fd ps sp) : FnG P w K mg base k f fd ps sp :=
  ⟨F.len, fun A out z H ag us vs Q E m => F.run A out z H ag us vs Q E m.r⟩
theorem FnG.up {P : Program} {w : World} {K : PySem.W.Frag} {mg : Str → Option Value} {base : Heap} {j k : Nat} {f : Addr} {fd : FuncData} {ps : List Str} {sp : Sp} (F : FnG P w K mg base j f fd ps sp) (h : j ≤ k) : FnG P w K mg base k f fd ps sp :=
  ⟨F.ln, fun A out z H ag us vs Q E m => F.go A out z H ag us vs Q E (m.mono h)⟩
/-- the callee's run, for a caller -/
theorem goG {X : Cx} {k : Nat} {f : Addr} {fd : FuncData} {ps : List Str} {sp : Sp} {Ew : St → XK} {pins : List (Addr × Obj)} {σ : St} {H : Hp} {z : Shared} {Q : VK} {us : List Value} {vs : List V} (F : FnG X.prog X.w X.K X.mg X.base k f fd ps sp) (m : RmG k X.A) (hb : Binds X.K fd ps []) (hx : PassesAt (L2.CX X.prog X.w) X σ (Ew σ))
    (I : Inv X pins σ H z) (rv : Vals vs us) (h : sp vs H Q (Ew σ)) : wpAny (model X.prog X.w) X.A (call (.ref f) us) (EP X pins σ Q) X.xe z := by
  have hl : (us ++ []).length = ps.length := by
    rw [List.append_nil, ← rv.length]
    exact F.ln _ _ _ _ h
  have bd := hb z us I.kIn hl
  rw [List.append_nil] at bd
  have cd := F.go X.A X.stack z H ⟨us, []⟩ us vs Q (Ew σ) m I.env0 bd rv h
  refine wpAny_call (codeAny_mono cd ?_)
  intro res z' hq
  match res, hq with
  | .error e, hq => exact hx pins H z e z' I hq
  | .ok (.ret u), hq => exact I.after hq
  | .ok .next, hq => exact hq.elim
  | .ok .brk, hq => exact hq.elim
  | .ok .cont, hq => exact hq.elim
theorem pe_callG {X : Cx} {k : Nat} {f : Addr} {fd : FuncData} {ps : List Str} {sp : Sp} {Ew : St → XK} {x : Str} {p pos : Pos} {e : Expr} {es : List Expr} {t : TA} (F : FnG X.prog X.w X.K X.mg X.base k f fd ps sp) (m : RmG k X.A) (gx : Gl X x) (mx : X.mg x = some (.ref f)) (kf : PySem.W.keepIn X.K (.ref f) = true) (hb : Binds X.K fd ps [])
    (hx : ∀ σ, PassesAt (L2.CX X.prog X.w) X σ (Ew σ)) (ha : PA X (e :: es) t) (nd : (x == ("__debug__" : Str)) = false) (s1 : starEach (e :: es) X.env = (false, eval e X.env) :: starEach es X.env) (s2 : (backTo pos (starEach es X.env)).any (·.1) = false) : PE X (.Call (.Name x p) (e :: es) [] pos) (tCallS sp Ew t) := by
  constructor
  intro pins z σ H Q I hw
  apply wpAny_Call_Name_kw
  apply ld_glob I gx mx _ nd
  apply PySem.W.callWith_K (h₀ := X.base) I.ok.mod.kin kf _ s1 s2
  refine thn (ha.run pos pins z σ H _ I hw) ?_
  rintro us z1 ⟨vs, H1, I1, rv, q⟩
  exact ⟨I1.kIn, goG F m hb (hx σ) I1 rv q⟩
def spD (mg : Gm) (n : Nat) (f : List D → M D) : Sp := fun vs H Q E => ∃ W ds Qd Ed, Holds W H ∧ Reps mg W vs ds ∧ ds.length = n ∧ f ds Qd Ed ∧ ToV mg W H Qd Q ∧ ∀ W' H' cls dd x, Step W H W' H' → RepX mg W' H' cls dd x → Ed x → E cls dd H'
/-- what a callee lets out is taken -/
def Pas (X : Cx) (W : WX) : Prop := ∀ σ, PassesAt (L2.CX X.prog X.w) X σ (WE W σ)
theorem pas {X : Cx} {W : WX} (tk : Takes X W) : Pas X W := fun σ => passAt tk σ
structure DefOk (P : Program) (w : World) (mg : Gm) (base : Heap) (k : Nat) (x : Str) (n : Nat) (f : List D → M D) : Prop where
  ex : ∃ fa fd ps, mg.mg x = some (.ref fa) ∧ PySem.W.keepIn mg.K (.ref fa) = true ∧ Binds mg.K fd ps [] ∧ ps.length = n ∧ FnG P w mg.K mg.mg base k fa fd ps (spD mg n f)
abbrev dCall (f : List D → M D) (n : Nat) (g : DTA) : DTE := fun ρ Q E => g ρ (fun ds => ds.length = n ∧ f ds Q E) E
theorem Cp.call {n : Nat} {f : List D → M D} {t : TA} {g : DTA} (h : CpA mg Wx t g) : Cp mg Wx (tCallS (spD mg n f) (WE Wx) t) (dCall f n g) := by
  intro B ρ Q E hf W σ H Q' hh e x q
  refine h B ρ _ E hf W σ H _ hh e x fun W1 H1 vs ds s1 r1 k1 => ?_
  exact ⟨W1, ds, Q, E, s1.holds, r1, k1.1, k1.2, ToV.step q s1, fun W' H' cls dd y s' r h => x W' H' cls dd y (s1.trans s') r h⟩
theorem de_call {P : Program} {w : World} {base : Heap} {k n : Nat} {x : Str} {f : List D → M D} {p : Pos} {e : Expr} {es : List Expr} {g : DTA} (F : DefOk P w mg base k x n f) (hr : ∀ i, RmG k (Xs i).A) (tk : ∀ i, Pas (Xs i) Wx) (ha : DA Xs mg Wx (e :: es) g)
    (hP : ∀ j, (Xs j).prog = P ∧ (Xs j).w = w ∧ (Xs j).K = mg.K ∧ (Xs j).mg = mg.mg ∧ (Xs j).base = base := by intro _; exact ⟨rfl, rfl, rfl, rfl, rfl⟩) (hg : ∀ j, Gl (Xs j) x := by intro _; rfl) (hd : (x == ("__debug__" : Str)) = false := by decide)
    (he : ∀ i, starEach (e :: es) (Xs i).env = (false, eval e (Xs i).env) :: starEach es (Xs i).env := by intro _; rfl) (hpl : ∀ i, (backTo pos (starEach es (Xs i).env)).any (·.1) = false := by intro _; rfl) : DE Xs mg Wx (.Call (.Name x p) (e :: es) [] pos) (dCall f n g) := by
  obtain ⟨fa, fd, ps, hm, hk, hb, hl, G⟩ := F.ex
  obtain ⟨t, h1, h2⟩ := ha
  refine ⟨_, fun i => ?_, Cp.call (f := f) (n := n) h2⟩
  obtain ⟨p1, p2, p3, p4, p5⟩ := hP i
  subst p1 p2 p5
  exact pe_callG (by rw [p3, p4]; exact G) (hr i) (hg i) (by rw [p4]; exact hm) (by rw [p3]; exact hk) (by rw [p3]; exact hb) (fun σ => tk i σ) (h1 i) hd (he i) (hpl i)
end
/-! ### inversions -/
theorem intOf {d : D} {P : Int → Prop} (h : match d with | .int i => P i | _ => False) : ∃ i, d = .int i ∧ P i := by
  cases d with
  | int i => exact ⟨i, rfl, h⟩
  | _ => exact False.elim h
theorem lstOf {d : D} {P : List D → Prop} (h : match d with | .lst i => P i | _ => False) : ∃ i, d = .lst i ∧ P i := by
  cases d with
  | lst i => exact ⟨i, rfl, h⟩
  | _ => exact False.elim h
theorem insOf {d : D} {P : Str → List (Str × D) → Prop} (h : match d with | .ins c fs => P c fs | _ => False) : ∃ c fs, d = .ins c fs ∧ P c fs := by
  cases d with
  | ins c fs => exact ⟨c, fs, rfl, h⟩
  | _ => exact False.elim h
section
variable {mg : Gm} {W : Wd} {v : V}
theorem Rep.inv {d : D} (r : Rep mg W v d) : (match d with
  | .int i => v = .int i
  | .str i => v = .str i
  | .bl i => v = .bl i
  | .lst ds => ∃ a vs, v = .ref a ∧ W.H a = some (.lst vs) ∧ Reps mg W vs ds
  | .tup ds => ∃ a vs, v = .ref a ∧ W.H a = some (.tup vs) ∧ Reps mg W vs ds
  | .dct ds => ∃ a o kvs, v = .ref a ∧ W.H a = some (.frz o (.dK kvs)) ∧ kvs.map (·.1) = ds.map (·.1) ∧ Reps mg W (kvs.map (·.2)) (ds.map (·.2))
  | .ins c ds => ∃ a C dx fs, v = .ref a ∧ mg.mg c = some (.ref C) ∧ W.H a = some (.ins C dx fs) ∧ fs.map (·.1) = ds.map (·.1) ∧ Reps mg W (fs.map (·.2)) (ds.map (·.2))
  | _ => True) := by
  cases r with
  | int => rfl
  | str => rfl
  | bl => rfl
  | lst h r => exact ⟨_, _, rfl, h, r⟩
  | tup h r => exact ⟨_, _, rfl, h, r⟩
  | dct h k r => exact ⟨_, _, _, rfl, h, k, r⟩
  | ins h h2 k r => exact ⟨_, _, _, _, rfl, h, h2, k, r⟩
  | _ => exact True.intro
theorem Rep.intI {i : Int} (r : Rep mg W v (.int i)) : v = .int i := r.inv
theorem Rep.lstI {ds : List D} (r : Rep mg W v (.lst ds)) : ∃ a vs, v = .ref a ∧ W.H a = some (.lst vs) ∧ Reps mg W vs ds := r.inv
theorem Rep.insI {c : Str} {ds : List (Str × D)} (r : Rep mg W v (.ins c ds)) : ∃ a C dx fs, v = .ref a ∧ mg.mg c = some (.ref C) ∧ W.H a = some (.ins C dx fs) ∧ fs.map (·.1) = ds.map (·.1) ∧ Reps mg W (fs.map (·.2)) (ds.map (·.2)) := r.inv
end
end FP
/-! FP3: statements, targets, what is walked, loops, comprehensions, a def by its body. -/
namespace FP
open PySem L2
variable [Tabl]
section
variable {ι : Type} {Xs : ι → Cx} {mg : Gm} {Wx : WX} {pos : Pos}
/-! ### blocks, small statements -/
abbrev dNext : DTS := fun N ρ => N.nx ρ
abbrev dSeq (f g : DTS) : DTS := fun N ρ => f { N with nx := g N } ρ
theorem dss_nil : DSs Xs mg Wx [] dNext := ⟨_, fun _ => pss_nil, fun W0 B N ρ h W σ H Ds s e n => n.nx W H σ ρ s e h⟩
theorem EndsR.nxt {W0 : Wd} {B : Hp} {N : Nd} {Ds : Ends} {nx : Env → Prop} {nx' : St → Hp → Prop} (n : EndsR mg Wx W0 B N Ds) (h : ∀ W' H' σ' ρ', Step W0 B W' H' → EnvR mg B W' H' σ' ρ' → nx ρ' → nx' σ' H') : EndsR mg Wx W0 B { N with nx := nx } { Ds with nx := nx' } := ⟨h, n.rt, n.bk, n.ct, n.rs⟩
theorem EndsR.rebase {W0 W : Wd} {B H : Hp} {N : Nd} {Ds : Ends} (n : EndsR mg Wx W0 B N Ds) (s : Step W0 B W H) : EndsR mg Wx W B N Ds :=
  ⟨fun W' H' σ' ρ' s' => n.nx W' H' σ' ρ' (s.join s'), fun W' H' σ' ρ' v d s' => n.rt W' H' σ' ρ' v d (s.join s'), fun W' H' σ' ρ' s' => n.bk W' H' σ' ρ' (s.join s'), fun W' H' σ' ρ' s' => n.ct W' H' σ' ρ' (s.join s'), fun W' H' σ' ρ' c d x s' => n.rs W' H' σ' ρ' c d x (s.join s')⟩
theorem dss_cons {st : Stmt} {rest : List Stmt} {f g : DTS} (h : DS Xs mg Wx st f) (h' : DSs Xs mg Wx rest g) : DSs Xs mg Wx (st :: rest) (dSeq f g) := by
  obtain ⟨t, h1, h2⟩ := h
  obtain ⟨u, g1, g2⟩ := h'
  refine ⟨_, fun i => pss_cons (h1 i) (g1 i), fun W0 B N ρ hf W σ H Ds s e n => ?_⟩
  exact h2 W0 B _ ρ hf W σ H _ s e (n.nxt fun W' H' σ' ρ' s' e' k => g2 W0 B N ρ' k W' σ' H' Ds s' e' n)
theorem dss_one {st : Stmt} {f : DTS} (h : DS Xs mg Wx st f) : DSs Xs mg Wx [st] f := by
  obtain ⟨t, h1, h2⟩ := h
  exact ⟨t, fun i => pss_one (h1 i), h2⟩
abbrev dDrop (f : DTE) : DTS := fun N ρ => f ρ (fun _ => N.nx ρ) (fun x => N.rs x ρ)
theorem ds_expr {e : Expr} {f : DTE} (h : DE Xs mg Wx e f) (hs : ∀ i, swapsWith e none pos.line (Xs i).env = pure false := by intro _; rfl) : DS Xs mg Wx (.Expr e pos) (dDrop f) := by
  obtain ⟨t, h1, h2⟩ := h
  refine ⟨_, fun i => ps_expr (h1 i) (hs i), fun W0 B N ρ hf W σ H Ds s e n => ?_⟩
  exact h2 B ρ _ _ hf W σ H _ s.holds e (n.ex s e) fun W1 H1 v d s1 r1 k1 => n.nx W1 H1 σ ρ (s.trans s1) (e.step s1) k1
abbrev dRet (f : DTE) : DTS := fun N ρ => f ρ (fun d => N.rt d ρ) (fun x => N.rs x ρ)
theorem ds_ret {e : Expr} {f : DTE} (h : DE Xs mg Wx e f) : DS Xs mg Wx (.Return (some e) pos) (dRet f) := by
  obtain ⟨t, h1, h2⟩ := h
  refine ⟨_, fun i => ps_ret (h1 i), fun W0 B N ρ hf W σ H Ds s e n => ?_⟩
  exact h2 B ρ _ _ hf W σ H _ s.holds e (n.ex s e) fun W1 H1 v d s1 r1 k1 => n.rt W1 H1 σ ρ v d (s.trans s1) (e.step s1) r1 k1
abbrev dRetN : DTS := fun N ρ => N.rt .non ρ
abbrev dIfS (c : DTT) (f g : DTS) : DTS := fun N ρ => c ρ (fun b => bit b (f N ρ) (g N ρ)) (fun x => N.rs x ρ)
theorem ds_if {c : Expr} {a b : List Stmt} {fc : DTT} {f g : DTS} (hc : DT Xs mg Wx c fc) (ha : DSs Xs mg Wx a f) (hb : DSs Xs mg Wx b g) : DS Xs mg Wx (.If c a b pos) (dIfS fc f g) := by
  obtain ⟨tc, c1, c2⟩ := hc
  obtain ⟨ta, a1, a2⟩ := ha
  obtain ⟨tb, b1, b2⟩ := hb
  refine ⟨_, fun i => ps_if (c1 i) (a1 i) (b1 i), fun W0 B N ρ hf W σ H Ds s e n => ?_⟩
  refine c2 B ρ _ _ hf W σ H _ s.holds e (n.ex s e) fun W1 H1 k s1 k1 => ?_
  cases k with
  | true =>
    rw [if_pos rfl]
    exact a2 W0 B N ρ k1 W1 σ H1 Ds (s.trans s1) (e.step s1) n
  | false =>
    rw [if_neg Bool.false_ne_true]
    exact b2 W0 B N ρ k1 W1 σ H1 Ds (s.trans s1) (e.step s1) n
abbrev dSet (i : Nat) (f : DTE) : DTS := fun N ρ => f ρ (fun d => N.nx (ρ.set i (.d d))) (fun x => N.rs x ρ)
theorem ds_set {i : Nat} {x : Str} {e : Expr} {f : DTE} {pos' : Pos} (h : DE Xs mg Wx e f) (hN : ∀ j, (Xs j).N.Nodup) (hi : ∀ j, (Xs j).N[i]? = some x := by intro _; rfl) (hx : ∀ j, Loc (Xs j).env.scope x := by intro _; first | exact Or.inl rfl | exact Or.inr rfl)
    (hs : ∀ j, swapsWith e (some (.Name x pos')) pos.line (Xs j).env = pure false := by intro _; rfl) (hf : ∀ j, (Xs j).fn x = true ∨ (Xs j).env.scope.names.lookup x = some .local := by intro _; first | exact .inl rfl | exact .inr rfl) : DS Xs mg Wx (.Assign [.Name x pos'] e pos) (dSet i f) := by
  obtain ⟨t, h1, h2⟩ := h
  refine ⟨_, fun j => ps_set (i := i) (hN j) (hi j) (hx j) (h1 j) (hs j) (hf j), fun W0 B N ρ hf W σ H Ds s e n => ?_⟩
  exact h2 B ρ _ _ hf W σ H _ s.holds e (n.ex s e) fun W1 H1 v d s1 r1 k1 => n.nx W1 H1 _ _ (s.trans s1) ((e.step s1).set r1) k1
/-! ### targets -/
inductive Tg where
  | one (i : Nat) | many (is : List Nat) | manyL (is : List Nat)
def putAll : List Nat → List D → Env → Option Env
  | [], [], ρ => some ρ
  | i :: is, d :: ds, ρ => putAll is ds (ρ.set i (.d d))
  | _, _, _ => none
def Tg.put : Tg → D → Env → Option Env
  | .one i, d, ρ => some (ρ.set i (.d d))
  | .many is, .tup ds, ρ => putAll is ds ρ
  | .many _, _, _ => none
  | .manyL is, .lst ds, ρ => putAll is ds ρ
  | .manyL _, _, _ => none
def Tg.slots : Tg → List Nat
  | .one i => [i]
  | .many is => is
  | .manyL is => is
theorem wipe_set_in {σ : St} {i : Nat} {o : Option V} : ∀ {vs : List Nat}, i ∈ vs → wipe (σ.set i o) vs = wipe σ vs
  | [], h => by cases h
  | v :: vs, h => by
    unfold wipe
    by_cases hi : i ∈ vs
    · rw [wipe_set_in hi]
    · have e : i = v := by
        rcases List.mem_cons.mp h with q | q
        · exact q
        · exact absurd q hi
      subst e
      have out : ∀ ws : List Nat, wipe (σ.set i o) ws = wipe σ ws ∨ ∃ o', wipe (σ.set i o) ws = (wipe σ ws).set i o' := by
        intro ws
        induction ws with
        | nil => exact .inr ⟨o, rfl⟩
        | cons w ws ih =>
          unfold wipe
          rcases ih with ih | ⟨o', ih⟩
          · rw [ih]
            exact .inl rfl
          · rw [ih]
            by_cases hw : w = i
            · subst hw
              rw [List.set_set]
              exact .inl rfl
            · exact .inr ⟨o', by rw [List.set_comm _ _ (Ne.symm hw)]⟩
      rcases out vs with q | ⟨o', q⟩
      · rw [q]
      · rw [q, List.set_set]
theorem wipe_wipe (σ : St) (vs : List Nat) : L2.wipe (L2.wipe σ vs) vs = L2.wipe σ vs := by
  have key : ∀ (us ws : List Nat) (τ : St), (∀ i ∈ ws, i ∈ us) → L2.wipe (L2.wipe τ ws) us = L2.wipe τ us := by
    intro us ws
    induction ws with
    | nil => intro τ _; rfl
    | cons w ws ih =>
      intro τ h
      show L2.wipe ((L2.wipe τ ws).set w none) us = _
      rw [wipe_set_in (h w List.mem_cons_self)]
      exact ih τ fun i hi => h i (List.mem_cons_of_mem _ hi)
  exact key vs vs σ fun _ h => h
def CpG (mg : Gm) (g : TG) (T : Tg) : Prop := ∀ B W H x d σ ρ ρ' Q', Holds W H → Rep mg W x d → EnvR mg B W H σ ρ → T.put d ρ = some ρ' → (∀ σ', EnvR mg B W H σ' ρ' → (∀ vs : List Nat, (∀ i ∈ T.slots, i ∈ vs) → wipe σ' vs = wipe σ vs) → Q' σ' H) → g x σ H Q'
def CpGs (mg : Gm) (g : TGs) (is : List Nat) : Prop := ∀ B W H xs ds σ ρ ρ' Q', Holds W H → Reps mg W xs ds → EnvR mg B W H σ ρ → putAll is ds ρ = some ρ' → (∀ σ', EnvR mg B W H σ' ρ' → (∀ vs : List Nat, (∀ i ∈ is, i ∈ vs) → wipe σ' vs = wipe σ vs) → Q' σ' H) → g xs σ H Q'
def DG (Xs : ι → Cx) (mg : Gm) (tg : Expr) (T : Tg) : Prop := ∃ g, (∀ i, PG (Xs i) tg g) ∧ CpG mg g T
def DGs (Xs : ι → Cx) (mg : Gm) (tgs : List Expr) (is : List Nat) : Prop := ∃ g, (∀ i, PGs (Xs i) tgs g) ∧ CpGs mg g is
theorem CpG.name {i : Nat} : CpG mg (gName i) (.one i) := fun B W H x d σ ρ ρ' Q' hh r e h q => by
  cases h
  exact q _ (e.set r) fun vs hv => wipe_set_in (hv i (List.mem_singleton.mpr rfl))
theorem pg_nm {i : Nat} {x : Str} (hN : ∀ j, (Xs j).N.Nodup) (hi : ∀ j, (Xs j).N[i]? = some x) (hx : ∀ j, Loc (Xs j).env.scope x) (hf : ∀ j, (Xs j).fn x = true ∨ (Xs j).env.scope.names.lookup x = some .local) : ∀ j, PG (Xs j) (.Name x pos) (gName i) := fun j => pg_name (hN j) (hi j) (hx j) (hf j)
theorem dg_name {i : Nat} {x : Str} (hN : ∀ j, (Xs j).N.Nodup) (hi : ∀ j, (Xs j).N[i]? = some x := by intro _; rfl) (hx : ∀ j, Loc (Xs j).env.scope x := by intro _; first | exact Or.inl rfl | exact Or.inr rfl)
    (hf : ∀ j, (Xs j).fn x = true ∨ (Xs j).env.scope.names.lookup x = some .local := by intro _; first | exact .inl rfl | exact .inr rfl) : DG Xs mg (.Name x pos) (.one i) := ⟨_, pg_nm hN hi hx hf, CpG.name⟩
theorem dgs_nil : DGs Xs mg [] [] := ⟨_, fun _ => pgs_nil, fun B W H xs ds σ ρ ρ' Q' hh r e h q => by
  cases r with
  | nil =>
    cases h
    exact ⟨rfl, q σ e fun _ _ => rfl⟩
  | cons => cases h⟩
theorem dgs_cons {i : Nat} {is : List Nat} {e : Expr} {es : List Expr} (h : DG Xs mg e (.one i)) (h' : DGs Xs mg es is) (hs : ∀ j, (assignEach (e :: es) (Xs j).env).map (·.2) = assign e (Xs j).env :: (assignEach es (Xs j).env).map (·.2) := by intro _; rfl) : DGs Xs mg (e :: es) (i :: is) := by
  obtain ⟨g, h1, h2⟩ := h
  obtain ⟨gs, g1, g2⟩ := h'
  refine ⟨_, fun j => pgs_cons (h1 j) (g1 j) (hs j), fun B W H xs ds σ ρ ρ' Q' hh r e h q => ?_⟩
  cases r with
  | nil => cases h
  | cons r1 rs =>
    refine ⟨_, _, rfl, h2 B W H _ _ σ ρ _ _ hh r1 e rfl fun σ1 e1 w1 => ?_⟩
    exact g2 B W H _ _ σ1 _ ρ' Q' hh rs e1 h fun σ2 e2 w2 => q σ2 e2 fun vs hv => (w2 vs fun j hj => hv j (List.mem_cons_of_mem _ hj)).trans (w1 vs fun j hj => hv j (by
      rw [List.mem_singleton.mp hj]
      exact List.mem_cons_self))
theorem putAll_len : ∀ {is : List Nat} {ds : List D} {ρ ρ' : Env}, putAll is ds ρ = some ρ' → ds.length = is.length
  | [], [], _, _, _ => rfl
  | _ :: is, _ :: ds, _, _, h => congrArg (· + 1) (putAll_len (is := is) (ds := ds) h)
  | [], _ :: _, _, _, h => by cases h
  | _ :: _, [], _, _, h => by cases h
theorem dg_tup {es : List Expr} {k : Nat} {is : List Nat} (h : DGs Xs mg es is) (hc : ∀ j, (Xs j).calm = true := by intro _; rfl) (hK : ∀ j, (Xs j).K = mg.K := by intro _; rfl) (hn : ∀ j, (assignEach es (Xs j).env).length = is.length := by intro _; rfl) (hst : ∀ j, (assignEach es (Xs j).env).findIdx? (·.1) = none := by intro _; rfl) : DG Xs mg (.Tuple es k pos) (.many is) := by
  obtain ⟨g, h1, h2⟩ := h
  refine ⟨gTup mg.K is.length g, fun j => by
    have z := pg_tup (pos := pos) (k := k) (n := is.length) (hc j) (h1 j) (hn j) (hst j)
    rw [hK j] at z
    exact z, fun B W H x d σ ρ ρ' Q' hh r e h q => ?_⟩
  cases r with
  | tup ha rs => exact ⟨_, _, rfl, SqT.of (hh.same _ _ ha), by rw [rs.length]; exact putAll_len h, h2 B W H _ _ σ ρ ρ' Q' hh rs e h q⟩
  | _ => cases h
theorem dg_unl {es : List Expr} {k : Nat} {is : List Nat} (h : DGs Xs mg es is) (hc : ∀ j, (Xs j).calm = true := by intro _; rfl) (hK : ∀ j, (Xs j).K = mg.K := by intro _; rfl) (hn : ∀ j, (assignEach es (Xs j).env).length = is.length := by intro _; rfl) (hst : ∀ j, (assignEach es (Xs j).env).findIdx? (·.1) = none := by intro _; rfl) : DG Xs mg (.Tuple es k pos) (.manyL is) := by
  obtain ⟨g, h1, h2⟩ := h
  refine ⟨gUnl mg.K is.length g, fun j => by
    have z := pg_unl (pos := pos) (k := k) (n := is.length) (hc j) (h1 j) (hn j) (hst j)
    rw [hK j] at z
    exact z, fun B W H x d σ ρ ρ' Q' hh r e h q => ?_⟩
  cases r with
  | lst ha rs => exact ⟨_, _, rfl, SqL.of (hh.same _ _ ha), by rw [rs.length]; exact putAll_len h, h2 B W H _ _ σ ρ ρ' Q' hh rs e h q⟩
  | _ => cases h
abbrev dAsg (T : Tg) (f : DTE) : DTS := fun N ρ => f ρ (fun d => ∃ ρ', T.put d ρ = some ρ' ∧ N.nx ρ') (fun x => N.rs x ρ)
theorem ds_asg {tg e : Expr} {f : DTE} {T : Tg} (h : DE Xs mg Wx e f) (g : DG Xs mg tg T) (hs : ∀ j, swapsWithSole [tg] e pos.line (Xs j).env = pure false := by intro _; rfl) (hw : ∀ j, swappedStores [tg] e (Xs j).env = pure none := by intro _; rfl)
    (ha : ∀ j, (assignEach [tg] (Xs j).env).map (·.2) = [assign tg (Xs j).env] := by intro _; rfl) : DS Xs mg Wx (.Assign [tg] e pos) (dAsg T f) := by
  obtain ⟨t, h1, h2⟩ := h
  obtain ⟨u, g1, g2⟩ := g
  refine ⟨_, fun j => ps_asg (h1 j) (g1 j) (hs j) (hw j) (ha j), fun W0 B N ρ hf W σ H Ds s e n => ?_⟩
  refine h2 B ρ _ _ hf W σ H _ s.holds e (n.ex s e) fun W1 H1 v d s1 r1 k1 => ?_
  obtain ⟨ρ', k2, k3⟩ := k1
  exact g2 B W1 H1 v d σ ρ ρ' _ s1.holds r1 (e.step s1) k2 fun σ' e' _ => n.nx W1 H1 σ' ρ' (s.trans s1) e' k3
/-! ### what is walked -/
def WalkD (mg : Gm) (W : Wd) (J : It) (ds : List D) : Prop := ∀ W1 H1, Le W W1 → Holds W1 H1 → (∀ i, i < ds.length → J.go i H1) ∧ J.stop ds.length H1 ∧ ∀ i x H2, i < ds.length → J.yld i H1 x H2 → ∃ W2 d, Step W1 H1 W2 H2 ∧ ds[i]? = some d ∧ Rep mg W2 x d
def CpI (mg : Gm) (Wx : WX) (w : TI) (f : DTI) : Prop := ∀ B ρ Q E, f ρ Q E → ∀ W σ H Q', Holds W H → EnvR mg B W H σ ρ → ExR mg Wx W H σ E → (∀ W' H' J ds, Step W H W' H' → WalkD mg W' J ds → Q ds → Q' J H') → w σ H Q'
def DI (Xs : ι → Cx) (mg : Gm) (Wx : WX) (tg e : Expr) (f : DTI) : Prop := ∃ w, (∀ i, PI (Xs i) tg e w) ∧ CpI mg Wx w f
/-- a walk that leaves the heap as it was -/
theorem WalkD.of {W : Wd} {J : It} {ds : List D} {G : Hp → Prop} {vs : Nat → Option V} (w : L2.Walk J ds.length G (fun i H x H' => H' = H ∧ vs i = some x)) (hG : ∀ W1 H1, Le W W1 → Holds W1 H1 → G H1) (hv : ∀ i x, i < ds.length → vs i = some x → ∃ d, ds[i]? = some d ∧ Rep mg W x d) : WalkD mg W J ds := by
  intro W1 H1 l hh
  refine ⟨fun i hi => w.goes i H1 hi (hG W1 H1 l hh), w.stops H1 (hG W1 H1 l hh), fun i x H2 hi y => ?_⟩
  obtain ⟨e, hx⟩ := w.yields i H1 x H2 hi (hG W1 H1 l hh) y
  subst e
  obtain ⟨d, h1, h2⟩ := hv i x hi hx
  exact ⟨W1, d, Step.refl hh, h1, h2.mono l⟩
abbrev dIList (f : DTE) : DTI := fun ρ Q E => f ρ (fun x => match x with
  | .lst ds => Q ds
  | .fz ds => Q ds
  | _ => False) E
theorem WalkD.list {W : Wd} {H : Hp} {a : Addr} {vs : List V} {ds : List D} (r : Reps mg W vs ds) (h : ∀ W1 H1, Le W W1 → Holds W1 H1 → SqL mg.K H1 a vs) : WalkD mg W (Itl mg.K a) ds := by
  have e := r.length
  have w := walk_list (K := mg.K) (a := a) (xs := vs)
  rw [e] at w
  exact WalkD.of (vs := fun i => vs[i]?) w h fun i x hi hx => r.getV hx
theorem di_list {tg e : Expr} {f : DTE} (h : DE Xs mg Wx e f) (hK : ∀ j, (Xs j).K = mg.K := by intro _; rfl) : DI Xs mg Wx tg e (dIList f) := by
  obtain ⟨t, h1, h2⟩ := h
  refine ⟨iList mg.K t, fun j => by
    have z := pi_list (tg := tg) (h1 j)
    rw [hK j] at z
    exact z, fun B ρ Q E hf W σ H Q' hh e x q => ?_⟩
  refine h2 B ρ _ E hf W σ H _ hh e x fun W1 H1 v d s1 r1 k1 => ?_
  cases r1 with
  | lst ha rs => exact ⟨_, rfl, ⟨_, SqL.of (s1.holds.same _ _ ha)⟩, q W1 H1 _ _ s1 (WalkD.list (H := H1) rs fun W2 H2 l hh => SqL.of (hh.same _ _ (l.h _ _ ha))) k1⟩
  | fz ha rs => exact ⟨_, rfl, ⟨_, s1.holds.same.seq ha⟩, q W1 H1 _ _ s1 (WalkD.list (H := H1) rs fun W2 H2 l hh => hh.same.seq (l.h.seq ha)) k1⟩
  | _ => exact k1.elim
abbrev dITup (f : DTE) : DTI := fun ρ Q E => f ρ (fun x => match x with
  | .tup ds => Q ds
  | _ => False) E
theorem di_tup {tg e : Expr} {f : DTE} (h : DE Xs mg Wx e f) (hK : ∀ j, (Xs j).K = mg.K := by intro _; rfl) : DI Xs mg Wx tg e (dITup f) := by
  obtain ⟨t, h1, h2⟩ := h
  refine ⟨iTup mg.K t, fun j => by
    have z := pi_tup (tg := tg) (h1 j)
    rw [hK j] at z
    exact z, fun B ρ Q E hf W σ H Q' hh e x q => ?_⟩
  refine h2 B ρ _ E hf W σ H _ hh e x fun W1 H1 v d s1 r1 k1 => ?_
  cases r1 with
  | @tup a vs ds ha rs =>
    refine ⟨_, rfl, ⟨_, SqT.of (s1.holds.same _ _ ha)⟩, q W1 H1 _ ds s1 ?_ k1⟩
    have w := walk_tup (K := mg.K) (a := a) (xs := vs)
    rw [rs.length] at w
    exact WalkD.of (vs := fun i => vs[i]?) w (fun W2 H2 l hh => SqT.of (hh.same _ _ (l.h _ _ ha))) fun i x hi hx => rs.getV hx
  | _ => exact k1.elim
/-- the signs of a text -/
def signsD (x : Str) : List D := x.cps.toList.map fun c => .str ⟨#[c]⟩
theorem signsD_len (x : Str) : (signsD x).length = x.cps.size := by simp [signsD]
abbrev dIStr (f : DTE) : DTI := fun ρ Q E => f ρ (fun x => match x with
  | .str z => Q (signsD z)
  | _ => False) E
theorem di_str {tg e : Expr} {f : DTE} (h : DE Xs mg Wx e f) : DI Xs mg Wx tg e (dIStr f) := by
  obtain ⟨t, h1, h2⟩ := h
  refine ⟨iStr t, fun j => pi_str (h1 j), fun B ρ Q E hf W σ H Q' hh e x q => ?_⟩
  refine h2 B ρ _ E hf W σ H _ hh e x fun W1 H1 v d s1 r1 k1 => ?_
  cases r1 with
  | str z =>
    refine ⟨z, rfl, q W1 H1 _ _ s1 (fun W2 H2 l hh => ?_) k1⟩
    have w := walk_str (z := z)
    refine ⟨fun i hi => w.goes i H2 (by rw [← signsD_len]; exact hi) True.intro, by rw [signsD_len]; exact w.stops H2 True.intro, fun i x H3 hi y => ?_⟩
    obtain ⟨e, c, hc, hx⟩ := w.yields i H2 x H3 (by rw [← signsD_len]; exact hi) True.intro y
    subst e hx
    refine ⟨W2, _, Step.refl hh, ?_, .str _⟩
    unfold signsD
    rw [List.getElem?_map, Array.getElem?_toList, hc]
    rfl
  | _ => exact k1.elim
def rangeD (lo : Int) (n : Nat) : List D := (List.range n).map fun (i : Nat) => D.int (lo + i)
theorem rangeD_len (lo : Int) (n : Nat) : (rangeD lo n).length = n := by simp [rangeD]
theorem WalkD.range {W : Wd} {lo : Int} {n : Nat} : WalkD mg W (Itr lo n) (rangeD lo n) := by
  intro W1 H1 l hh
  have w := walk_range (lo := lo) (n := n)
  refine ⟨fun i hi => w.goes i H1 (by rw [rangeD_len] at hi; exact hi) True.intro, by rw [rangeD_len]; exact w.stops H1 True.intro, fun i x H3 hi y => ?_⟩
  rw [rangeD_len] at hi
  obtain ⟨e, hx⟩ := w.yields i H1 x H3 hi True.intro y
  subst e hx
  refine ⟨W1, _, Step.refl hh, ?_, .int _⟩
  unfold rangeD
  rw [List.getElem?_map, List.getElem?_range hi]
  rfl
abbrev dIRng1 (g : DTA) : DTI := fun ρ Q E => g ρ (fun ds => match ds with
  | [.int j] => -(2 ^ 62) ≤ j ∧ j < 2 ^ 62 ∧ Q (rangeD 0 j.toNat)
  | _ => False) E
theorem di_range1 {tg a : Expr} {p : Pos} {g : DTA} (hm : mg.mg "range" = none) (h : DA Xs mg Wx [a] g) (hM : ∀ j, (Xs j).mg = mg.mg := by intro _; rfl) (hg : ∀ j, Gl (Xs j) "range" := by intro _; rfl) (hs : ∀ j, starEach [a] (Xs j).env = [(false, eval a (Xs j).env)] := by intro _; rfl) :
    DI Xs mg Wx tg (.Call (.Name "range" p) [a] [] pos) (dIRng1 g) := by
  obtain ⟨t, h1, h2⟩ := h
  refine ⟨iRng1 t, fun j => pi_range1 (hg j) (by rw [hM j]; exact hm) (h1 j) (hs j), fun B ρ Q E hf W σ H Q' hh e x q => ?_⟩
  refine h2 B ρ _ E hf W σ H _ hh e x fun W1 H1 vs ds s1 r1 k1 => ?_
  split at k1
  · rename_i j
    cases r1 with
    | cons r rs =>
      cases r
      cases rs
      exact ⟨j, rfl, k1.1, k1.2.1, q W1 H1 _ _ s1 WalkD.range k1.2.2⟩
  · exact k1.elim
abbrev dIRng2 (g : DTA) : DTI := fun ρ Q E => g ρ (fun ds => match ds with
  | [.int i, .int j] => (-(2 ^ 62) ≤ i ∧ i < 2 ^ 62 ∧ -(2 ^ 62) ≤ j ∧ j < 2 ^ 62) ∧ Q (rangeD i (j - i).toNat)
  | _ => False) E
theorem di_range2 {tg a b : Expr} {p : Pos} {g : DTA} (hm : mg.mg "range" = none) (h : DA Xs mg Wx [a, b] g) (hM : ∀ j, (Xs j).mg = mg.mg := by intro _; rfl) (hg : ∀ j, Gl (Xs j) "range" := by intro _; rfl) (hs : ∀ j, starEach [a, b] (Xs j).env = [(false, eval a (Xs j).env), (false, eval b (Xs j).env)] := by intro _; rfl)
    (hs2 : ∀ j, starEach [b] (Xs j).env = [(false, eval b (Xs j).env)] := by intro _; rfl) : DI Xs mg Wx tg (.Call (.Name "range" p) [a, b] [] pos) (dIRng2 g) := by
  obtain ⟨t, h1, h2⟩ := h
  refine ⟨iRng2 t, fun j => pi_range2 (hg j) (by rw [hM j]; exact hm) (h1 j) (hs j) (hs2 j), fun B ρ Q E hf W σ H Q' hh e x q => ?_⟩
  refine h2 B ρ _ E hf W σ H _ hh e x fun W1 H1 vs ds s1 r1 k1 => ?_
  split at k1
  · rename_i i j
    cases r1 with
    | cons r rs =>
      cases r
      cases rs with
      | cons r rs =>
        cases r
        cases rs
        exact ⟨i, j, rfl, k1.1, q W1 H1 _ _ s1 WalkD.range k1.2⟩
  · exact k1.elim
/-! ### for -/
def forD (T : Tg) (f : DTS) (N : Nd) : List D → Env → Prop
  | [], ρ => N.nx ρ
  | d :: ds, ρ => ∃ ρ1, T.put d ρ = some ρ1 ∧ f { N with nx := forD T f N ds, ct := forD T f N ds, bk := N.nx } ρ1
abbrev dFor (w : DTI) (T : Tg) (f : DTS) : DTS := fun N ρ => w ρ (fun ds => forD T f N ds ρ) (fun x => N.rs x ρ)
theorem ds_for {tg iter : Expr} {body : List Stmt} {w : DTI} {T : Tg} {f : DTS} (hi : DI Xs mg Wx tg iter w) (hg : DG Xs mg tg T) (hb : DSs Xs mg Wx body f) (hp : ∀ j, PassesOwn (model (Xs j).prog (Xs j).w) (Xs j).A (Xs j).env (Xs j).xe) (hc : ∀ j, (Xs j).calm = true := by intro _; rfl)
    (hs : ∀ j x, foldedSetIterable iter (Xs j).env x = pure x := by intro _ _; rfl) : DS Xs mg Wx (.For tg iter body [] pos) (dFor w T f) := by
  obtain ⟨wi, i1, i2⟩ := hi
  obtain ⟨g, g1, g2⟩ := hg
  obtain ⟨tb, b1, b2⟩ := hb
  refine ⟨_, fun j => ps_for (hp j) (hc j) (i1 j) (g1 j) (b1 j) (hs j), fun W0 B N ρ hf W σ H Ds s e n => ?_⟩
  refine i2 B ρ _ _ hf W σ H _ s.holds e (n.ex s e) fun W1 H1 J ds s1 wk k1 => ?_
  refine ⟨fun i m σ' H' => m = ds.length - i ∧ i ≤ ds.length ∧ ∃ W' ρ', Step W0 B W' H' ∧ EnvR mg B W' H' σ' ρ' ∧ Le W1 W' ∧ forD T f N (ds.drop i) ρ', ⟨ds.length, by simp, Nat.zero_le _, W1, ρ, s.trans s1, e.step s1, Le.refl _, k1⟩, ?_⟩
  rintro i m σ' H' ⟨rfl, hi, W', ρ', s', e', l', k'⟩
  obtain ⟨go, stop, yld⟩ := wk W' H' l' s'.holds
  by_cases hlt : i < ds.length
  · refine .inr ⟨go i hlt, fun σ2 H2 => ∃ W2 ρ2, Step W0 B W2 H2 ∧ EnvR mg B W2 H2 σ2 ρ2 ∧ Le W1 W2 ∧ forD T f N (ds.drop (i + 1)) ρ2, fun σ2 H2 q => ⟨ds.length - (i + 1), by omega, rfl, hlt, q⟩, fun x H2 y => ?_⟩
    obtain ⟨W2, d, s2, hd, r⟩ := yld i x H2 hlt y
    have ed : ds.drop i = d :: ds.drop (i + 1) := by
      rw [List.drop_eq_getElem_cons hlt]
      have := (List.getElem?_eq_some_iff.mp hd).2
      rw [this]
    rw [ed] at k'
    obtain ⟨ρ1, p1, k2⟩ := k'
    refine g2 B W2 H2 x d σ' ρ' ρ1 _ s2.holds r (e'.step s2) p1 fun σ3 e3 _ => ?_
    have s02 := s'.trans s2
    have n2 := n.rebase s02
    refine b2 W2 B _ ρ1 k2 W2 σ3 H2 _ s02.rebase e3 ⟨fun W3 H3 σ4 ρ4 s3 e4 k4 => ⟨W3, ρ4, s02.join s3, e4, (l'.trans s2.le).trans s3.le, k4⟩, n2.rt, n2.nx, fun W3 H3 σ4 ρ4 s3 e4 k4 => ⟨W3, ρ4, s02.join s3, e4, (l'.trans s2.le).trans s3.le, k4⟩, n2.rs⟩
  · have ei : i = ds.length := by omega
    subst ei
    rw [List.drop_length] at k'
    exact .inl ⟨stop, n.nx W' H' σ' ρ' s' e' k'⟩
/-! ### while -/
/-! ### a new list that grows -/
structure AccL (mg : Gm) (A : Addr) (W : Wd) (H : Hp) (us : List V) (acc : List D) (n : Nat) : Prop where
  h : H A = some (.lst us)
  w : W.H A = none
  t : ¬ W.T A
  r : Reps mg W us acc
  l : acc.length ≤ n
theorem AccL.new {W : Wd} {H : Hp} {A : Addr} (hh : Holds W H) (hA : H A = none) : AccL mg A W (upd H A (.lst [])) [] [] 0 := ⟨upd_same, hh.same.free hA, hh.nT hA, .nil, Nat.le_refl _⟩
theorem AccL.step {W W' : Wd} {H H' : Hp} {A : Addr} {us : List V} {acc : List D} {n : Nat} (I : AccL mg A W H us acc n) (s : Step W H W' H') : AccL mg A W' H' us acc n := by
  obtain ⟨h1, h2, h3⟩ := s.mine I.h I.w I.t
  exact ⟨h1, h2, h3, I.r.mono s.le, I.l⟩
theorem AccL.own {W0 W : Wd} {B H : Hp} {A : Addr} {us ys : List V} {acc : List D} {n : Nat} (I : AccL mg A W H us acc n) (s : Step W0 B W H) (hA : B A = none) : Step W0 B W (upd H A (.lst ys)) := s.own hA I.h I.w I.t
theorem AccL.snoc {W : Wd} {H : Hp} {A : Addr} {us : List V} {acc : List D} {n m : Nat} {v : V} {d : D} (I : AccL mg A W H us acc n) (r : Rep mg W v d) (hm : n + 1 ≤ m) : AccL mg A W (upd H A (.lst (us ++ [v]))) (us ++ [v]) (acc ++ [d]) m := ⟨upd_same, I.w, I.t, I.r.snoc r, by
  rw [List.length_append, List.length_singleton]
  exact Nat.le_trans (Nat.succ_le_succ I.l) hm⟩
theorem AccL.up {W : Wd} {H : Hp} {A : Addr} {us : List V} {acc : List D} {n m : Nat} (I : AccL mg A W H us acc n) (h : n ≤ m) : AccL mg A W H us acc m := ⟨I.h, I.w, I.t, I.r, Nat.le_trans I.l h⟩
theorem AccL.len {W : Wd} {H : Hp} {A : Addr} {us : List V} {acc : List D} {n : Nat} (I : AccL mg A W H us acc n) : us.length ≤ n := by
  rw [I.r.length]
  exact I.l
theorem drop_at {ds : List D} {i : Nat} {d : D} (h : ds[i]? = some d) : ds.drop i = d :: ds.drop (i + 1) := by
  obtain ⟨hl, e⟩ := List.getElem?_eq_some_iff.mp h
  rw [List.drop_eq_getElem_cons hl, e]
/-- a turn's promise -/
def AccP (mg : Gm) (A : Addr) (W1 : Wd) (H1 : Hp) (n : Nat) (K : List D → Prop) : Hp → Prop := fun H' => ∃ W' us acc, Step W1 H1 W' H' ∧ AccL mg A W' H' us acc n ∧ K acc
theorem app_one {α : Type} (Q : List α → Prop) (xs : List α) (x : α) : (fun rs => Q (xs ++ [x] ++ rs)) = fun rs => Q (xs ++ x :: rs) := funext fun rs => by rw [List.append_assoc]; rfl
/-! ### comprehensions -/
def lcD (body : D → (Option D → Prop) → Prop) : List D → (List D → Prop) → Prop
  | [], Q => Q []
  | d :: ds, Q => body d fun o => lcD body ds fun rs => match o with
    | some r => Q (r :: rs)
    | none => Q rs
def wipeD (ρ : Env) : List Nat → Env
  | [] => ρ
  | v :: vs => (wipeD ρ vs).set v .no
theorem EnvR.wipe {B : Hp} {W : Wd} {H : Hp} {σ : St} {ρ : Env} (e : EnvR mg B W H σ ρ) : ∀ vs : List Nat, EnvR mg B W H (L2.wipe σ vs) (wipeD ρ vs)
  | [] => e
  | v :: vs => (EnvR.wipe e vs).no
abbrev dLc (w : DTI) (T : Tg) (ft : DTT) (fe : DTE) (vs : List Nat) : DTE := fun ρ Q E => w ρ (fun ds => ds.length ≤ sizeLine ∧ lcD (fun d k => ∃ ρ2, T.put d (wipeD ρ vs) = some ρ2 ∧ ft ρ2 (fun b => bit b (fe ρ2 (fun r => k (some r)) F0) (k none)) F0) ds fun rs => Q (.lst rs)) E
abbrev blkF (Xs : ι → Cx) (scope : Scope) : ι × Shared × Hp × Addr × List (Str × Addr) × List Addr → Cx := fun j => (Xs j.1).blk j.2.1 j.2.2.1 scope (compEnvC scope j.2.2.2.2.1 j.2.2.2.1 (Xs j.1).env) j.2.2.2.2.2
def DTs (Xs : ι → Cx) (mg : Gm) (Wx : WX) (ifs : List Expr) (f : DTT) : Prop := ∃ t, (∀ i, PTs (Xs i) ifs t) ∧ CpT mg Wx t f
abbrev dYes : DTT := fun _ Q _ => Q true
theorem dts_nil : DTs Xs mg Wx [] dYes := ⟨_, fun _ => pts_nil, fun B ρ Q E hf W σ H Q' hh e x q => q W H true (Step.refl hh) hf⟩
theorem dts_one {c : Expr} {f : DTT} (h : DT Xs mg Wx c f) : DTs Xs mg Wx [c] f := by
  obtain ⟨t, h1, h2⟩ := h
  exact ⟨t, fun i => pts_one (h1 i), h2⟩
theorem Cp.lc {wi : TI} {g : TG} {tt : TT} {te : TE} {w : DTI} {T : Tg} {ft : DTT} {fe : DTE} {vs : List Nat} (hi : CpI mg Wx wi w) (hg : CpG mg g T) (hv : ∀ i ∈ T.slots, i ∈ vs) (ht : CpT mg Wx0 tt ft) (he : Cp mg Wx0 te fe) : Cp mg Wx (tLc wi g tt te vs) (dLc w T ft fe vs) := by
  intro B ρ Q E hf W σ H Q' hh e x q
  refine hi B ρ _ E hf W σ H _ hh e x fun W1 H1 J ds s1 wk k1 => ?_
  obtain ⟨hsz, k1⟩ := k1
  intro A hA
  have e1 := e.step s1
  refine ⟨fun i m H' => m = ds.length - i ∧ i ≤ ds.length ∧ AccP mg A W1 H1 i (fun acc => lcD _ (ds.drop i) (fun rs => Q (.lst (acc ++ rs)))) H', ⟨ds.length, rfl, Nat.zero_le _, W1, [], [], Step.lay s1.holds hA, .new s1.holds hA, k1⟩, ?_⟩
  rintro i m H' ⟨rfl, hi, W', us, acc, s', I, k'⟩
  obtain ⟨go, stop, yld⟩ := wk W' H' s'.le s'.holds
  by_cases hlt : i < ds.length
  · refine .inr ⟨go i hlt, AccP mg A W1 H1 (i + 1) (fun acc => lcD _ (ds.drop (i + 1)) (fun rs => Q (.lst (acc ++ rs)))), fun H2 q => ⟨ds.length - (i + 1), by omega, rfl, hlt, q⟩, fun y H2 hy => ?_⟩
    obtain ⟨W2, d, s2, hd, r⟩ := yld i y H2 hlt hy
    rw [drop_at hd] at k'
    obtain ⟨ρ1, p1, k2⟩ := k'
    refine hg B W2 H2 y d _ _ ρ1 _ s2.holds r ((e1.step s').step s2 |>.wipe vs) p1 fun σ3 e3 w3 => ?_
    refine ⟨(w3 vs hv).trans (wipe_wipe σ vs), ?_⟩
    refine ht B ρ1 _ _ k2 W2 σ3 H2 _ s2.holds e3 ExR.f0 fun W3 H3 b s3 k3 => ?_
    have I3 := I.step (s2.trans s3)
    cases b with
    | true =>
      rw [if_pos rfl]
      refine he B ρ1 _ _ k3 W3 σ3 H3 _ s3.holds (e3.step s3) ExR.f0 fun W4 H4 z dz s4 r4 k4 => ?_
      have I4 := I3.step s4
      refine ⟨us, I4.h, Nat.lt_of_le_of_lt I.len (Nat.lt_of_lt_of_le hlt hsz), W4, us ++ [z], acc ++ [dz], I4.own ((s'.trans s2).trans (s3.trans s4)) hA, I4.snoc r4 (Nat.le_refl _), ?_⟩
      show lcD _ _ (fun rs => Q (.lst (acc ++ [dz] ++ rs)))
      rw [app_one (fun l => Q (.lst l))]
      exact k4
    | false =>
      rw [if_neg Bool.false_ne_true]
      exact ⟨W3, us, acc, (s'.trans s2).trans s3, I3.up (Nat.le_succ _), k3⟩
  · have ei : i = ds.length := by omega
    subst ei
    rw [List.drop_length] at k'
    refine .inl ⟨stop, q (W'.put A (.lst us)) H' _ _ (s1.trans (s'.taken hA I.h I.w I.t)) (Rep.newLst I.r I.w) ?_⟩
    have k2 : Q (.lst (acc ++ [])) := k'
    rw [List.append_nil] at k2
    exact k2
theorem de_lc {elt tg iter : Expr} {ifs : List Expr} {scope : Scope} {own : List (Str × Nat)} {w : DTI} {T : Tg} {ft : DTT} {fe : DTE} (hN : ∀ j, (Xs j).N.Nodup) (hi : DI Xs mg Wx tg iter w) (ok : ∀ j, BlkOk (Xs j).N (Xs j).env.scope scope own) (hg : DG (blkF Xs scope) mg tg T) (ht : DTs (blkF Xs scope) mg Wx0 ifs ft) (he : DE (blkF Xs scope) mg Wx0 elt fe)
    (hv : ∀ i ∈ T.slots, i ∈ own.map (·.2) := by decide) (hc : ∀ j, (Xs j).calm = true := by intro _; rfl) (hs : ∀ j x, foldedSetIterable iter (Xs j).env x = pure x := by intro _ _; rfl) : DE Xs mg Wx (.ListComp elt [⟨tg, iter, ifs, 0⟩] scope pos) (dLc w T ft fe (own.map (·.2))) := by
  obtain ⟨wi, i1, i2⟩ := hi
  obtain ⟨g, g1, g2⟩ := hg
  obtain ⟨tt, t1, t2⟩ := ht
  obtain ⟨te, e1, e2⟩ := he
  exact ⟨_, fun j => pe_lc (hc j) (hN j) (i1 j) (ok j) (fun s H C cl fp => g1 (j, s, H, C, cl, fp)) (fun s H C cl fp => t1 (j, s, H, C, cl, fp)) (fun s H C cl fp => e1 (j, s, H, C, cl, fp)) (hs j), Cp.lc i2 g2 hv t2 e2⟩
theorem ds_setLc {i : Nat} {y : Str} {py spos : Pos} {elt tg iter : Expr} {ifs : List Expr} {scope : Scope} {own : List (Str × Nat)} {w : DTI} {T : Tg} {ft : DTT} {fe : DTE} (hN : ∀ j, (Xs j).N.Nodup) (hi : DI Xs mg Wx tg iter w) (ok : ∀ j, BlkOk (Xs j).N (Xs j).env.scope scope own) (hg : DG (blkF Xs scope) mg tg T) (ht : DTs (blkF Xs scope) mg Wx0 ifs ft) (he : DE (blkF Xs scope) mg Wx0 elt fe)
    (hsw : ∀ j, swapsWith (.ListComp elt [⟨tg, iter, ifs, 0⟩] scope pos) (some (.Name y py)) spos.line (Xs j).env = pure true) (hy : ∀ j, (Xs j).N[i]? = some y := by intro _; rfl) (hyl : ∀ j, (Xs j).env.scope.names.lookup y = some .local := by intro _; rfl)
    (hv : ∀ i ∈ T.slots, i ∈ own.map (·.2) := by decide) (hc : ∀ j, (Xs j).calm = true := by intro _; rfl) (hs : ∀ j x, foldedSetIterable iter (Xs j).env x = pure x := by intro _ _; rfl) : DS Xs mg Wx (.Assign [.Name y py] (.ListComp elt [⟨tg, iter, ifs, 0⟩] scope pos) spos) (dSet i (dLc w T ft fe (own.map (·.2)))) := by
  obtain ⟨wi, i1, i2⟩ := hi
  obtain ⟨g, g1, g2⟩ := hg
  obtain ⟨tt, t1, t2⟩ := ht
  obtain ⟨te, e1, e2⟩ := he
  refine ⟨_, fun j => ps_setLc (i := i) (hc j) (hN j) (hy j) (hyl j) (hsw j) (i1 j) (ok j) (fun s H C cl fp => g1 (j, s, H, C, cl, fp)) (fun s H C cl fp => t1 (j, s, H, C, cl, fp)) (fun s H C cl fp => e1 (j, s, H, C, cl, fp)) (hs j), fun W0 B N ρ hf W σ H Ds s e n => ?_⟩
  exact Cp.lc i2 g2 hv t2 e2 B ρ _ _ hf W σ H _ s.holds e (n.ex s e) fun W1 H1 v d s1 r1 k1 => n.nx W1 H1 _ _ (s.trans s1) ((e.step s1).set r1) k1
/-! ### a def by its body -/
def startD (n : Nat) (ds : List D) : Env := ds.map Sl.d ++ List.replicate (n - ds.length) .no
theorem EnvR.start {N : List Str} {W : Wd} {H : Hp} : ∀ {vs : List V} {ds : List D}, Reps mg W vs ds → EnvR mg H W H (L2.start N vs) (startD N.length ds) := by
  intro vs ds r
  have el := r.length
  refine ⟨by simp [L2.start, startD, el], fun i s h => ?_, fun i j xs ys o1 o2 a _ h1 _ _ _ m1 _ => ?_⟩
  · unfold startD at h
    unfold L2.start
    by_cases hi : i < ds.length
    · rw [List.getElem?_append_left (by simpa using hi), List.getElem?_map] at h
      rw [List.getElem?_append_left (by simpa [el] using hi), List.getElem?_map]
      cases q : ds[i]? with
      | none =>
        rw [q] at h
        cases h
      | some d =>
        rw [q] at h
        cases h
        obtain ⟨v, h1, h2⟩ := r.get q
        exact ⟨some v, by rw [h1]; rfl, v, rfl, h2⟩
    · rw [List.getElem?_append_right (by simpa using Nat.le_of_not_lt hi), List.getElem?_replicate] at h
      rw [List.getElem?_append_right (by simpa [el] using Nat.le_of_not_lt hi), List.getElem?_replicate]
      split at h
      · cases h
        rename_i hq
        refine ⟨none, ?_, True.intro⟩
        rw [if_pos]
        simpa [el] using hq
      · cases h
  · unfold startD at h1
    have hm := List.mem_of_getElem? h1
    rcases List.mem_append.mp hm with q | q
    · obtain ⟨_, _, z⟩ := List.mem_map.mp q
      rw [← z] at m1
      cases m1
    · have z := List.eq_of_mem_replicate q
      rw [z] at m1
      cases m1
/-- the rule for a def, where no repr is under way -/
theorem fnG_of {P : Program} {w : World} {K : PySem.W.Frag} {mg : Str → Option Value} {base : Heap} {x qual : Str} {st : Stmt} {fa : Addr} {fd : FuncData} {N ps : List Str} {k : Nat} {sp : Sp} (F : Fun K x qual st fa fd) (S : FnScope N ps (defScope st)) (ln : ∀ vs H Q E, sp vs H Q E → vs.length = ps.length)
    (hb : ∀ (cdv : Value) (A : Around) (out : List PySem.Env) (z : Shared) (H : Hp) (vs : List V) (Q : VK) (E : XK), RmG k (A.deeper (PyProof.Rows.envOfC qual (defScope st) z.heap.objs.size fa cdv)) → sp vs H Q E →
      ∃ t, PSs (cxOf (L2.CX P w) P w K mg base N qual (defScope st) fa cdv A out z H E) (defBody st) t ∧ t { nx := fun _ H' => Q .non H', rt := Q } (L2.start N vs) H) : FnG P w K mg base (k + 1) fa fd ps sp := by
  obtain ⟨oc, od, kV, doc, pm, an, cdv, ct, osl, rfl, lk, hcd⟩ := F.ex
  refine ⟨ln, fun A out z H ag us vs Q E m e0 bd rv hs => ?_⟩
  have inK : K.In z.heap := e0.mod.kin.keeps fun c u q => (e0.bs c u q).1
  have noL : z.heap.NoLimit := e0.mod.nolimit.keeps fun c u q => (e0.bs c u q).1
  have kinds : ∀ y ∈ ps.zip us, (defScope st).names.lookup y.1 = some .local ∨ ((defScope st).names.lookup y.1 = some .cell ∧ ((cellsFrom (z.heap.objs.size + 1) (defScope st).names []).lookup y.1).isSome = true) := by
    rintro ⟨n, v⟩ hy
    refine (S.par n (List.of_mem_zip hy).1).imp id ?_
    intro c
    exact ⟨c, PySem.W.cellsFrom_some _ _ _ (.inl c)⟩
  apply codeAny_call_function m.r.depth (inK _ _ lk) rfl S.co S.gen rfl (PySem.W.codeRec_of inK hcd)
  apply bd
  apply wpAny_newFunctionEnv_cells S.kind kinds
  intro env he z1 inC
  subst he
  obtain ⟨t, pt, tq⟩ := hb cdv A out z H vs Q E ⟨m.r.deeper _, m.g⟩ hs
  have I0 := inv_start (CX := L2.CX P w) (E := E) S m.r.hd e0 (ln _ _ _ _ hs) rv inC
  refine ⟨noL.keeps inC.toInCall.keep, codeAny_func (wpAny_mono (pt.run [] z1 _ H _ I0 tq) ?_ fun _ _ q => q)⟩
  intro fl z' hfl
  match fl, hfl with
  | .ret u, ⟨v, _, H', J, ru, q⟩ => exact ⟨v, H', J.os, J.bare, J.base, J.hok, ru, q⟩
  | .next, ⟨_, H', J, q⟩ => exact ⟨V.non, H', J.os, J.bare, J.base, J.hok, rfl, q⟩
  | .brk, ⟨_, _, _, q⟩ => exact q.elim
  | .cont, ⟨_, _, _, q⟩ => exact q.elim
theorem def_ok {P : Program} {w : World} {base : Heap} {x qual : Str} {st : Stmt} {fa : Addr} {fd : FuncData} {N ps : List Str} {k : Nat} {f : List D → M D} (F : Fun mg.K x qual st fa fd) (S : FnScope N ps (defScope st))
    (h : ∀ (cdv : Value) (A : Around) (outer : List PySem.Env) (s : Shared) (H : Hp) (E : XK), RmG k (A.deeper (PyProof.Rows.envOfC qual (defScope st) s.heap.objs.size fa cdv)) →
      ∃ g, DSs (fun _ : Unit => cxOf (L2.CX P w) P w mg.K mg.mg base N qual (defScope st) fa cdv A outer s H E) mg (fun cls d _ H' => E cls d H') (defBody st) g ∧
        ∀ ds Q Ex, ds.length = ps.length → f ds Q Ex → g ⟨fun _ => Q .non, fun d _ => Q d, fun _ => False, fun _ => False, fun x _ => Ex x⟩ (startD N.length ds)) :
    FnG P w mg.K mg.mg base (k + 1) fa fd ps (spD mg ps.length f) := by
  refine fnG_of F S (fun vs H Q E hs => ?_) (fun cdv A outer s H vs Q E hr hs => ?_)
  · obtain ⟨W, ds, Qd, Ed, _, r, l, _⟩ := hs
    rw [r.length, l]
  · obtain ⟨W, ds, Qd, Ed, hh, r, l, hf, q, x⟩ := hs
    obtain ⟨g, ⟨t, h1, h2⟩, h3⟩ := h cdv A outer s H E hr
    refine ⟨t, h1 (), ?_⟩
    refine h2 W H _ _ (h3 ds Qd Ed l hf) W _ H _ (Step.refl hh) (EnvR.start r) ⟨fun W' H' σ' ρ' s' e' k => q W' H' _ _ s' .non k, fun W' H' _ _ v d s' _ r k => q W' H' v d s' r k, fun _ _ _ _ _ _ k => k, fun _ _ _ _ _ _ k => k, fun W' H' σ' ρ' cls dd y s' e' r' k => x W' H' cls dd y s' r' k⟩
end
end FP
/-! FP4: operators, comparisons, built-in functions by data. -/
namespace FP
open PySem L2
variable [Tabl]
section
variable {ι : Type} {Xs : ι → Cx} {mg : Gm} {Wx : WX} {pos : Pos}
/-! ### arithmetic, joining -/
theorem op_catK {X : Cx} {K : PySem.W.Frag} (h : X.K = K) : OpR X (binaryOp .Add) (rCatA K) := by
  subst h
  exact op_catA
theorem op_inK {X : Cx} {K : PySem.W.Frag} (h : X.K = K) : OpR X (compareOp .In) (rIn K false) := by
  subst h
  exact op_in_seq
theorem op_notInK {X : Cx} {K : PySem.W.Frag} (h : X.K = K) : OpR X (compareOp .NotIn) (rIn K true) := by
  subst h
  exact op_notIn_seq
def rdAdd : RD2 := fun x y Q => match x, y with
  | .int i, .int j => Q (.int (i + j))
  | .str a, .str b => a.length + b.length ≤ sizeLine ∧ Q (.str (a ++ b))
  | .lst xs, .lst ys => xs.length + ys.length ≤ sizeLine ∧ Q (.lst (xs ++ ys))
  | .tup xs, .tup ys => xs.length + ys.length ≤ sizeLine ∧ Q (.tup (xs ++ ys))
  | _, _ => False
theorem ok_add (hK : ∀ j, (Xs j).K = mg.K := by intro _; rfl) : OpOk Xs mg (binaryOp .Add) rdAdd := by
  refine OpOk.mk (fun j => OpR.or op_add (OpR.or op_add_str (OpR.or op_cat (op_catK (hK j))))) ?_
  intro W H x y dx dy Q Q' P hh rx ry h q hP
  cases rx with
  | int =>
    cases ry with
    | int =>
      delta rdAdd at h
      dsimp only at h
      exact hP _ _ (.inl ⟨_, _, rfl, rfl, q W H _ _ (Step.refl hh) (.int _) h⟩)
    | _ => exact False.elim h
  | str =>
    cases ry with
    | str =>
      delta rdAdd at h
      dsimp only at h
      exact hP _ _ (.inr (.inl ⟨_, _, rfl, rfl, h.1, q W H _ _ (Step.refl hh) (.str _) h.2⟩))
    | _ => exact False.elim h
  | lst ha ra =>
    cases ry with
    | lst hb rb =>
      delta rdAdd at h
      dsimp only at h
      exact hP _ _ (.inr (.inr (.inl ⟨_, _, _, _, rfl, rfl, hh.same _ _ ha, hh.same _ _ hb, by rw [ra.length, rb.length]; exact h.1, to_lst q hh (ra.append rb) h.2⟩)))
    | _ => exact False.elim h
  | tup ha ra =>
    cases ry with
    | tup hb rb =>
      delta rdAdd at h
      dsimp only at h
      refine hP _ _ (.inr (.inr (.inr ⟨_, _, _, _, rfl, rfl, SqT.of (hh.same _ _ ha), SqT.of (hh.same _ _ hb), by rw [ra.length, rb.length]; exact h.1, fun e => ?_, fun _ e => ?_, fun _ _ => to_tup q hh (ra.append rb) h.2⟩)))
      · subst e
        cases ra
        exact q W H _ _ (Step.refl hh) (.tup hb rb) h.2
      · subst e
        cases rb
        have h2 := h.2
        rw [List.append_nil] at h2
        exact q W H _ _ (Step.refl hh) (.tup ha ra) h2
    | _ => exact False.elim h
  | _ => exact False.elim h
def rdSub : RD2 := fun x y Q => match x, y with
  | .int i, .int j => Q (.int (i - j))
  | _, _ => False
theorem ok_sub : OpOk Xs mg (binaryOp .Sub) rdSub := by
  refine ⟨_, fun j => op_sub, ?_⟩
  intro W H x y dx dy Q Q' hh rx ry h q
  cases rx with
  | int =>
    cases ry with
    | int =>
      delta rdSub at h
      dsimp only at h
      exact ⟨_, _, rfl, rfl, q W H _ _ (Step.refl hh) (.int _) h⟩
    | _ => exact False.elim h
  | _ => exact False.elim h
def rdMul : RD2 := fun x y Q => match x, y with
  | .int i, .int j => CMul i j ∧ Q (.int (i * j))
  | .lst xs, .int k => (-(2 ^ 63) ≤ k ∧ k < 2 ^ 63) ∧ xs.length * k.toNat ≤ sizeLine ∧ Q (.lst (List.replicate k.toNat xs).flatten)
  | _, _ => False
theorem Reps.flat {W : Wd} {vs : List V} {ds : List D} (r : Reps mg W vs ds) : ∀ n, Reps mg W (List.replicate n vs).flatten (List.replicate n ds).flatten
  | 0 => .nil
  | n + 1 => by
    rw [List.replicate_succ, List.replicate_succ, List.flatten_cons, List.flatten_cons]
    exact r.append (Reps.flat r n)
theorem ok_mul : OpOk Xs mg (binaryOp .Mult) rdMul := by
  refine OpOk.mk (fun j => OpR.or op_mul op_rep) ?_
  intro W H x y dx dy Q Q' P hh rx ry h q hP
  cases rx with
  | int =>
    cases ry with
    | int =>
      delta rdMul at h
      dsimp only at h
      exact hP _ _ (.inl ⟨_, _, rfl, rfl, h.1, q W H _ _ (Step.refl hh) (.int _) h.2⟩)
    | _ => exact False.elim h
  | lst ha ra =>
    cases ry with
    | int =>
      delta rdMul at h
      dsimp only at h
      exact hP _ _ (.inr ⟨_, _, _, rfl, rfl, hh.same _ _ ha, h.1.1, h.1.2, by rw [ra.length]; exact h.2.1, to_lst q hh (ra.flat _) h.2.2⟩)
    | _ => exact False.elim h
  | _ => exact False.elim h
def rdFdiv : RD2 := fun x y Q => match x, y with
  | .int i, .int j => CDivN i j ∧ Q (.int (i.fdiv j))
  | _, _ => False
theorem ok_fdiv : OpOk Xs mg (binaryOp .FloorDiv) rdFdiv := by
  refine OpOk.mk (fun j => op_fdivN) ?_
  intro W H x y dx dy Q Q' P hh rx ry h q hP
  cases rx with
  | int =>
    cases ry with
    | int =>
      delta rdFdiv at h
      dsimp only at h
      exact hP _ _ (⟨_, _, rfl, rfl, h.1, q W H _ _ (Step.refl hh) (.int _) h.2⟩)
    | _ => exact False.elim h
  | _ => exact False.elim h
def rdMod : RD2 := fun x y Q => match x, y with
  | .int i, .int j => 0 < j ∧ Q (.int (i % j))
  | _, _ => False
theorem ok_mod : OpOk Xs mg (binaryOp .Mod) rdMod := by
  refine OpOk.mk (fun j => op_mod) ?_
  intro W H x y dx dy Q Q' P hh rx ry h q hP
  cases rx with
  | int =>
    cases ry with
    | int =>
      delta rdMod at h
      dsimp only at h
      exact hP _ _ (⟨_, _, rfl, rfl, h.1, q W H _ _ (Step.refl hh) (.int _) h.2⟩)
    | _ => exact False.elim h
  | _ => exact False.elim h
def CPowW (a n : Int) : Prop := 0 ≤ n ∧ (Builtin.Int.intBits a : Int) * n ≤ 2 ^ 27
theorem op_powW {X : Cx} : OpR X (binaryOp .Pow) (rI CPowW fun i j => .int (i ^ j.toNat)) := opI fun _ _ _ _ _ _ _ hc q => PyProof.Rows.pow_int hc.1 hc.2 q
def rdPow : RD2 := fun x y Q => match x, y with
  | .int i, .int j => CPowW i j ∧ Q (.int (i ^ j.toNat))
  | _, _ => False
theorem ok_pow : OpOk Xs mg (binaryOp .Pow) rdPow := by
  refine OpOk.mk (fun j => op_powW) ?_
  intro W H x y dx dy Q Q' P hh rx ry h q hP
  cases rx with
  | int =>
    cases ry with
    | int =>
      delta rdPow at h
      dsimp only at h
      exact hP _ _ (⟨_, _, rfl, rfl, h.1, q W H _ _ (Step.refl hh) (.int _) h.2⟩)
    | _ => exact False.elim h
  | _ => exact False.elim h
abbrev dNeg (f : DTE) : DTE := fun ρ Q E => f ρ (fun x => match x with
  | .int i => Q (.int (-i))
  | _ => False) E
theorem de_neg {a : Expr} {f : DTE} (h : DE Xs mg Wx a f) : DE Xs mg Wx (.UnaryOp .USub a pos) (dNeg f) := by
  obtain ⟨t, h1, h2⟩ := h
  refine ⟨_, fun i => pe_un un_neg (h1 i), fun B ρ Q E hf W σ H Q' hh e x q => h2 B ρ _ E hf W σ H _ hh e x fun W1 H1 v d s1 r1 k1 => ?_⟩
  obtain ⟨i, rfl, k1⟩ := intOf k1
  obtain rfl := r1.intI
  exact ⟨_, rfl, q W1 H1 _ _ s1 (.int _) k1⟩
/-! ### order -/
def rdLt : RD2 := fun x y Q => match x, y with
  | .int i, .int j => Q (.bl (decide (i < j)))
  | .str a, .str b => Q (.bl (decide (a.cps.toList < b.cps.toList)))
  | _, _ => False
def rdLe : RD2 := fun x y Q => match x, y with
  | .int i, .int j => Q (.bl (decide (i ≤ j)))
  | .str a, .str b => Q (.bl (!decide (b.cps.toList < a.cps.toList)))
  | _, _ => False
def rdGt : RD2 := fun x y Q => match x, y with
  | .int i, .int j => Q (.bl (decide (j < i)))
  | .str a, .str b => Q (.bl (decide (b.cps.toList < a.cps.toList)))
  | _, _ => False
def rdGe : RD2 := fun x y Q => match x, y with
  | .int i, .int j => Q (.bl (decide (j ≤ i)))
  | .str a, .str b => Q (.bl (!decide (a.cps.toList < b.cps.toList)))
  | _, _ => False
theorem ok_lt : OpOk Xs mg (compareOp .Lt) rdLt := by
  refine OpOk.mk (fun j => OpR.or op_lt op_lt_str) ?_
  intro W H x y dx dy Q Q' P hh rx ry h q hP
  cases rx with
  | int =>
    cases ry with
    | int =>
      delta rdLt at h
      dsimp only at h
      exact hP _ _ (.inl ⟨_, _, rfl, rfl, q W H _ _ (Step.refl hh) (.bl _) h⟩)
    | _ => exact False.elim h
  | str =>
    cases ry with
    | str =>
      delta rdLt at h
      dsimp only at h
      exact hP _ _ (.inr ⟨_, _, rfl, rfl, q W H _ _ (Step.refl hh) (.bl _) h⟩)
    | _ => exact False.elim h
  | _ => exact False.elim h
theorem ok_le : OpOk Xs mg (compareOp .LtE) rdLe := by
  refine OpOk.mk (fun j => OpR.or op_le op_le_str) ?_
  intro W H x y dx dy Q Q' P hh rx ry h q hP
  cases rx with
  | int =>
    cases ry with
    | int =>
      delta rdLe at h
      dsimp only at h
      exact hP _ _ (.inl ⟨_, _, rfl, rfl, q W H _ _ (Step.refl hh) (.bl _) h⟩)
    | _ => exact False.elim h
  | str =>
    cases ry with
    | str =>
      delta rdLe at h
      dsimp only at h
      exact hP _ _ (.inr ⟨_, _, rfl, rfl, q W H _ _ (Step.refl hh) (.bl _) h⟩)
    | _ => exact False.elim h
  | _ => exact False.elim h
theorem ok_gt : OpOk Xs mg (compareOp .Gt) rdGt := by
  refine OpOk.mk (fun j => OpR.or op_gt op_gt_str) ?_
  intro W H x y dx dy Q Q' P hh rx ry h q hP
  cases rx with
  | int =>
    cases ry with
    | int =>
      delta rdGt at h
      dsimp only at h
      exact hP _ _ (.inl ⟨_, _, rfl, rfl, q W H _ _ (Step.refl hh) (.bl _) h⟩)
    | _ => exact False.elim h
  | str =>
    cases ry with
    | str =>
      delta rdGt at h
      dsimp only at h
      exact hP _ _ (.inr ⟨_, _, rfl, rfl, q W H _ _ (Step.refl hh) (.bl _) h⟩)
    | _ => exact False.elim h
  | _ => exact False.elim h
/-! ### equality -/
mutual
def toPy : D → Option PyData
  | .non => some .none
  | .bl b => some (.bool b)
  | .int i => some (.int i)
  | .str x => some (.str x)
  | .tup xs => match toPys xs with
    | some ps => some (.tuple ps)
    | none => none
  | .lst xs => match toPys xs with
    | some ps => some (.list ps)
    | none => none
  | .fz _ => none
  | .dct _ => none
  | .ins _ _ => none
  | .tok => none
  | .cl _ => none
  | .fn _ _ => none
def toPys : List D → Option (List PyData)
  | [] => some []
  | x :: xs => match toPy x, toPys xs with
    | some p, some ps => some (p :: ps)
    | _, _ => none
end
theorem toPys_cons {d : D} {ds : List D} {ps : List PyData} (e : toPys (d :: ds) = some ps) : ∃ p qs, toPy d = some p ∧ toPys ds = some qs ∧ ps = p :: qs := by
  rw [toPys] at e
  cases q1 : toPy d with
  | none => rw [q1] at e; cases e
  | some p =>
    cases q2 : toPys ds with
    | none => rw [q1, q2] at e; cases e
    | some qs =>
      rw [q1, q2] at e
      exact ⟨p, qs, rfl, rfl, (Option.some.inj e).symm⟩
theorem Rep.dp {W : Wd} {H : Hp} (hh : Holds W H) {v : V} {d : D} {p : PyData} (r : Rep mg W v d) (e : toPy d = some p) : Dp mg.K H v p := by
  revert p
  refine Rep.rec (motive_1 := fun v d _ => ∀ {p}, toPy d = some p → Dp mg.K H v p) (motive_2 := fun vs ds _ => ∀ {ps}, toPys ds = some ps → DpAll mg.K H vs ps) ?_ ?_ ?_ ?_ ?_ ?_ ?_ ?_ ?_ ?_ ?_ ?_ ?_ ?_ r
  · intro p e
    cases e
    exact .non
  · intro b p e
    cases e
    exact .bl b
  · intro b p e
    cases e
    exact .int b
  · intro b p e
    cases e
    exact .str b
  · intro a vs ds ha r ih p e
    rw [toPy] at e
    cases hp : toPys ds with
    | none => rw [hp] at e; cases e
    | some ps =>
      rw [hp] at e
      cases e
      exact .tup (SqT.of (hh.same _ _ ha)) (ih hp)
  · intro a vs ds ha r ih p e
    rw [toPy] at e
    cases hp : toPys ds with
    | none => rw [hp] at e; cases e
    | some ps =>
      rw [hp] at e
      cases e
      exact .lst (SqL.of (hh.same _ _ ha)) (ih hp)
  · intro a vs ds ha r ih p e
    cases e
  · intro a o kvs ds ha hk r ih p e
    cases e
  · intro a C dx fs c ds hc ha hk r ih p e
    cases e
  · intro a t p e
    cases e
  · intro C c hc p e
    cases e
  · intro f W0 l p e
    cases e
  · intro ps e
    cases e
    exact .nil
  · intro v vs d ds r rs ih ihs ps e
    obtain ⟨p, qs, h1, h2, rfl⟩ := toPys_cons e
    exact .cons (ih h1) (ihs h2)
theorem Reps.dp {W : Wd} {H : Hp} (hh : Holds W H) : ∀ {ds : List D} {vs : List V} {ps : List PyData}, Reps mg W vs ds → toPys ds = some ps → DpAll mg.K H vs ps := by
  intro ds
  induction ds with
  | nil =>
    intro vs ps r e
    cases e
    cases r
    exact .nil
  | cons d ds ih =>
    intro vs ps r e
    obtain ⟨p, qs, h1, h2, rfl⟩ := toPys_cons e
    cases r with
    | cons r rs => exact .cons (r.dp hh h1) (ih rs h2)
/-- the texts and numbers that stand in a row, as values -/
def flatD : D → Option V
  | .non => some .non
  | .bl b => some (.bl b)
  | .int i => some (.int i)
  | .str x => some (.str x)
  | _ => none
theorem flat_v {W : Wd} {x v : V} {d : D} (r : Rep mg W x d) (h : flatD d = some v) : x = v := by
  cases r <;> first | (cases h; rfl) | cases h
/-- two plain values -/
def eqS : D → D → Option Bool
  | .str a, .str b => some (decide (a = b))
  | .int a, .int b => some (decide (a = b))
  | .bl a, .bl b => some (decide (a = b))
  | .non, .non => some true
  | .non, .str _ => some false
  | .str _, .non => some false
  | .non, .int _ => some false
  | .int _, .non => some false
  | _, _ => none
def rdEq : RD2 := fun x y Q => match eqS x y with
  | some b => Q (.bl b)
  | none => ∃ p q, toPy x = some p ∧ toPy y = some q ∧ SeqAt.shaped p = true ∧ SeqAt.shaped q = true ∧ Q (.bl (PyData.eqv p q))
def rdNe : RD2 := fun x y Q => match eqS x y with
  | some b => Q (.bl (!b))
  | none => ∃ p q, toPy x = some p ∧ toPy y = some q ∧ SeqAt.shaped p = true ∧ SeqAt.shaped q = true ∧ Q (.bl (!PyData.eqv p q))
theorem dec_str (a b : Str) : decide (V.str a = V.str b) = decide (a = b) := by
  rw [Bool.eq_iff_iff, decide_eq_true_iff, decide_eq_true_iff]
  exact ⟨fun q => V.str.inj q, fun q => by rw [q]⟩
theorem dec_int (a b : Int) : decide (V.int a = V.int b) = decide (a = b) := by
  rw [Bool.eq_iff_iff, decide_eq_true_iff, decide_eq_true_iff]
  exact ⟨fun q => V.int.inj q, fun q => by rw [q]⟩
theorem dec_bl (a b : Bool) : decide (V.bl a = V.bl b) = decide (a = b) := by
  rw [Bool.eq_iff_iff, decide_eq_true_iff, decide_eq_true_iff]
  exact ⟨fun q => V.bl.inj q, fun q => by rw [q]⟩
theorem eqS_flat {dx dy : D} {b : Bool} (h : eqS dx dy = some b) : ∃ vx vy, flatD dx = some vx ∧ flatD dy = some vy ∧ scal vx vy = true ∧ decide (vx = vy) = b := by
  cases dx with
  | str a =>
    cases dy with
    | str c => exact ⟨_, _, rfl, rfl, rfl, (dec_str a c).trans (Option.some.inj h)⟩
    | non => exact ⟨_, _, rfl, rfl, rfl, Option.some.inj h⟩
    | _ => cases h
  | int a =>
    cases dy with
    | int c => exact ⟨_, _, rfl, rfl, rfl, (dec_int a c).trans (Option.some.inj h)⟩
    | non => exact ⟨_, _, rfl, rfl, rfl, Option.some.inj h⟩
    | _ => cases h
  | bl a =>
    cases dy with
    | bl c => exact ⟨_, _, rfl, rfl, rfl, (dec_bl a c).trans (Option.some.inj h)⟩
    | _ => cases h
  | non =>
    cases dy with
    | non => exact ⟨_, _, rfl, rfl, rfl, Option.some.inj h⟩
    | str c => exact ⟨_, _, rfl, rfl, rfl, Option.some.inj h⟩
    | int c => exact ⟨_, _, rfl, rfl, rfl, Option.some.inj h⟩
    | _ => cases h
  | _ => cases h
theorem eqS_v {W : Wd} {x y : V} {dx dy : D} {b : Bool} (rx : Rep mg W x dx) (ry : Rep mg W y dy) (h : eqS dx dy = some b) : scal x y = true ∧ decide (x = y) = b := by
  obtain ⟨vx, vy, h1, h2, h3, h4⟩ := eqS_flat h
  rw [flat_v rx h1, flat_v ry h2]
  exact ⟨h3, h4⟩
theorem ok_eq (hu : ∀ j, (Xs j).A.units + 64 < cLine) (hK : ∀ j, (Xs j).K = mg.K := by intro _; rfl) : OpOk Xs mg (compareOp .Eq) rdEq := by
  refine ⟨fun x y H Q => rEq x y H Q ∨ rEqD mg.K x y H Q, fun j => OpR.or op_eq (by rw [← hK j]; exact op_eqD (hu j)), ?_⟩
  intro W H x y dx dy Q Q' hh rx ry h q
  unfold rdEq at h
  split at h
  · rename_i b hb
    obtain ⟨h1, h2⟩ := eqS_v rx ry hb
    exact .inl ⟨h1, by rw [h2]; exact q W H _ _ (Step.refl hh) (.bl _) h⟩
  · obtain ⟨p, p', h1, h2, h3, h4, h5⟩ := h
    exact .inr ⟨p, p', rx.dp hh h1, ry.dp hh h2, h3, h4, q W H _ _ (Step.refl hh) (.bl _) h5⟩
theorem ok_ne (hu : ∀ j, (Xs j).A.units + 64 < cLine) (hK : ∀ j, (Xs j).K = mg.K := by intro _; rfl) : OpOk Xs mg (compareOp .NotEq) rdNe := by
  refine ⟨fun x y H Q => rNe x y H Q ∨ rNeD mg.K x y H Q, fun j => OpR.or op_ne (by rw [← hK j]; exact op_neD (hu j)), ?_⟩
  intro W H x y dx dy Q Q' hh rx ry h q
  unfold rdNe at h
  split at h
  · rename_i b hb
    obtain ⟨h1, h2⟩ := eqS_v rx ry hb
    exact .inl ⟨h1, by rw [h2]; exact q W H _ _ (Step.refl hh) (.bl _) h⟩
  · obtain ⟨p, p', h1, h2, h3, h4, h5⟩ := h
    exact .inr ⟨p, p', rx.dp hh h1, ry.dp hh h2, h3, h4, q W H _ _ (Step.refl hh) (.bl _) h5⟩
/-! ### in -/
def flatsD : List D → Option (List V)
  | [] => some []
  | x :: xs => match flatD x, flatsD xs with
    | some p, some ps => some (p :: ps)
    | _, _ => none
theorem flats_v {W : Wd} : ∀ {xs vs : List V} {ds : List D}, Reps mg W xs ds → flatsD ds = some vs → xs = vs
  | _, _, _, .nil, h => by
    cases h
    rfl
  | _, _, _, .cons r rs, h => by
    unfold flatsD at h
    split at h
    · rename_i p ps h1 h2
      cases h
      rw [flat_v r h1, flats_v rs h2]
    · cases h
/-- x in y: a sign in a text, a text in a row of texts -/
def inD (x y : D) : Option Bool := match y with
  | .str z => match x with
    | .str a => match a.cps.toList with
      | [c] => some (decide (c ∈ z.cps.toList))
      | _ => none
    | _ => none
  | .lst ys => match flatD x, flatsD ys with
    | some v, some vs => if flatV v = true ∧ vs.all flatV = true then some (inV v vs) else none
    | _, _ => none
  | .tup ys => match flatD x, flatsD ys with
    | some v, some vs => if flatV v = true ∧ vs.all flatV = true then some (inV v vs) else none
    | _, _ => none
  | _ => none
def rdIn : RD2 := fun x y Q => match inD x y with
  | some b => Q (.bl b)
  | none => False
def rdNotIn : RD2 := fun x y Q => match inD x y with
  | some b => Q (.bl (!b))
  | none => False
theorem str_one {a : Str} {c : Nat} (h : a.cps.toList = [c]) : a = ⟨#[c]⟩ := by
  cases a with
  | mk cps =>
    have e : cps = #[c] := by
      apply Array.ext'
      simpa using h
    rw [e]
theorem inD_row {dx : D} {ys : List D} {b : Bool} (h : (match flatD dx, flatsD ys with
    | some v, some vs => if flatV v = true ∧ vs.all flatV = true then some (inV v vs) else none
    | _, _ => none) = some b) : ∃ v vs, flatD dx = some v ∧ flatsD ys = some vs ∧ flatV v = true ∧ vs.all flatV = true ∧ inV v vs = b := by
  cases h1 : flatD dx with
  | none => rw [h1] at h; cases h
  | some v =>
    cases h2 : flatsD ys with
    | none => rw [h1, h2] at h; cases h
    | some vs =>
      rw [h1, h2] at h
      dsimp only at h
      by_cases hf : flatV v = true ∧ vs.all flatV = true
      · rw [if_pos hf] at h
        exact ⟨v, vs, rfl, rfl, hf.1, hf.2, Option.some.inj h⟩
      · rw [if_neg hf] at h
        cases h
theorem inD_inv {dx dy : D} {b : Bool} (h : inD dx dy = some b) : (∃ a z c, dx = .str a ∧ dy = .str z ∧ a.cps.toList = [c] ∧ decide (c ∈ z.cps.toList) = b) ∨ ∃ ys v vs, (dy = .lst ys ∨ dy = .tup ys) ∧ flatD dx = some v ∧ flatsD ys = some vs ∧ flatV v = true ∧ vs.all flatV = true ∧ inV v vs = b := by
  cases dy with
  | lst ys =>
    obtain ⟨v, vs, k⟩ := inD_row (dx := dx) (ys := ys) (b := b) h
    exact .inr ⟨ys, v, vs, .inl rfl, k⟩
  | tup ys =>
    obtain ⟨v, vs, k⟩ := inD_row (dx := dx) (ys := ys) (b := b) h
    exact .inr ⟨ys, v, vs, .inr rfl, k⟩
  | str z =>
    cases dx with
    | str a =>
      have h : (match a.cps.toList with
        | [c] => some (decide (c ∈ z.cps.toList))
        | _ => none) = some b := h
      cases hc : a.cps.toList with
      | nil => rw [hc] at h; cases h
      | cons c t =>
        cases t with
        | cons => rw [hc] at h; cases h
        | nil =>
          rw [hc] at h
          exact .inl ⟨a, z, c, rfl, rfl, hc, Option.some.inj h⟩
    | _ => cases h
  | _ => cases h
theorem inD_v {W : Wd} {H : Hp} {x y : V} {dx dy : D} {b : Bool} (hh : Holds W H) (rx : Rep mg W x dx) (ry : Rep mg W y dy) (h : inD dx dy = some b) :
    (∃ (c : Nat) (z : Str), x = .str ⟨#[c]⟩ ∧ y = .str z ∧ decide (c ∈ z.cps.toList) = b) ∨ ∃ p xs, y = .ref p ∧ (SqL mg.K H p xs ∨ SqT mg.K H p xs) ∧ flatV x = true ∧ xs.all flatV = true ∧ inV x xs = b := by
  rcases inD_inv h with ⟨a, z, c, rfl, rfl, hc, hb⟩ | ⟨ys, v, vs, hy, h1, h2, h3, h4, h5⟩
  · exact .inl ⟨c, z, by rw [flat_v rx rfl, str_one hc], flat_v ry rfl, hb⟩
  · have e1 := flat_v rx h1
    subst e1
    rcases hy with rfl | rfl
    · cases ry with
      | lst ha ra =>
        have e2 := flats_v ra h2
        subst e2
        exact .inr ⟨_, _, rfl, .inl (SqL.of (hh.same _ _ ha)), h3, h4, h5⟩
    · cases ry with
      | tup ha ra =>
        have e2 := flats_v ra h2
        subst e2
        exact .inr ⟨_, _, rfl, .inr (SqT.of (hh.same _ _ ha)), h3, h4, h5⟩
theorem ok_in (hK : ∀ j, (Xs j).K = mg.K := by intro _; rfl) : OpOk Xs mg (compareOp .In) rdIn := by
  refine ⟨_, fun j => OpR.or op_in_sign (op_inK (hK j)), ?_⟩
  intro W H x y dx dy Q Q' hh rx ry h q
  unfold rdIn at h
  split at h
  · rename_i b hb
    rcases inD_v hh rx ry hb with ⟨c, z, e1, e2, e3⟩ | ⟨p, xs, e1, e2, e3, e4, e5⟩
    · exact .inl ⟨c, z, e1, e2, by rw [e3]; exact q W H _ _ (Step.refl hh) (.bl _) h⟩
    · exact .inr ⟨p, xs, e1, e2, e3, e4, by
        show Q' (.bl (inV x xs)) H
        rw [e5]
        exact q W H _ _ (Step.refl hh) (.bl _) h⟩
  · exact h.elim
theorem ok_notIn (hK : ∀ j, (Xs j).K = mg.K := by intro _; rfl) : OpOk Xs mg (compareOp .NotIn) rdNotIn := by
  refine ⟨_, fun j => OpR.or op_notIn_sign (op_notInK (hK j)), ?_⟩
  intro W H x y dx dy Q Q' hh rx ry h q
  unfold rdNotIn at h
  split at h
  · rename_i b hb
    rcases inD_v hh rx ry hb with ⟨c, z, e1, e2, e3⟩ | ⟨p, xs, e1, e2, e3, e4, e5⟩
    · exact .inl ⟨c, z, e1, e2, by rw [e3]; exact q W H _ _ (Step.refl hh) (.bl _) h⟩
    · exact .inr ⟨p, xs, e1, e2, e3, e4, by
        show Q' (.bl (!inV x xs)) H
        rw [e5]
        exact q W H _ _ (Step.refl hh) (.bl _) h⟩
  · exact h.elim
end
end FP
/-! FP5: built-in functions by data. -/
namespace FP
open PySem L2
variable [Tabl]
section
variable {ι : Type} {Xs : ι → Cx} {mg : Gm} {Wx : WX} {pos : Pos}
def rdLen : RDL := fun ds Q => match ds with
  | [.str z] => z.length ≤ sizeLine ∧ Q (.int z.length)
  | [.lst xs] => Q (.int xs.length)
  | [.fz xs] => Q (.int xs.length)
  | [.tup xs] => Q (.int xs.length)
  | [.dct kvs] => Q (.int kvs.length)
  | _ => False
theorem call_lenK {X : Cx} {K : PySem.W.Frag} (h : X.K = K) : CallR X (.builtin "len") (fun xs H Q => ∃ x n, xs = [x] ∧ LenV K x H n ∧ Q (.int n) H) := by
  subst h
  exact call_len
theorem call_lenF {X : Cx} : CallR X (.builtin "len") (fun xs H Q => ∃ a kvs, xs = [V.ref a] ∧ Rd H a (.dK kvs) ∧ Q (.int kvs.length) H) := by
  intro pins s σ H xs us Q I r h
  obtain ⟨a, kvs, rfl, ha, q⟩ := h
  rw [Vals.ref1 r]
  exact d_len I ha fun t s' I' => ⟨.int kvs.length, H, I', ⟨t, rfl⟩, q⟩
theorem ok_len (hK : ∀ j, (Xs j).K = mg.K := by intro _; rfl) : CallOk Xs mg (.builtin "len") rdLen := by
  refine CallOk.mk (fun j => CallR.or (call_lenK (hK j)) call_lenF) ?_
  intro W H vs ds Q Q' P hh r h q hP
  cases r with
  | nil => exact False.elim h
  | cons r rs =>
    cases r with
    | str =>
      cases rs with
      | nil =>
        delta rdLen at h
        dsimp only at h
        exact hP _ (.inl ⟨_, _, rfl, ⟨h.1, rfl⟩, q W H _ _ (Step.refl hh) (.int _) h.2⟩)
      | cons => exact False.elim h
    | lst ha ra =>
      cases rs with
      | nil =>
        delta rdLen at h
        dsimp only at h
        exact hP _ (.inl ⟨_, _, rfl, .inl ⟨_, SqL.of (hh.same _ _ ha), rfl⟩, by rw [ra.length]; exact q W H _ _ (Step.refl hh) (.int _) h⟩)
      | cons => exact False.elim h
    | fz ha ra =>
      cases rs with
      | nil =>
        delta rdLen at h
        dsimp only at h
        exact hP _ (.inl ⟨_, _, rfl, .inl ⟨_, hh.same.seq ha, rfl⟩, by rw [ra.length]; exact q W H _ _ (Step.refl hh) (.int _) h⟩)
      | cons => exact False.elim h
    | tup ha ra =>
      cases rs with
      | nil =>
        delta rdLen at h
        dsimp only at h
        exact hP _ (.inl ⟨_, _, rfl, .inr ⟨_, SqT.of (hh.same _ _ ha), rfl⟩, by rw [ra.length]; exact q W H _ _ (Step.refl hh) (.int _) h⟩)
      | cons => exact False.elim h
    | dct ha hk ra =>
      cases rs with
      | nil =>
        delta rdLen at h
        dsimp only at h
        refine hP _ (.inr ⟨_, _, rfl, .inr ⟨_, hh.same _ _ ha⟩, ?_⟩)
        have e := congrArg List.length hk
        simp only [List.length_map] at e
        rw [e]
        exact q W H _ _ (Step.refl hh) (.int _) h
      | cons => exact False.elim h
    | _ => exact False.elim h
def rdInt : RDL := fun ds Q => match ds with
  | [.int i] => Q (.int i)
  | [.bl b] => Q (.int (if b then 1 else 0))
  | [.str a] => ∃ n, PySem.intText? a = some n ∧ a.length ≤ 640 ∧ Q (.int n)
  | _ => False
theorem ok_int : CallOk Xs mg (.type "int") rdInt := by
  refine CallOk.mk (fun j => CallR.or call_int1 call_int_str) ?_
  intro W H vs ds Q Q' P hh r h q hP
  cases r with
  | nil => exact False.elim h
  | cons r rs =>
    cases r with
    | int =>
      cases rs with
      | nil =>
        delta rdInt at h
        dsimp only at h
        exact hP _ (.inl (.inl ⟨_, rfl, q W H _ _ (Step.refl hh) (.int _) h⟩))
      | cons => exact False.elim h
    | bl =>
      cases rs with
      | nil =>
        delta rdInt at h
        dsimp only at h
        exact hP _ (.inl (.inr ⟨_, rfl, q W H _ _ (Step.refl hh) (.int _) h⟩))
      | cons => exact False.elim h
    | str =>
      cases rs with
      | nil =>
        delta rdInt at h
        dsimp only at h
        obtain ⟨n, h1, h2, h3⟩ := h
        exact hP _ (.inr ⟨_, n, rfl, h1, h2, q W H _ _ (Step.refl hh) (.int _) h3⟩)
      | cons => exact False.elim h
    | _ => exact False.elim h
def rdAbs : RDL := fun ds Q => match ds with
  | [.int i] => Q (.int (if i < 0 then -i else i))
  | _ => False
theorem ok_abs : CallOk Xs mg (.builtin "abs") rdAbs := by
  refine CallOk.mk (fun j => call_abs) ?_
  intro W H vs ds Q Q' P hh r h q hP
  cases r with
  | nil => exact False.elim h
  | cons r rs =>
    cases r with
    | int =>
      cases rs with
      | nil =>
        delta rdAbs at h
        dsimp only at h
        exact hP _ (⟨_, rfl, q W H _ _ (Step.refl hh) (.int _) h⟩)
      | cons => exact False.elim h
    | _ => exact False.elim h
def rdMax : RDL := fun ds Q => match ds with
  | [.int i, .int j] => Q (.int (if j > i then j else i))
  | _ => False
def rdMin : RDL := fun ds Q => match ds with
  | [.int i, .int j] => Q (.int (if j < i then j else i))
  | _ => False
theorem ok_max (hc : ∀ j, (Xs j).calm = true := by intro _; rfl) : CallOk Xs mg (.builtin "max") rdMax := by
  refine ⟨_, fun j => call_max2 (hc j), ?_⟩
  intro W H vs ds Q Q' hh r h q
  cases r with
  | nil => exact False.elim h
  | cons r rs =>
    cases r with
    | int =>
      cases rs with
      | nil => exact False.elim h
      | cons r2 rs =>
        cases r2 with
        | int =>
          cases rs with
          | nil =>
            delta rdMax at h
            dsimp only at h
            exact ⟨_, _, rfl, q W H _ _ (Step.refl hh) (.int _) h⟩
          | cons => exact False.elim h
        | _ => exact False.elim h
    | _ => exact False.elim h
theorem ok_min (hc : ∀ j, (Xs j).calm = true := by intro _; rfl) : CallOk Xs mg (.builtin "min") rdMin := by
  refine ⟨_, fun j => call_min2 (hc j), ?_⟩
  intro W H vs ds Q Q' hh r h q
  cases r with
  | nil => exact False.elim h
  | cons r rs =>
    cases r with
    | int =>
      cases rs with
      | nil => exact False.elim h
      | cons r2 rs =>
        cases r2 with
        | int =>
          cases rs with
          | nil =>
            delta rdMin at h
            dsimp only at h
            exact ⟨_, _, rfl, q W H _ _ (Step.refl hh) (.int _) h⟩
          | cons => exact False.elim h
        | _ => exact False.elim h
    | _ => exact False.elim h
def rdStr : RDL := fun ds Q => match ds with
  | [.int i] => i.natAbs.log2 < 1920 ∧ Q (.str (toString i))
  | [.str a] => Q (.str a)
  | _ => False
theorem ok_str : CallOk Xs mg (.type "str") rdStr := by
  refine CallOk.mk (fun j => CallR.or call_str_int SkE.call_str_str) ?_
  intro W H vs ds Q Q' P hh r h q hP
  cases r with
  | nil => exact False.elim h
  | cons r rs =>
    cases r with
    | int =>
      cases rs with
      | nil =>
        delta rdStr at h
        dsimp only at h
        exact hP _ (.inl ⟨_, rfl, h.1, q W H _ _ (Step.refl hh) (.str _) h.2⟩)
      | cons => exact False.elim h
    | str =>
      cases rs with
      | nil =>
        delta rdStr at h
        dsimp only at h
        exact hP _ (.inr ⟨_, rfl, q W H _ _ (Step.refl hh) (.str _) h⟩)
      | cons => exact False.elim h
    | _ => exact False.elim h
/-- truths as data -/
def blsD : List D → Option (List Bool)
  | [] => some []
  | .bl b :: r => match blsD r with
    | some bs => some (b :: bs)
    | none => none
  | _ :: _ => none
theorem bls_v {W : Wd} : ∀ {vs : List V} {ds : List D} {bs : List Bool}, Reps mg W vs ds → blsD ds = some bs → vs = bs.map V.bl
  | _, _, _, .nil, h => by
    cases h
    rfl
  | _, _, _, .cons r rs, h => by
    cases r with
    | bl b =>
      unfold blsD at h
      split at h
      · rename_i bs' hb
        cases h
        rw [bls_v rs hb]
        rfl
      · cases h
    | _ => cases h
theorem blsD_map (bs : List Bool) : blsD (bs.map D.bl) = some bs := by
  induction bs with
  | nil => rfl
  | cons b bs ih =>
    show (match blsD (bs.map D.bl) with | some bs => some (b :: bs) | none => none) = _
    rw [ih]
def rdAll : RDL := fun ds Q => match ds with
  | [.lst xs] => ∃ bs, blsD xs = some bs ∧ Q (.bl (bs.all id))
  | _ => False
def rdAny : RDL := fun ds Q => match ds with
  | [.lst xs] => ∃ bs, blsD xs = some bs ∧ Q (.bl (bs.any id))
  | _ => False
theorem cr_allK {X : Cx} {K : PySem.W.Frag} (h : X.K = K) (hc : X.calm = true) : CallR X (.builtin "all") (rAll K) := by
  subst h
  exact cr_all hc
theorem cr_anyK {X : Cx} {K : PySem.W.Frag} (h : X.K = K) (hc : X.calm = true) : CallR X (.builtin "any") (rAny K) := by
  subst h
  exact cr_any hc
theorem ok_all (hK : ∀ j, (Xs j).K = mg.K := by intro _; rfl) (hc : ∀ j, (Xs j).calm = true := by intro _; rfl) : CallOk Xs mg (.builtin "all") rdAll := by
  refine ⟨_, fun j => cr_allK (hK j) (hc j), ?_⟩
  intro W H vs ds Q Q' hh r h q
  cases r with
  | nil => exact False.elim h
  | cons r rs =>
    cases r with
    | lst ha ra =>
      cases rs with
      | nil =>
        delta rdAll at h
        dsimp only at h
        obtain ⟨bs, h1, h2⟩ := h
        have e := bls_v ra h1
        subst e
        exact ⟨_, bs, rfl, SqL.of (hh.same _ _ ha), q W H _ _ (Step.refl hh) (.bl _) h2⟩
      | cons => exact False.elim h
    | _ => exact False.elim h
theorem ok_any (hK : ∀ j, (Xs j).K = mg.K := by intro _; rfl) (hc : ∀ j, (Xs j).calm = true := by intro _; rfl) : CallOk Xs mg (.builtin "any") rdAny := by
  refine ⟨_, fun j => cr_anyK (hK j) (hc j), ?_⟩
  intro W H vs ds Q Q' hh r h q
  cases r with
  | nil => exact False.elim h
  | cons r rs =>
    cases r with
    | lst ha ra =>
      cases rs with
      | nil =>
        delta rdAny at h
        dsimp only at h
        obtain ⟨bs, h1, h2⟩ := h
        have e := bls_v ra h1
        subst e
        exact ⟨_, bs, rfl, SqL.of (hh.same _ _ ha), q W H _ _ (Step.refl hh) (.bl _) h2⟩
      | cons => exact False.elim h
    | _ => exact False.elim h
/-! ### list(x), tuple(x) -/
def rListS : List V → Hp → VK → Prop := fun xs H Q => ∃ z : Str, xs = [.str z] ∧ z.cps.size ≤ sizeLine ∧ ∀ l, H l = none → Q (.ref l) (upd H l (.lst (z.cps.toList.map fun c => V.str ⟨#[c]⟩)))
theorem call_listS {X : Cx} (hh : X.A.handled = none) : CallR X (.type "list") rListS := by
  intro pins s σ H xs us Q I r h
  obtain ⟨z, rfl, hz, q⟩ := h
  obtain ⟨u, rfl, rx⟩ := vals1 r
  obtain ⟨t, rfl⟩ := (show ∃ t, u = Value.str z t from rx)
  refine call_list_str hh z t (fun h' tk acc' c' kp e it => ?_) hz
  have rv : Vals (z.cps.toList.map fun c => V.str ⟨#[c]⟩) acc'.toList := by
    have key : ∀ (cs : List Nat) (ws : List Value), cs.length = ws.length → (∀ (j : Nat) (v : Value), ws[j]? = some v → ∃ c u, cs[j]? = some c ∧ v = Value.str ⟨#[c]⟩ u) → Vals (cs.map fun c => V.str ⟨#[c]⟩) ws := by
      intro cs
      induction cs with
      | nil =>
        intro ws hl _
        cases ws with
        | nil => exact .nil
        | cons => cases hl
      | cons c cs ih =>
        intro ws hl hw
        cases ws with
        | nil => cases hl
        | cons v ws =>
          obtain ⟨c', u, h1, h2⟩ := hw 0 v rfl
          cases h1
          exact .cons ⟨u, h2⟩ (ih ws (Nat.succ.inj hl) fun j v' hj => hw (j + 1) v' hj)
    refine key _ _ ?_ fun j v hj => ?_
    · rw [Array.length_toList, Array.length_toList]
      exact it.1.symm
    · rw [Array.getElem?_toList] at hj
      obtain ⟨c, u, h1, h2⟩ := it.2 j v hj
      exact ⟨c, u, by rw [Array.getElem?_toList]; exact h1, h2⟩
  refine ⟨.ref s.heap.objs.size, _, I.laid (t' := tk) kp (Nat.le_refl _) (show ObjOk X.prog X.w _ h' _ (.lst (z.cps.toList.map fun c => V.str ⟨#[c]⟩)) from ⟨?_, acc'.toList, c', rv, ?_⟩), rfl, q _ (I.hok.fresh (Nat.le_refl _))⟩
  · rw [List.length_map, Array.length_toList]
    exact hz
  · simpa using e
def rdList : RDL := fun ds Q => match ds with
  | [.lst xs] => Q (.lst xs)
  | [.tup xs] => Q (.lst xs)
  | [.str z] => z.cps.size ≤ sizeLine ∧ Q (.lst (signsD z))
  | [.dct kvs] => Q (.lst (kvs.map fun kv => match kv.1 with | .inl i => .int i | .inr x => .str x))
  | _ => False
theorem call_listK {X : Cx} {K : PySem.W.Frag} (h : X.K = K) : CallR X (.type "list") (fun xs H Q => ∃ p ys, xs = [.ref p] ∧ (SqL K H p ys ∨ SqT K H p ys) ∧ ∀ l, H l = none → Q (.ref l) (upd H l (.lst ys))) := by
  subst h
  exact call_list_of
theorem signs_reps {W : Wd} (z : Str) : Reps mg W (z.cps.toList.map fun c => V.str ⟨#[c]⟩) (signsD z) := by
  unfold signsD
  induction z.cps.toList with
  | nil => exact .nil
  | cons c r ih => exact .cons (.str _) ih
theorem keys_reps {W : Wd} : ∀ es : List (Key × D), Reps mg W ((es.map (·.1)).map kV) (es.map fun kv => match kv.1 with | .inl i => .int i | .inr x => .str x)
  | [] => .nil
  | (.inl i, _) :: r => .cons (.int i) (keys_reps r)
  | (.inr y, _) :: r => .cons (.str y) (keys_reps r)
theorem ok_list (hK : ∀ j, (Xs j).K = mg.K := by intro _; rfl) (ha : ∀ j, (Xs j).A.handled = none) (hc : ∀ j, (Xs j).calm = true := by intro _; rfl) : CallOk Xs mg (.type "list") rdList := by
  refine CallOk.mk (fun j => CallR.or (call_listK (hK j)) (CallR.or (call_listS (ha j)) (call_listD (hc j)))) ?_
  intro W H vs ds Q Q' P hh r h q hP
  cases r with
  | nil => exact False.elim h
  | cons r rs =>
    cases r with
    | lst ha ra =>
      cases rs with
      | nil =>
        delta rdList at h
        dsimp only at h
        exact hP _ (.inl ⟨_, _, rfl, .inl (SqL.of (hh.same _ _ ha)), to_lst q hh ra h⟩)
      | cons => exact False.elim h
    | tup ha ra =>
      cases rs with
      | nil =>
        delta rdList at h
        dsimp only at h
        exact hP _ (.inl ⟨_, _, rfl, .inr (SqT.of (hh.same _ _ ha)), to_lst q hh ra h⟩)
      | cons => exact False.elim h
    | str =>
      cases rs with
      | nil =>
        delta rdList at h
        dsimp only at h
        exact hP _ (.inr (.inl ⟨_, rfl, h.1, to_lst q hh (signs_reps _) h.2⟩))
      | cons => exact False.elim h
    | @dct a ob kvs es ha hk ra =>
      cases rs with
      | nil =>
        delta rdList at h
        dsimp only at h
        refine hP _ (.inr (.inr ⟨_, _, rfl, .inr ⟨_, hh.same _ _ ha⟩, to_lst q hh ?_ h⟩))
        have e : (kvs.map fun kv => kV kv.1) = (kvs.map (·.1)).map kV := by simp
        rw [e, hk]
        exact keys_reps _
      | cons => exact False.elim h
    | _ => exact False.elim h
def rdTuple : RDL := fun ds Q => match ds with
  | [.lst xs] => Q (.tup xs)
  | [.tup xs] => Q (.tup xs)
  | _ => False
theorem call_tupleK {X : Cx} {K : PySem.W.Frag} (h : X.K = K) : CallR X (.type "tuple") (fun xs H Q => ∃ p ys, xs = [.ref p] ∧ ((SqL K H p ys ∧ ∀ l, H l = none → Q (.ref l) (upd H l (.tup ys))) ∨ (SqT K H p ys ∧ Q (.ref p) H))) := by
  subst h
  exact call_tuple_of
theorem ok_tuple (hK : ∀ j, (Xs j).K = mg.K := by intro _; rfl) : CallOk Xs mg (.type "tuple") rdTuple := by
  refine CallOk.mk (fun j => call_tupleK (hK j)) ?_
  intro W H vs ds Q Q' P hh r h q hP
  cases r with
  | nil => exact False.elim h
  | cons r rs =>
    cases r with
    | lst ha ra =>
      cases rs with
      | nil =>
        delta rdTuple at h
        dsimp only at h
        exact hP _ (⟨_, _, rfl, .inl ⟨SqL.of (hh.same _ _ ha), to_tup q hh ra h⟩⟩)
      | cons => exact False.elim h
    | tup ha ra =>
      cases rs with
      | nil =>
        delta rdTuple at h
        dsimp only at h
        exact hP _ (⟨_, _, rfl, .inr ⟨SqT.of (hh.same _ _ ha), q W H _ _ (Step.refl hh) (.tup ha ra) h⟩⟩)
      | cons => exact False.elim h
    | _ => exact False.elim h
/-! ### isinstance with a built-in class -/
def tyName : D → Option String
  | .non => some "NoneType"
  | .bl _ => some "bool"
  | .int _ => some "int"
  | .str _ => some "str"
  | .tup _ => some "tuple"
  | .lst _ => some "list"
  | .dct _ => some "dict"
  | .fz _ => none
  | .ins _ _ => none
  | .tok => some "list"
  | .cl _ => none
  | .fn _ _ => none
abbrev dIsi (T : String) (f : DTE) : DTE := fun ρ Q E => f ρ (fun x => match tyName x with
  | some n => ∃ b, kitB n T = some b ∧ Q (.bl b)
  | none => False) E
theorem tyName_v {W : Wd} {H : Hp} {x : V} {d : D} {n : String} (hh : Holds W H) (r : Rep mg W x d) (h : tyName d = some n) : TyX mg.K H x (.type n) := by
  cases r with
  | non => cases h; exact .base .non
  | bl b => cases h; exact .base (.bl b)
  | int i => cases h; exact .base (.int i)
  | str x => cases h; exact .base (.str x)
  | tup ha _ => cases h; exact .base (.tup (hh.same _ _ ha))
  | lst ha _ => cases h; exact .base (.lst (hh.same _ _ ha))
  | dct ha _ _ => cases h; exact .fDict (hh.same _ _ ha)
  | fz _ _ => cases h
  | ins _ _ _ _ => cases h
  | tok t =>
    cases h
    obtain ⟨_, x, y, z, e⟩ := hh.tok _ t
    exact .base (.lst e)
  | cl _ => cases h
  | fn _ => cases h
theorem call_isiK2 {X : Cx} {K : PySem.W.Frag} (h : X.K = K) : CallR X (.builtin "isinstance") (rIsi K) := by
  subst h
  exact call_isi
theorem de_isi {e : Expr} {f : DTE} {T : Str} {n : String} {p p2 : Pos} (h : DE Xs mg Wx e f) (hm : mg.mg "isinstance" = none) (hmT : mg.mg T = none) (hT : bootBuiltins T = some (.type n)) (hv : bootBuiltins "isinstance" = some (.builtin "isinstance"))
    (hK : ∀ j, (Xs j).K = mg.K := by intro _; rfl) (hM : ∀ j, (Xs j).mg = mg.mg := by intro _; rfl) (hg : ∀ j, Gl (Xs j) "isinstance" := by intro _; rfl) (hgT : ∀ j, Gl (Xs j) T := by intro _; rfl) (hn : T ≠ "__name__" := by decide) (hd : (T == ("__debug__" : Str)) = false := by decide)
    (he : ∀ j, starEach [e, .Name T p2] (Xs j).env = (false, eval e (Xs j).env) :: starEach [.Name T p2] (Xs j).env := by intro _; rfl) (he2 : ∀ j, starEach [.Name T p2] (Xs j).env = [(false, eval (.Name T p2) (Xs j).env)] := by intro _; rfl)
    (hpl : ∀ j, (backTo pos (starEach [.Name T p2] (Xs j).env)).any (·.1) = false := by intro _; rfl) : DE Xs mg Wx (.Call (.Name "isinstance" p) [e, .Name T p2] [] pos) (dIsi n f) := by
  obtain ⟨t, h1, h2⟩ := h
  refine ⟨tCB (rIsi mg.K) (tCons t (tCons (tC (.ty n)) tNil)), fun j => ?_, ?_⟩
  · exact pe_callB (call_isiK2 (hK j)) (hg j) (by rw [hM j]; exact hm) hv (pa_cons (h1 j) (pa_cons (pe_bltn (v := .ty n) (hgT j) (by rw [hM j]; exact hmT) hT rfl hn hd) pa_nil (he2 j)) (he j)) (by decide) (by decide) (he j) (hpl j)
  · intro B ρ Q E hf W σ H Q' hh e x q
    refine h2 B ρ _ E hf W σ H _ hh e x fun W1 H1 v d s1 r1 k1 => ?_
    dsimp only at k1
    split at k1
    · rename_i m hm
      obtain ⟨b, hb, hq⟩ := k1
      exact ⟨v, .ty n, .type m, .type n, b, rfl, .ty n, tyName_v s1.holds r1 hm, kit_ty hb, q W1 H1 _ _ s1 (.bl b) hq⟩
    · exact k1.elim
/-! ### items, slices, join -/
def rdIx : RD2 := fun x y Q => match x, y with
  | .lst xs, .int i => ∃ d, atI xs i = some d ∧ Q d
  | .fz xs, .int i => ∃ d, atI xs i = some d ∧ Q d
  | .tup xs, .int i => ∃ d, atI xs i = some d ∧ Q d
  | .str z, .int i => ∃ c, z.length ≤ sizeLine ∧ atI z.cps.toList i = some c ∧ Q (.str ⟨#[c]⟩)
  | .tok, .int i => (0 ≤ i ∧ i < 3) ∧ ∀ j, Q (.int j)
  | _, _ => False
theorem Reps.atI {W : Wd} {vs : List V} {ds : List D} {i : Int} {d : D} (r : Reps mg W vs ds) (h : atI ds i = some d) : ∃ v, L2.atI vs i = some v ∧ Rep mg W v d := by
  unfold L2.atI at h ⊢
  rw [r.length]
  cases q : ixN ds.length i with
  | none =>
    rw [q] at h
    cases h
  | some j =>
    rw [q] at h
    exact r.get h
theorem ix_seqK {X : Cx} {K : PySem.W.Frag} (h : X.K = K) : IxR X (rIx K) := by
  subst h
  exact ix_seq
theorem de_ix {a b : Expr} {fa fb : DTE} (ha : DE Xs mg Wx a fa) (hb : DE Xs mg Wx b fb) (hs : PlainIx b := by exact fun _ _ => rfl) (hK : ∀ j, (Xs j).K = mg.K := by intro _; rfl) : DE Xs mg Wx (.Subscript a b pos) (dOp rdIx fa fb) := by
  obtain ⟨ta, a1, a2⟩ := ha
  obtain ⟨tb, b1, b2⟩ := hb
  refine ⟨_, fun j => pe_ix (ix_seqK (hK j)) (a1 j) (b1 j) hs, Cp.op ?_ a2 b2⟩
  intro W H x y dx dy Q Q' hh rx ry h q
  cases rx with
  | lst ha ra =>
    cases ry with
    | int =>
      delta rdIx at h
      dsimp only at h
      obtain ⟨d, h1, h2⟩ := h
      obtain ⟨v, g1, g2⟩ := ra.atI h1
      exact .inl ⟨_, _, _, v, rfl, rfl, SqL.of (hh.same _ _ ha), g1, q W H _ _ (Step.refl hh) g2 h2⟩
    | _ => exact False.elim h
  | fz ha ra =>
    cases ry with
    | int =>
      delta rdIx at h
      dsimp only at h
      obtain ⟨d, h1, h2⟩ := h
      obtain ⟨v, g1, g2⟩ := ra.atI h1
      exact .inl ⟨_, _, _, v, rfl, rfl, hh.same.seq ha, g1, q W H _ _ (Step.refl hh) g2 h2⟩
    | _ => exact False.elim h
  | tup ha ra =>
    cases ry with
    | int =>
      delta rdIx at h
      dsimp only at h
      obtain ⟨d, h1, h2⟩ := h
      obtain ⟨v, g1, g2⟩ := ra.atI h1
      exact .inr (.inl ⟨_, _, _, v, rfl, rfl, SqT.of (hh.same _ _ ha), g1, q W H _ _ (Step.refl hh) g2 h2⟩)
    | _ => exact False.elim h
  | str =>
    cases ry with
    | int =>
      delta rdIx at h
      dsimp only at h
      obtain ⟨c, h1, h2, h3⟩ := h
      exact .inr (.inr ⟨_, _, c, rfl, rfl, h1, h2, q W H _ _ (Step.refl hh) (.str _) h3⟩)
    | _ => exact False.elim h
  | tok t =>
    cases ry with
    | int i =>
          delta rdIx at h
          dsimp only at h
          obtain ⟨h1, h2⟩ := h
          obtain ⟨_, x, y, z, e⟩ := hh.tok _ t
          have hj : ∃ j, L2.atI [V.int x, V.int y, V.int z] i = some (.int j) := by
            have hi : i = 0 ∨ i = 1 ∨ i = 2 := by omega
            rcases hi with rfl | rfl | rfl
            · exact ⟨x, rfl⟩
            · exact ⟨y, rfl⟩
            · exact ⟨z, rfl⟩
          obtain ⟨j, hj⟩ := hj
          exact .inl ⟨_, _, _, _, rfl, rfl, SqL.of e, hj, q W H _ _ (Step.refl hh) (.int j) (h2 j)⟩
    | _ => exact False.elim h
  | _ => exact False.elim h
/-- texts as data -/
def strsD : List D → Option (List Str)
  | [] => some []
  | .str b :: r => match strsD r with
    | some bs => some (b :: bs)
    | none => none
  | _ :: _ => none
theorem strs_v {W : Wd} : ∀ {vs : List V} {ds : List D} {bs : List Str}, Reps mg W vs ds → strsD ds = some bs → vs = bs.map V.str
  | _, _, _, .nil, h => by
    cases h
    rfl
  | _, _, _, .cons r rs, h => by
    cases r with
    | str b =>
      unfold strsD at h
      split at h
      · rename_i bs' hb
        cases h
        rw [strs_v rs hb]
        rfl
      · cases h
    | _ => cases h
theorem strsD_map (bs : List Str) : strsD (bs.map D.str) = some bs := by
  induction bs with
  | nil => rfl
  | cons b bs ih =>
    show (match strsD (bs.map D.str) with | some bs => some (b :: bs) | none => none) = _
    rw [ih]
abbrev dJoin (fo fe : DTE) : DTE := fun ρ Q E => fo ρ (fun x => match x with
  | .str a => fe ρ (fun y => match y with
    | .lst xs => ∃ ys, strsD xs = some ys ∧ (ys.map (·.length)).sum + ys.length * a.length ≤ 16777216 ∧ Q (.str (Txt.join a ys))
    | .tup xs => ∃ ys, strsD xs = some ys ∧ (ys.map (·.length)).sum + ys.length * a.length ≤ 16777216 ∧ Q (.str (Txt.join a ys))
    | _ => False) E
  | _ => False) E
end
end FP
/-! FP6: repr, lists of one's own, the end of a law. -/
namespace FP
open PySem L2
variable [Tabl]
section
variable {ι : Type} {Xs : ι → Cx} {mg : Gm} {Wx : WX} {pos : Pos}
/-! ### repr -/
/-! ### lists of one's own -/
def CpO (mg : Gm) (Wx : WX) (t : TE) (g : DTA) : Prop := ∀ B ρ Q E, g ρ Q E → ∀ W σ H Q', Holds W H → EnvR mg B W H σ ρ → ExR mg Wx W H σ E → (∀ W' H' p vs ds, Step W H W' H' → H' p = none → Reps mg W' vs ds → Q ds → Q' (.ref p) (upd H' p (.lst vs))) → t σ H Q'
/-- an expression that gives a new list -/
def DO (Xs : ι → Cx) (mg : Gm) (Wx : WX) (e : Expr) (g : DTA) : Prop := ∃ t, (∀ i, PE (Xs i) e t) ∧ CpO mg Wx t g
abbrev dLen (g : DTA) : DTA := fun ρ Q E => g ρ (fun xs => xs.length ≤ sizeLine ∧ Q xs) E
theorem do_lst {es : List Expr} {g : DTA} (h : DA Xs mg Wx es g) : DO Xs mg Wx (.List es pos) (dLen g) := by
  obtain ⟨t, h1, h2⟩ := h
  refine ⟨_, fun i => pe_lst (h1 i), fun B ρ Q E hf W σ H Q' hh e x q => h2 B ρ _ E hf W σ H _ hh e x fun W1 H1 vs ds s1 r1 k1 => ?_⟩
  exact ⟨by rw [r1.length]; exact k1.1, fun p hp => q W1 H1 p vs ds s1 hp r1 k1.2⟩
abbrev dSetO (i : Nat) (g : DTA) : DTS := fun N ρ => g ρ (fun ds => N.nx (ρ.set i (.own ds))) (fun x => N.rs x ρ)
theorem ds_setO {i : Nat} {x : Str} {e : Expr} {g : DTA} {pos' : Pos} (h : DO Xs mg Wx e g) (hN : ∀ j, (Xs j).N.Nodup) (hi : ∀ j, (Xs j).N[i]? = some x := by intro _; rfl) (hx : ∀ j, Loc (Xs j).env.scope x := by intro _; first | exact Or.inl rfl | exact Or.inr rfl)
    (hs : ∀ j, swapsWith e (some (.Name x pos')) pos.line (Xs j).env = pure false := by intro _; rfl) (hf : ∀ j, (Xs j).fn x = true ∨ (Xs j).env.scope.names.lookup x = some .local := by intro _; first | exact .inl rfl | exact .inr rfl) : DS Xs mg Wx (.Assign [.Name x pos'] e pos) (dSetO i g) := by
  obtain ⟨t, h1, h2⟩ := h
  refine ⟨_, fun j => ps_set (i := i) (hN j) (hi j) (hx j) (h1 j) (hs j) (hf j), fun W0 B N ρ hf W σ H Ds s e n => ?_⟩
  refine h2 B ρ _ _ hf W σ H _ s.holds e (n.ex s e) fun W1 H1 p vs ds s1 hp r1 k1 => ?_
  have s01 := s.trans s1
  have bp : B p = none := by
    cases q : B p with
    | none => rfl
    | some o =>
      obtain ⟨o', e'⟩ := s01.live p o q
      rw [e'] at hp
      cases hp
  exact n.nx W1 _ _ _ (s01.trans (Step.lay s01.holds hp)) ((e.step s1).setOwn s01.holds hp bp r1) k1
/-- the own list is handed on ahead of a statement -/
abbrev dFrz (i : Nat) (f : DTS) : DTS := fun N ρ => match ρ[i]? with
  | some (.own xs) => f N (ρ.set i (.d (.lst xs)))
  | _ => False
theorem CpS.frz {i : Nat} {t : TS} {f : DTS} (h : CpS mg Wx t f) : CpS mg Wx t (dFrz i f) := by
  intro W0 B N ρ hf W σ H Ds s e n
  unfold dFrz at hf
  split at hf
  · rename_i xs hx
    obtain ⟨p, vs, h1, h2, h3, h4, h5, r, e'⟩ := e.freeze s.holds hx
    exact h W0 B N _ hf _ σ H Ds (s.taken h5 h2 h3 h4) e' n
  · exact hf.elim
end
end FP
namespace FP
open PySem PySem.Spec PyProof.Rows L2
variable [Tabl]
/-! ### the end of a law -/
section
variable {P : Program} {w : World} {K : PySem.W.Frag} {mg mb : Str → Option Value} {k : Nat} {fa a : Addr} {sp : Sp} {z₁ : Shared} {vs : List Value} {ns : List Int}
/-- what is asked of the call -/
abbrev Fine (z₁ : Shared) : Result → Shared → Prop := fun r z' => r = .ok (.ret (.bool true)) ∧ OldK z₁.heap z'.heap ∧ z'.os = z₁.os ∧ AllBare z'.gens
theorem end_at (KX : K.In z₁.heap) (gl : z₁.heap.Ns mainGlobals mg) (bl : z₁.heap.Ns builtinsNs mb) (bb : ∀ y : Str, y ≠ "__name__" → mb y = bootBuiltins y) (lim : z₁.heap.NoLimit) (gn : z₁.gens = #[])
    (ha : z₁.heap.get? a = some { cls := .type "list", data := .seq vs.toArray }) (hr : RmG k callerA) (F : ∀ base : Heap, K.In base → base.Ns mainGlobals mg → ∃ fd ps, Binds K fd ps [] ∧ FnG P w K mg base k fa fd ps sp)
    {H : Hp} (only : Only H) (hok : HOk P w H z₁.heap) (atA : ∀ b, H b ≠ none → b = a) (offK : H a ≠ none → K.lookup a = none) (want : sp [.ref a] H (fun v _ => v = .bl true) fun _ _ _ => False) (noX : ∀ e z', L2.CX P w [] H z₁ (fun _ _ _ => False) e z' → False) :
    codeAny (model P w) callerA (.call (.ref fa) ⟨[.ref a], []⟩) (Fine z₁) z₁ := by
  -- dicts are not tracked
  have free : ∀ {c : Addr} {o : Obj} {es : Array DictEntry} {ep : Nat}, z₁.heap.get? c = some o → o.data = .dict es ep → H c = none := by
    intro c o es ep hc hd
    rcases hH : H c with _ | u
    · rfl
    · have ca : c = a := atA c (by rw [hH]; exact Option.some_ne_none u)
      rw [ca, ha] at hc
      cases hc
      cases hd
  have ns' : ∀ {c : Addr} {m : Str → Option Value}, z₁.heap.Ns c m → (hidT z₁.heap H).Ns c m := by
    rintro c m ⟨o, es, ep, h1, h2, h3⟩
    exact ⟨o, es, ep, hidT_get h1 (free h1 h2), h2, h3⟩
  have kin : K.In (hidT z₁.heap H) := by
    intro c o hc
    refine hidT_get (KX c o hc) ?_
    rcases hH : H c with _ | u
    · rfl
    · have ca : c = a := atA c (by rw [hH]; exact Option.some_ne_none u)
      subst ca
      rw [offK (by rw [hH]; exact Option.some_ne_none u)] at hc
      cases hc
  obtain ⟨mc, l1, l2⟩ := lim
  have md : Mod K mg (hidT z₁.heap H) := ⟨kin, ns' gl, ⟨mb, ns' bl, bb⟩, ⟨mc, ns' l1, l2⟩⟩
  have en : Env0 P w K mg (hidT z₁.heap H) callerA [] z₁ H := by
    refine ⟨rfl, md, fun c o q => of_hidT q, Nat.le_of_eq (hidT_size _ _), trivial, ?_, hok, .of_eq gn⟩
    intro c hc
    cases hc
  obtain ⟨fd, ps, bd, fn⟩ := F _ kin (ns' gl)
  have bz := bd z₁ [.ref a] KX (fn.ln _ _ _ _ want)
  rw [List.append_nil] at bz
  have run := fn.go callerA [] z₁ H ⟨[.ref a], []⟩ [.ref a] [.ref a] _ _ hr en bz (.cons rfl .nil) want
  refine codeAny_mono run ?_
  intro res z' hres
  match res, hres with
  | .error e, hq => exact (noX e z' hq).elim
  | .ok .next, hq => exact hq.elim
  | .ok .brk, hq => exact hq.elim
  | .ok .cont, hq => exact hq.elim
  | .ok (.ret u), ⟨v, H', os, bare, un, ok', ru, hv⟩ =>
    have hv' : v = .bl true := hv
    subst hv'
    have hu : u = Value.bool true := ru
    subst hu
    refine ⟨rfl, OldK.of_keep ?_, os, bare⟩
    intro c o hc
    rcases only c with hn | ⟨ob, xs, hf⟩
    · exact un.keep c o hc hn (by intro q; cases q) (by intro q; cases q)
    · have f2 := un.frzs c ob _ hf
      have g1 := (hok c _ hf).1
      have g2 := (ok' c _ f2).1
      rw [hc] at g1
      cases g1
      exact g2
theorem end_law (KX : K.In z₁.heap) (gl : z₁.heap.Ns mainGlobals mg) (bl : z₁.heap.Ns builtinsNs mb) (bb : ∀ y : Str, y ≠ "__name__" → mb y = bootBuiltins y) (lim : z₁.heap.NoLimit) (gn : z₁.gens = #[])
    (ha : z₁.heap.get? a = some { cls := .type "list", data := .seq vs.toArray }) (hi : IntsAre vs ns) (hl : ns.length ≤ sizeLine) (hr : RmG k callerA) (F : ∀ base : Heap, K.In base → base.Ns mainGlobals mg → ∃ fd ps, Binds K fd ps [] ∧ FnG P w K mg base k fa fd ps sp)
    (want : ∀ H : Hp, Only H → SqL K H a (ns.map V.int) → sp [.ref a] H (fun v _ => v = .bl true) fun _ _ _ => False) (noX : ∀ H e z', L2.CX P w [] H z₁ (fun _ _ _ => False) e z' → False) :
    codeAny (model P w) callerA (.call (.ref fa) ⟨[.ref a], []⟩) (Fine z₁) z₁ := by
  have rv := vals_ints hi
  have lv := hi.length
  rcases hk : K.lookup a with _ | o
  · have only : Only (upd (fun _ => none) a (.frz { cls := .type "list", data := .seq vs.toArray } (.lst (ns.map V.int)))) := by
      intro c
      by_cases hc : c = a
      · subst hc
        exact .inr ⟨_, _, upd_same⟩
      · exact .inl (upd_ne hc)
    refine end_at KX gl bl bb lim gn ha hr F only ?_ ?_ (fun _ => hk) (want _ only (.inl (.inr ⟨_, upd_same⟩))) (noX _)
    · intro c u hc
      by_cases hca : c = a
      · subst hca
        rw [upd_same] at hc
        cases hc
        refine ⟨ha, ?_, vs, _, rv, ha⟩
        rw [List.length_map]
        exact hl
      · rw [upd_ne hca] at hc
        cases hc
    · intro c hc
      by_cases hca : c = a
      · exact hca
      · exact absurd (upd_ne hca) hc
  · have ho := KX a o hk
    rw [ha] at ho
    cases ho
    have only : Only (fun _ => none) := fun _ => .inl rfl
    refine end_at KX gl bl bb lim gn ha hr F only (fun c u hc => by cases hc) (fun c hc => absurd rfl hc) (fun hc => absurd rfl hc) (want _ only (.inr ⟨_, vs.toArray, _, hk, rfl, rfl, rfl, ?_, by simpa using rv⟩)) (noX _)
    rw [List.size_toArray, lv]
    exact hl
end
/-- the script as a datum -/
abbrev scriptD (ns : List Int) : D := .fz (ns.map D.int)
theorem walkG {l : PySem.W.OpenLaw} {k : Nat} {q : Program} {loose : List Str} {XP : (Str → Option Value) → Heap → Prop} {YP : World → Heap → Prop} {d : DefRec} {K : Params → PySem.W.Frag} {f : List D → M D}
    (hB : Tabl.B = []) (hn : l.most = some 63) (hdf : d.params.defaults = []) (hr : RmG k callerA) (hY : ∀ (w : World) (h : Heap), YP w h → (K w.params).In h)
    (F : ∀ (w : World) (mg : Str → Option Value) (h : Heap), (K w.params).In h → h.Ns mainGlobals mg → ∀ base : Heap, DefOk l.prog w ⟨mg, K w.params⟩ base k d.name 1 f)
    (hf : ∀ ns : List Int, ns.length ≤ 63 → f [scriptD ns] (fun d => d = .bl true) F0) : PySem.W.WalkO q loose XP YP l.row.toRowW d [] (fun f vs => PySem.call f vs) := by
  refine Att.attach_call hn hdf fun w z₀ z₁ mg mb fa o pm cd doc a vs ns G Y ho hd hcd hmg hobj hints hlen hg => ?_
  have KX := hY w _ Y
  refine end_law (sp := spD ⟨mg, K w.params⟩ 1 f) KX G.T.g G.T.b G.T.builtins G.T.nolimit hg hobj hints (Nat.le_trans hlen (by decide)) hr (fun base _ _ => ?_) (fun H only hS => ?_) fun H e z' c => ?_
  · obtain ⟨fa', fd, ps, h1, h2, h3, h4, h5⟩ := (F w mg _ KX G.T.g base).ex
    have e : fa' = fa := by
      have e' := h1.symm.trans hmg
      cases e'
      rfl
    subst e
    exact ⟨fd, ps, h3, h5⟩
  · refine ⟨⟨H, fun _ => False, fun _ => False⟩, [scriptD ns], _, _, ⟨Same.refl H, fun _ t => t.elim, fun _ t => t.elim, fun _ h => (by rw [hB] at h; cases h), fun b ps e => by rcases only b with z | ⟨_, _, z⟩ <;> rw [z] at e <;> cases e⟩, .cons (.fz hS (Reps.ints ns)) .nil, rfl, hf ns hlen, fun W' H' v d _ r e => ?_, fun _ _ _ _ _ _ _ h => h⟩
    subst e
    cases r
    rfl
  · obtain ⟨_, _, _, _, _, _, _, _, _, _, _, _, z⟩ := c
    exact z.elim
end FP
/-! FP7: the dice; a comprehension that empties a list of one's own. -/
namespace FP
open PySem L2
variable [Tabl]
section
variable {ι : Type} {Xs : ι → Cx} {mg : Gm} {Wx : WX} {pos : Pos}
/-! ### dice -/
theorem Step.dice {W : Wd} {H : Hp} (h : Holds W H) {a : Addr} (t : W.Dc a) {x y z : Int} : Step W H W (upd H a (.lst [.int x, .int y, .int z])) := by
  obtain ⟨ta, x0, y0, z0, ea⟩ := h.tok a t
  obtain ⟨na, _⟩ := h.exm a ta
  refine ⟨Le.refl W, ⟨fun b u e => ?_, fun b tb => ?_, fun b tb => ?_, fun q hq => ?_, fun b ps e => ?_⟩, fun b u e n => ?_, fun _ _ _ => rfl, fun b t => .inl t, fun b u e => ?_⟩
  · rw [upd_ne (ne_of_none e na)]
    exact h.same b u e
  · obtain ⟨h1, u, h2⟩ := h.exm b tb
    by_cases hb : b = a
    · subst hb
      exact ⟨h1, _, upd_same⟩
    · exact ⟨h1, u, by rw [upd_ne hb]; exact h2⟩
  · by_cases hb : b = a
    · subst hb
      exact ⟨ta, x, y, z, upd_same⟩
    · rw [upd_ne hb]
      exact h.tok b tb
  · obtain ⟨h1, ps, h2, h3, h4⟩ := h.tab q hq
    have nq : q.1 ≠ a := fun z => by
      rw [z, ea] at h2
      cases h2
    refine ⟨h1, ps, by rw [upd_ne nq]; exact h2, h3, fun pos cv hc => ?_⟩
    obtain ⟨c, e1, e2⟩ := h4 pos cv hc
    have nc : c ≠ a := fun z => by
      rw [z, ea] at e2
      cases e2
    exact ⟨c, e1, by rw [upd_ne nc]; exact e2⟩
  · by_cases hb : b = a
    · rw [hb, upd_same] at e
      cases e
    · rw [upd_ne hb] at e
      exact h.all b ps e
  · rw [upd_ne fun q => n (by rw [q]; exact ta)]
    exact e
  · by_cases hb : b = a
    · subst hb
      exact ⟨_, upd_same⟩
    · rw [upd_ne hb]
      exact ⟨u, e⟩
/-- x[k] = e, x dice -/
abbrev dTok (i : Nat) (k : Int) (f : DTE) : DTS := fun N ρ => f ρ (fun d => match d, ρ[i]? with
  | .int _, some (.d .tok) => (0 ≤ k ∧ k < 3) ∧ N.nx ρ
  | _, _ => False) (fun x => N.rs x ρ)
theorem ds_tok (i : Nat) {x : Str} {k : Int} {e : Expr} {f : DTE} {p p2 p3 : Pos} {jj : Nat} (h : DE Xs mg Wx e f) (hN : ∀ j, (Xs j).N[i]? = some x := by intro _; rfl) (hv : ∀ j, Vis (Xs j).env.scope x := by intro _; first | exact Or.inl rfl | exact Or.inr (Or.inl rfl) | exact Or.inr (Or.inr rfl))
    (pg : ∀ j t, PE (Xs j) e t → PS (Xs j) (.Assign [.Subscript (.Name x p) (.Constant (.int k) jj p2) p3] e pos) (tAsg t (gSub (tVar i) (tC (.int k)) rSetL))) : DS Xs mg Wx (.Assign [.Subscript (.Name x p) (.Constant (.int k) jj p2) p3] e pos) (dTok i k f) := by
  obtain ⟨t, h1, h2⟩ := h
  refine ⟨_, fun j => pg j t (h1 j), fun W0 B N ρ hf W σ H Ds s e n => ?_⟩
  refine h2 B ρ _ _ hf W σ H _ s.holds e (n.ex s e) fun W1 H1 v d s1 r1 k1 => ?_
  dsimp only at k1
  split at k1
  · rename_i c hr
    obtain ⟨hk, k2⟩ := k1
    have e1 := e.step s1
    obtain ⟨v', g1, g2⟩ := e1.get hr
    cases r1
    cases g2 with
    | @tok a ta =>
      obtain ⟨_, x0, y0, z0, ha⟩ := s1.holds.tok a ta
      have hj : ∃ j u1 u2 u3, ixN 3 k = some j ∧ ([V.int x0, V.int y0, V.int z0].set j (V.int c)) = [V.int u1, V.int u2, V.int u3] := by
        have hi : k = 0 ∨ k = 1 ∨ k = 2 := by omega
        rcases hi with rfl | rfl | rfl
        · exact ⟨0, c, y0, z0, rfl, rfl⟩
        · exact ⟨1, x0, c, z0, rfl, rfl⟩
        · exact ⟨2, x0, y0, c, rfl, rfl⟩
      obtain ⟨j, u1, u2, u3, hj, hs⟩ := hj
      have st := Step.dice s1.holds ta (x := u1) (y := u2) (z := u3)
      refine ⟨_, g1, a, _, k, j, rfl, rfl, ha, hj, ?_⟩
      rw [hs]
      exact n.nx W1 _ σ ρ ((s.trans s1).trans st) (e1.step st) k2
  · exact k1.elim
/-- return [a, b, c]: new dice -/
abbrev dRetTok (g : DTA) : DTS := fun N ρ => g ρ (fun ds => match ds with
  | [.int _, .int _, .int _] => N.rt .tok ρ
  | _ => False) (fun x => N.rs x ρ)
theorem ds_retTok {es : List Expr} {g : DTA} {p : Pos} (h : DA Xs mg Wx es g) : DS Xs mg Wx (.Return (some (.List es p)) pos) (dRetTok g) := by
  obtain ⟨t, h1, h2⟩ := h
  refine ⟨_, fun j => ps_ret (pe_lst (h1 j)), fun W0 B N ρ hf W σ H Ds s e n => ?_⟩
  refine h2 B ρ _ _ hf W σ H _ s.holds e (n.ex s e) fun W1 H1 vs ds s1 r1 k1 => ?_
  split at k1
  · rename_i x y z
    cases r1 with
    | cons r rs =>
      cases r
      cases rs with
      | cons r rs =>
        cases r
        cases rs with
        | cons r rs =>
          cases r
          cases rs
          refine ⟨by show 3 ≤ sizeLine; decide, fun p hp => ?_⟩
          have hh := s1.holds
          have nw := hh.same.free hp
          have h0 := hh.lay (o := .lst [.int x, .int y, .int z]) hp (by intro _ h; cases h)
          have st : Step W1 H1 { W1 with T := fun b => W1.T b ∨ b = p, Dc := fun b => W1.Dc b ∨ b = p } (upd H1 p (.lst [.int x, .int y, .int z])) := by
            refine ⟨⟨Same.refl _, fun _ t => .inl t, fun _ t => .inl t⟩, ⟨h0.same, fun b tb => ?_, fun b tb => ?_, fun q hq => ⟨.inl (h0.tab q hq).1, (h0.tab q hq).2⟩, h0.all⟩, fun b u q _ => ?_, fun _ _ _ => rfl, fun b tb => ?_, fun b u q => ?_⟩
            · rcases tb with tb | rfl
              · exact h0.exm b tb
              · exact ⟨nw, _, upd_same⟩
            · rcases tb with tb | rfl
              · exact ⟨.inl (h0.tok b tb).1, (h0.tok b tb).2⟩
              · exact ⟨.inr rfl, x, y, z, upd_same⟩
            · rw [upd_ne (ne_of_none q hp)]
              exact q
            · rcases tb with tb | rfl
              · exact .inl tb
              · exact .inr hp
            · exact ⟨u, by rw [upd_ne (ne_of_none q hp)]; exact q⟩
          exact n.rt _ _ σ ρ _ _ ((s.trans s1).trans st) (e.step (s1.trans st)) (.tok (.inr rfl)) k1
  · exact k1.elim
/-! ### list(x) as a list of one's own; its length -/
abbrev dListO (g : DTA) : DTA := fun ρ Q E => g ρ (fun ds => match ds with
  | [.lst xs] => Q xs
  | [.tup xs] => Q xs
  | _ => False) E
theorem do_list {e : Expr} {g : DTA} {p : Pos} (h : DA Xs mg Wx [e] g) (hm : mg.mg "list" = none) (hv : bootBuiltins "list" = some (.type "list")) (hK : ∀ j, (Xs j).K = mg.K := by intro _; rfl) (hM : ∀ j, (Xs j).mg = mg.mg := by intro _; rfl) (hg : ∀ j, Gl (Xs j) "list" := by intro _; rfl)
    (he : ∀ j, starEach [e] (Xs j).env = [(false, eval e (Xs j).env)] := by intro _; rfl) : DO Xs mg Wx (.Call (.Name "list" p) [e] [] pos) (dListO g) := by
  obtain ⟨t, h1, h2⟩ := h
  refine ⟨_, fun j => pe_callTy (call_listK (hK j)) (hg j) (by rw [hM j]; exact hm) hv (h1 j) (by decide) (by decide) (he j) rfl, fun B ρ Q E hf W σ H Q' hh e x q => ?_⟩
  refine h2 B ρ _ E hf W σ H _ hh e x fun W1 H1 vs ds s1 r1 k1 => ?_
  split at k1
  · cases r1 with
    | cons r rs =>
      cases rs
      cases r with
      | lst ha ra => exact ⟨_, _, rfl, .inl (SqL.of (s1.holds.same _ _ ha)), fun l hl => q W1 H1 l _ _ s1 hl ra k1⟩
  · cases r1 with
    | cons r rs =>
      cases rs
      cases r with
      | tup ha ra => exact ⟨_, _, rfl, .inr (SqT.of (s1.holds.same _ _ ha)), fun l hl => q W1 H1 l _ _ s1 hl ra k1⟩
  · exact k1.elim
abbrev dLenO (i : Nat) : DTE := fun ρ Q _ => match ρ[i]? with
  | some (.own xs) => Q (.int xs.length)
  | _ => False
theorem de_lenO (i : Nat) {x : Str} {p p2 : Pos} (hm : mg.mg "len" = none) (hN : ∀ j, (Xs j).N[i]? = some x := by intro _; rfl) (hv : ∀ j, Vis (Xs j).env.scope x := by intro _; first | exact Or.inl rfl | exact Or.inr (Or.inl rfl) | exact Or.inr (Or.inr rfl))
    (hd : (x == ("__debug__" : Str)) = false := by decide) (hcd : (x == ("__classdict__" : Str)) = false := by decide) (hK : ∀ j, (Xs j).K = mg.K := by intro _; rfl) (hM : ∀ j, (Xs j).mg = mg.mg := by intro _; rfl) (hg : ∀ j, Gl (Xs j) "len" := by intro _; rfl)
    (he : ∀ j, starEach [.Name x p2] (Xs j).env = [(false, eval (.Name x p2) (Xs j).env)] := by intro _; rfl) : DE Xs mg Wx (.Call (.Name "len" p) [.Name x p2] [] pos) (dLenO i) := by
  refine ⟨_, fun j => pe_callB (call_lenK (hK j)) (hg j) (by rw [hM j]; exact hm) PySem.boot_len (pa_cons (pe_var (i := i) (hN j) (hv j) hd hcd) pa_nil (he j)) (by decide) (by decide) (he j) rfl, fun B ρ Q E hf W σ H Q' hh e x q => ?_⟩
  unfold dLenO at hf
  split at hf
  · rename_i xs hx
    obtain ⟨o, g1, a, vs, g2, g3, g4, g5, g6, r⟩ := e.sl i _ hx
    subst g2
    refine ⟨_, g1, _, _, rfl, .inl ⟨_, SqL.of g3, rfl⟩, ?_⟩
    rw [r.length]
    exact q W H _ _ (Step.refl hh) (.int _) hf
  · exact hf.elim
/-! ### return [own.pop(index) for .. in ..] -/
theorem EnvR.off {B : Hp} {W : Wd} {H : Hp} {σ : St} {ρ : Env} (e : EnvR mg B W H σ ρ) {A : Addr} {o : HO} (h : ∀ (j : Nat) (t : Sl) (o : Option V), ρ[j]? = some t → σ[j]? = some o → A ∉ t.fp o) : EnvR mg B W (upd H A o) σ ρ := by
  refine ⟨e.len, fun j sl hj => ?_, e.dis⟩
  obtain ⟨o', h1, h2⟩ := e.sl j sl hj
  refine ⟨o', h1, h2.keep (Le.refl W) fun a ha u h5 h6 h7 => ⟨?_, h6, h7⟩⟩
  have ne : a ≠ A := fun q => h j sl o' hj h1 (by rw [← q]; exact ha)
  rw [upd_ne ne]
  exact h5
def popD (T : Tg) (i : Nat) (f : DTE) (ρ : Env) (vs : List Nat) : List D → List D → (List D → Prop) → Prop
  | [], _, Q => Q []
  | d :: ds, xs, Q => ∃ ρ2, T.put d (wipeD (ρ.set i (.own xs)) vs) = some ρ2 ∧ ρ2[i]? = some (.own xs) ∧ f ρ2 (fun z => match z with
    | .int k => ∃ y, (0 ≤ k ∧ k < xs.length ∧ k < 2 ^ 62) ∧ xs[k.toNat]? = some y ∧ popD T i f ρ vs ds (xs.eraseIdx k.toNat) fun rs => Q (y :: rs)
    | _ => False) F0
abbrev dRetPop (w : DTI) (T : Tg) (i : Nat) (f : DTE) (vs : List Nat) : DTS := fun N ρ => match ρ[i]? with
  | some (.own xs) => w ρ (fun ds => ds.length ≤ sizeLine ∧ popD T i f ρ vs ds xs fun rs => N.rt (.lst rs) (noEnv ρ)) (fun x => N.rs x ρ)
  | _ => False
def PopI (mg : Gm) (A : Addr) (W0 : Wd) (B : Hp) (W1 : Wd) (σ : St) (i : Nat) (ρ : Env) (n : Nat) (K : List D → List D → Prop) : Hp → Prop := fun H' => ∃ W' us acc xs, Step W0 B W' H' ∧ Le W1 W' ∧ AccL mg A W' H' us acc n ∧ EnvR mg B W' H' σ (ρ.set i (.own xs)) ∧ K xs acc
theorem seqIx_in {k : Int} {n : Nat} (h0 : 0 ≤ k) (h1 : k < n) : seqIndex? k n = some k.toNat := by
  unfold seqIndex?
  have hn : ¬ k < 0 := by omega
  have hand : (decide (0 ≤ k) && decide (k < (n : Int))) = true := by
    rw [Bool.and_eq_true]
    exact ⟨decide_eq_true h0, decide_eq_true h1⟩
  rw [if_neg hn, if_pos hand]
theorem set_id {α : Type} {l : List α} {i : Nat} {x : α} (h : l[i]? = some x) : l.set i x = l := by
  apply List.ext_getElem?
  intro j
  by_cases hj : i = j
  · subst hj
    rw [set_get h, h]
  · rw [List.getElem?_set_ne hj]
theorem ds_retPop {i : Nat} {tg iter idx : Expr} {x : Str} {p apos cpos lpos : Pos} {scope : Scope} {own : List (Str × Nat)} {w : DTI} {T : Tg} {f : DTE} (hN : ∀ j, (Xs j).N.Nodup) (hi : DI Xs mg Wx tg iter w) (ok : ∀ j, BlkOk (Xs j).N (Xs j).env.scope scope own) (hg : DG (blkF Xs scope) mg tg T) (he : DE (blkF Xs scope) mg Wx0 idx f)
    (pe : ∀ j t, PE (blkF Xs scope j) idx t → PE (blkF Xs scope j) (.Call (.Attribute (.Name x p) "pop" apos) [idx] [] cpos) (tBM (blkF Xs scope j).K "list" rPopAt (tVar i) (tCons t tNil))) (hio : i ∉ own.map (·.2) := by decide) (hK : ∀ j, (Xs j).K = mg.K := by intro _; rfl)
    (hv : ∀ k ∈ T.slots, k ∈ own.map (·.2) := by decide) (hc : ∀ j, (Xs j).calm = true := by intro _; rfl) (hs : ∀ j x, foldedSetIterable iter (Xs j).env x = pure x := by intro _ _; rfl) :
    DS Xs mg Wx (.Return (some (.ListComp (.Call (.Attribute (.Name x p) "pop" apos) [idx] [] cpos) [⟨tg, iter, [], 0⟩] scope lpos)) pos) (dRetPop w T i f (own.map (·.2))) := by
  obtain ⟨wi, i1, i2⟩ := hi
  obtain ⟨g, g1, g2⟩ := hg
  obtain ⟨te, e1, e2⟩ := he
  have pe' : ∀ j, PE (blkF Xs scope j) (.Call (.Attribute (.Name x p) "pop" apos) [idx] [] cpos) (tBM mg.K "list" rPopAt (tVar i) (tCons te tNil)) := fun j => by
    have z := pe j te (e1 j)
    have hk : (blkF Xs scope j).K = mg.K := hK j.1
    rw [hk] at z
    exact z
  refine ⟨_, fun j => ps_ret (pe_lc (tt := tYes) (hc j) (hN j) (i1 j) (ok j) (fun s H C cl fp => g1 (j, s, H, C, cl, fp)) (fun _ _ _ _ _ => pts_nil) (fun s H C cl fp => pe' (j, s, H, C, cl, fp)) (hs j)), fun W0 B N ρ hf W σ H Ds s e n => ?_⟩
  unfold dRetPop at hf
  split at hf
  · rename_i xs0 hx0
    refine i2 B ρ _ _ hf W σ H _ s.holds e (n.ex s e) fun W1 H1 J ds s1 wk k1 => ?_
    obtain ⟨hsz, k1⟩ := k1
    intro A hA
    have s01 := s.trans s1
    have bA : B A = none := by
      cases q : B A with
      | none => rfl
      | some o =>
        obtain ⟨o', e'⟩ := s01.live A o q
        rw [e'] at hA
        cases hA
    have e1 := e.step s1
    have offA : ∀ (j : Nat) (t : Sl) (o : Option V), ρ[j]? = some t → σ[j]? = some o → A ∉ t.fp o := fun j t o hj q mt => by
      obtain ⟨o', h1, h2⟩ := e1.sl j _ hj
      rw [q] at h1
      cases h1
      obtain ⟨u, h4, _⟩ := h2.at mt
      rw [h4] at hA
      cases hA
    have offB : ∀ (xs : List D) (j : Nat) (t : Sl) (o : Option V), (ρ.set i (.own xs))[j]? = some t → σ[j]? = some o → A ∉ t.fp o := fun xs j t o hj ho => by
      rcases get_set hj with ⟨rfl, z⟩ | ⟨_, q⟩
      · rw [← z]
        exact offA i (.own xs0) o hx0 ho
      · exact offA j t o q ho
    have own0 : ρ.set i (.own xs0) = ρ := set_id hx0
    refine ⟨fun m k H' => k = ds.length - m ∧ m ≤ ds.length ∧ PopI mg A W0 B W1 σ i ρ m (fun xs acc => popD T i f ρ (own.map (·.2)) (ds.drop m) xs (fun rs => N.rt (.lst (acc ++ rs)) (noEnv ρ))) H',
      ⟨ds.length, rfl, Nat.zero_le _, W1, [], [], xs0, s01.trans (Step.lay s01.holds hA), Le.refl _, .new s01.holds hA, by rw [own0]; exact e1.off offA, k1⟩, ?_⟩
    rintro m k H' ⟨rfl, hm, W', us, acc, xs, s', l', I, e', k'⟩
    obtain ⟨go, stop, yld⟩ := wk W' H' l' s'.holds
    by_cases hlt : m < ds.length
    · refine .inr ⟨go m hlt, PopI mg A W0 B W1 σ i ρ (m + 1) (fun xs acc => popD T i f ρ (own.map (·.2)) (ds.drop (m + 1)) xs (fun rs => N.rt (.lst (acc ++ rs)) (noEnv ρ))), fun H2 q => ⟨ds.length - (m + 1), by omega, rfl, hlt, q⟩, fun y H2 hy => ?_⟩
      obtain ⟨W2, d, s2, hd, r⟩ := yld m y H2 hlt hy
      rw [drop_at hd] at k'
      obtain ⟨ρ1, p1, p2, k2⟩ := k'
      have eW := e'.step s2
      refine g2 B W2 H2 y d _ _ ρ1 _ s2.holds r (eW.wipe _) p1 fun σ3 e3 w3 => ?_
      have hw3 := (w3 _ hv).trans (wipe_wipe σ _)
      refine ⟨hw3, ?_⟩
      dsimp only [tYes]
      rw [if_pos rfl]
      have I2 := I.step s2
      obtain ⟨o, q1, a, ws, q2, q3, q4, q5, q6, rw0⟩ := e3.sl i _ p2
      subst q2
      have sg : σ[i]? = some (some (V.ref a)) := by
        have h1 := wipe_out (σ := σ3) hio
        rw [hw3, wipe_out hio, q1] at h1
        exact h1
      refine ⟨.ref a, q1, .inl ⟨rfl, _, SqL.of q3⟩, ?_⟩
      refine e2 B ρ1 _ _ k2 W2 σ3 H2 _ s2.holds e3 ExR.f0 fun W3 H3 z dz s3 r3 k3 => ?_
      obtain ⟨kk, rfl, k3⟩ := intOf k3
      obtain rfl := r3.intI
      obtain ⟨yy, hk, hy2, k4⟩ := k3
      obtain ⟨o', q1', a', ws', q2', q3', q4', q5', q6', rw1⟩ := (e3.step s3).sl i _ p2
      rw [q1] at q1'
      cases q1'
      cases q2'
      have I3 := I2.step s3
      obtain ⟨vy, hvy, ry⟩ := rw1.get hy2
      refine ⟨a, ws', kk, kk.toNat, vy, rfl, rfl, q3', by omega, by omega, seqIx_in hk.1 (by rw [rw1.length]; exact hk.2.1), hvy, ?_⟩
      have na : A ≠ a := fun q => offA i _ _ hx0 sg (by rw [q]; exact List.mem_singleton.mpr rfl)
      have I4 : AccL mg A W3 (upd H3 a (.lst (ws'.eraseIdx kk.toNat))) us acc m := ⟨by rw [upd_ne na]; exact I3.h, I3.w, I3.t, I3.r, I3.l⟩
      have st4 : Step W0 B W3 (upd H3 a (.lst (ws'.eraseIdx kk.toNat))) := ((s'.trans s2).trans s3).own q6' q3' q4' q5'
      have e6 := (eW.step s3).own (us := ws') (xs := xs) (set_get hx0) sg (rw1.eraseIdx kk.toNat)
      rw [List.set_set] at e6
      refine ⟨us, I4.h, Nat.lt_of_le_of_lt I.len (Nat.lt_of_lt_of_le hlt hsz), W3, us ++ [vy], acc ++ [yy], xs.eraseIdx kk.toNat, I4.own st4 bA, (l'.trans s2.le).trans s3.le, I4.snoc ry (Nat.le_refl _), e6.off (offB _), ?_⟩
      show popD T i f ρ _ _ _ (fun rs => N.rt (.lst (acc ++ [yy] ++ rs)) (noEnv ρ))
      rw [app_one (fun l => N.rt (.lst l) (noEnv ρ))]
      exact k4
    · have em : m = ds.length := by omega
      subst em
      rw [List.drop_length] at k'
      have k2 : N.rt (.lst (acc ++ [])) (noEnv ρ) := k'
      rw [List.append_nil] at k2
      exact .inl ⟨stop, n.rt (W'.put A (.lst us)) H' σ (noEnv ρ) _ _ (s'.taken bA I.h I.w I.t) (EnvR.noEnv e.len) (Rep.newLst I.r I.w) k2⟩
  · exact hf.elim
end
end FP
/-! FP8: a def of the text; empty dicts; what the dice helpers promise. -/
namespace FP
open PySem L2
variable [Tabl]
theorem boot_len : bootBuiltins "len" = some (.builtin "len") := by decide +kernel
theorem boot_abs : bootBuiltins "abs" = some (.builtin "abs") := by decide +kernel
theorem boot_max : bootBuiltins "max" = some (.builtin "max") := by decide +kernel
theorem boot_min : bootBuiltins "min" = some (.builtin "min") := by decide +kernel
theorem boot_all : bootBuiltins "all" = some (.builtin "all") := by decide +kernel
theorem boot_any : bootBuiltins "any" = some (.builtin "any") := by decide +kernel
theorem boot_sorted : bootBuiltins "sorted" = some (.builtin "sorted") := by decide +kernel
theorem boot_isinstance : bootBuiltins "isinstance" = some (.builtin "isinstance") := by decide +kernel
theorem boot_int : bootBuiltins "int" = some (.type "int") := by decide +kernel
theorem boot_str : bootBuiltins "str" = some (.type "str") := by decide +kernel
theorem boot_bool : bootBuiltins "bool" = some (.type "bool") := by decide +kernel
theorem boot_list : bootBuiltins "list" = some (.type "list") := by decide +kernel
theorem boot_tuple : bootBuiltins "tuple" = some (.type "tuple") := by decide +kernel
theorem boot_set : bootBuiltins "set" = some (.type "set") := by decide +kernel
section
variable {ι : Type} {Xs : ι → Cx} {mg : Gm} {Wx : WX} {pos : Pos}
theorem mkDef {P : Program} {w : World} {base : Heap} {x : Str} {st : Stmt} {N ps : List Str} {k : Nat} {f : List D → M D} (d : ∃ fa fd, mg.mg x = some (.ref fa) ∧ Fun mg.K x x st fa fd) (S : FnScope N ps (defScope st))
    (hb : ∀ (kV doc pm : Value) (an : Option Addr) (cdv ct : Value) (us : List Value), us.length = ps.length → bindArgs (PySem.W.fnOf x x (defArgs st) (defBody st) (defScope st) .none kV doc pm an cdv ct) ⟨us, []⟩ = pure (ps.zip us))
    (h : ∀ (fa : Addr) (cdv : Value) (A : Around) (outer : List PySem.Env) (s : Shared) (H : Hp) (E : XK), RmG k (A.deeper (PyProof.Rows.envOfC x (defScope st) s.heap.objs.size fa cdv)) →
      ∃ g, DSs (fun _ : Unit => cxOf (L2.CX P w) P w mg.K mg.mg base N x (defScope st) fa cdv A outer s H E) mg (fun cls d _ H' => E cls d H') (defBody st) g ∧
        ∀ ds Q Ex, ds.length = ps.length → f ds Q Ex → g ⟨fun _ => Q .non, fun d _ => Q d, fun _ => False, fun _ => False, fun x _ => Ex x⟩ (startD N.length ds)) :
    DefOk P w mg base (k + 1) x ps.length f := by
  obtain ⟨fa, fd, hm, F⟩ := d
  exact ⟨fa, fd, ps, hm, F.kp, F.binds hb, rfl, def_ok F S (h fa)⟩
abbrev dNewD : DTE := fun _ Q _ => Q (.dct [])
theorem de_dnew : DE Xs mg Wx (.Dict [] [] pos) dNewD := by
  refine ⟨_, fun _ => pe_lk pe_dnewK, fun B ρ Q E hf W σ H Q' hh e x q p hp => ?_⟩
  refine ⟨p, _, rfl, upd_same, True.intro, fun od => ?_⟩
  rw [upd_upd]
  exact q _ _ _ _ (Step.alloc hh hp) (.dct (kvs := []) (show upd W.H p _ p = _ from upd_same) rfl .nil) hf
end
/-! ### the dice helpers -/
def f_dice : List D → M D := fun ds Q _ => match ds with
  | [.fz xs, .int k] => (∃ ns : List Int, xs = ns.map D.int) ∧ (0 ≤ k ∧ k < 1000) ∧ Q .tok
  | _ => False
def f_roll : List D → M D := fun ds Q _ => match ds with
  | [.tok, .int n] => (0 < n ∧ n < 1073741824) ∧ ∀ r, 0 ≤ r → r < n → Q (.int r)
  | _ => False
def f_pick : List D → M D := fun ds Q _ => match ds with
  | [.tok, .lst xs] => (0 < xs.length ∧ xs.length < 1073741824) ∧ ∀ d, d ∈ xs → Q d
  | [.tok, .tup xs] => (0 < xs.length ∧ xs.length < 1073741824) ∧ ∀ d, d ∈ xs → Q d
  | _ => False
def f_some : List D → M D := fun ds Q _ => match ds with
  | [.tok, .lst xs, .int k] => (xs.length < 1000000) ∧ (0 ≤ k ∧ k < 1000000) ∧ ∀ ys zs, (ys ++ zs).Perm xs → ys.length = min k.toNat xs.length → Q (.lst ys)
  | [.tok, .tup xs, .int k] => (xs.length < 1000000) ∧ (0 ≤ k ∧ k < 1000000) ∧ ∀ ys zs, (ys ++ zs).Perm xs → ys.length = min k.toNat xs.length → Q (.lst ys)
  | _ => False
theorem at_of {α : Type} {xs : List α} {z : Int} {j : Nat} {v : α} (e : z = (j : Int)) (h : xs[j]? = some v) : atI xs z = some v := by
  rw [e]
  exact atI_nat h
theorem atI_mem {xs : List D} {r : Int} (h0 : 0 ≤ r) (h1 : r < xs.length) : ∃ d, atI xs r = some d ∧ d ∈ xs := by
  have hr : r.toNat < xs.length := by omega
  refine ⟨xs[r.toNat], ?_, List.getElem_mem hr⟩
  exact at_of (j := r.toNat) (by omega) (by simp [hr])
theorem atI_ints {ns : List Int} {r : Int} (h0 : 0 ≤ r) (h1 : r < (ns.map D.int).length) : ∃ i, atI (ns.map D.int) r = some (.int i) := by
  obtain ⟨d, h, hm⟩ := atI_mem h0 h1
  obtain ⟨i, _, e⟩ := List.mem_map.mp hm
  exact ⟨i, by rw [h, e]⟩
theorem erase_perm {α : Type} : ∀ {xs : List α} {i : Nat} {y : α}, xs[i]? = some y → (y :: xs.eraseIdx i).Perm xs
  | [], _, _, h => by simp at h
  | x :: xs, 0, y, h => by
    simp at h
    subst h
    exact List.Perm.refl _
  | x :: xs, i + 1, y, h => by
    have ih := erase_perm (xs := xs) (i := i) (y := y) (by simpa using h)
    exact (List.Perm.swap x y _).trans (ih.cons x)
theorem pop_some {a b c e : Sl} : ∀ (ds xs : List D) (Q : List D → Prop), ds.length ≤ xs.length → xs.length < 1000000 → (∀ ys zs, (ys ++ zs).Perm xs → ys.length = ds.length → Q ys) →
    popD (Tg.one 4) 3 (dCall f_roll 2 (dCons (dVar 0) (dCons (dLenO 3) dNil))) [Sl.d .tok, a, b, c, e] [4] ds xs Q
  | [], xs, Q, _, _, h => h [] xs (List.Perm.refl _) rfl
  | d :: ds, xs, Q, hl, hz, h => by
    have hl' : ds.length + 1 ≤ xs.length := hl
    refine ⟨[Sl.d .tok, a, b, .own xs, .d d], rfl, rfl, rfl, ⟨by omega, by omega⟩, fun r h0 h1 => ?_⟩
    have hr : r.toNat < xs.length := by omega
    have hg : xs[r.toNat]? = some xs[r.toNat] := by simp [hr]
    have el : (xs.eraseIdx r.toNat).length = xs.length - 1 := by simp [List.length_eraseIdx, hr]
    refine ⟨xs[r.toNat], ⟨h0, h1, by omega⟩, hg, pop_some ds _ _ (by omega) (by omega) fun ys zs hp hn => ?_⟩
    refine h (xs[r.toNat] :: ys) zs ?_ (by rw [List.length_cons, hn]; rfl)
    exact (hp.cons _).trans (erase_perm hg)
/-! ### comprehensions in pure words -/
theorem lcD_fm {body : D → (Option D → Prop) → Prop} (F : D → Option D) : ∀ (ds : List D) (Q : List D → Prop), (∀ d ∈ ds, ∀ k : Option D → Prop, k (F d) → body d k) → Q (ds.filterMap F) → lcD body ds Q
  | [], Q, _, h => h
  | d :: ds, Q, hb, h => by
    refine hb d List.mem_cons_self _ ?_
    refine lcD_fm F ds _ (fun e he => hb e (List.mem_cons_of_mem _ he)) ?_
    rw [List.filterMap_cons] at h
    cases q : F d with
    | none =>
      rw [q] at h
      exact h
    | some r =>
      rw [q] at h
      exact h
theorem lcD_map {body : D → (Option D → Prop) → Prop} (F : D → D) (ds : List D) (Q : List D → Prop) (hb : ∀ d ∈ ds, ∀ k : Option D → Prop, k (some (F d)) → body d k) (h : Q (ds.map F)) : lcD body ds Q := by
  refine lcD_fm (fun d => some (F d)) ds Q hb ?_
  rw [List.filterMap_eq_map']
  exact h
/-- a loop by what holds between its turns -/
theorem forD_inv {T : Tg} {f : DTS} {N : Nd} (I : Env → Prop) : ∀ (ds : List D) (ρ : Env), I ρ → (∀ d ∈ ds, ∀ (ρ : Env) (K : Env → Prop), I ρ → (∀ ρ', I ρ' → K ρ') → ∃ ρ1, T.put d ρ = some ρ1 ∧ f { N with nx := K, ct := K, bk := N.nx } ρ1) → (∀ ρ, I ρ → N.nx ρ) → forD T f N ds ρ
  | [], ρ, h, _, he => he ρ h
  | d :: ds, ρ, h, hs, he => hs d List.mem_cons_self ρ _ h fun ρ' h' => forD_inv I ds ρ' h' (fun e h2 => hs e (List.mem_cons_of_mem _ h2)) he
/-- one statement, then the others, by what holds between them -/
theorem seq_by {f g : DTS} {N : Nd} {ρ : Env} (I : Env → Prop) (h1 : ∀ nx : Env → Prop, (∀ ρ', I ρ' → nx ρ') → f { N with nx := nx } ρ) (h2 : ∀ ρ', I ρ' → g N ρ') : dSeq f g N ρ := h1 _ h2
/-- how many spots a law looks at -/
theorem spots (n : Nat) : 1 ≤ (if (if (n : Int) < 8 then (n : Int) else 8) > 1 then (if (n : Int) < 8 then (n : Int) else 8) else 1) ∧ (if (if (n : Int) < 8 then (n : Int) else 8) > 1 then (if (n : Int) < 8 then (n : Int) else 8) else 1) ≤ 8 := by
  split <;> split <;> omega
theorem mem_range {lo : Int} {n : Nat} {d : D} (h : d ∈ rangeD lo n) : ∃ j : Nat, d = .int (lo + j) ∧ j < n := by
  unfold rangeD at h
  obtain ⟨j, hj, e⟩ := List.mem_map.mp h
  exact ⟨j, e.symm, List.mem_range.mp hj⟩
/-! ### texts -/
theorem str_app (a b : Str) : (a ++ b).cps.toList = a.cps.toList ++ b.cps.toList := by
  show (a.cps ++ b.cps).toList = _
  simp
theorem str_len (a : Str) : a.length = a.cps.toList.length := by
  show a.cps.size = _
  simp
/-! ### values of the judged kinds -/
def okStr (z : Str) : Prop := z.length ≤ 1000 ∧ ∀ c ∈ z.cps.toList, c < 1114112
def okV : D → Prop
  | .fz _ => False
  | .ins _ _ => False
  | .cl _ => False
  | .fn _ _ => False
  | .str z => okStr z
  | _ => True
def isStr : D → Bool
  | .str _ => true
  | _ => false
theorem isi_str {d : D} (h : okV d) : ∃ n, tyName d = some n ∧ kitB n "str" = some (isStr d) := by
  cases d with
  | fz _ => exact h.elim
  | cl _ => exact h.elim
  | fn _ _ => exact h.elim
  | ins _ _ => exact h.elim
  | non => exact ⟨_, rfl, by decide +kernel⟩
  | bl _ => exact ⟨_, rfl, by show kitB "bool" "str" = some false; decide +kernel⟩
  | int _ => exact ⟨_, rfl, by show kitB "int" "str" = some false; decide +kernel⟩
  | str _ => exact ⟨_, rfl, by show kitB "str" "str" = some true; decide +kernel⟩
  | tup _ => exact ⟨_, rfl, by show kitB "tuple" "str" = some false; decide +kernel⟩
  | lst _ => exact ⟨_, rfl, by show kitB "list" "str" = some false; decide +kernel⟩
  | dct _ => exact ⟨_, rfl, by show kitB "dict" "str" = some false; decide +kernel⟩
  | tok => exact ⟨_, rfl, by decide +kernel⟩
instance (a n : Int) : Decidable (CPowW a n) := by
  unfold CPowW
  exact inferInstance
theorem cmulL {i j : Int} (h : -(2 ^ 64) < i ∧ i < 2 ^ 64) : CMul i j := .inl h
theorem cmulR {i j : Int} (h : -(2 ^ 64) < j ∧ j < 2 ^ 64) : CMul i j := .inr h
end FP
/-! FP9: slices, two names at once, lists joined as one's own. -/
namespace FP
open PySem L2
variable [Tabl]
section
variable {ι : Type} {Xs : ι → Cx} {mg : Gm} {Wx : WX} {pos : Pos}
abbrev DTO := FP.Env → M (Option Int)
def CpP (mg : Gm) (Wx : WX) (t : TO) (f : DTO) : Prop := ∀ B ρ Q E, f ρ Q E → ∀ W σ H Q', Holds W H → EnvR mg B W H σ ρ → ExR mg Wx W H σ E → (∀ W' H' o, Step W H W' H' → Q o → Q' o H') → t σ H Q'
def DP (Xs : ι → Cx) (mg : Gm) (Wx : WX) (e : Option Expr) (f : DTO) : Prop := ∃ t, (∀ i, PO (Xs i) e t) ∧ CpP mg Wx t f
abbrev dONone : DTO := fun _ Q _ => Q none
abbrev dOSome (f : DTE) : DTO := fun ρ Q E => f ρ (fun x => match x with
  | .int i => Q (some i)
  | _ => False) E
theorem do_none : DP Xs mg Wx none dONone := ⟨_, fun _ => po_none, fun B ρ Q E hf W σ H Q' hh e x q => q W H none (Step.refl hh) hf⟩
theorem do_some {e : Expr} {f : DTE} (h : DE Xs mg Wx e f) : DP Xs mg Wx (some e) (dOSome f) := by
  obtain ⟨t, h1, h2⟩ := h
  refine ⟨_, fun i => po_some (h1 i), fun B ρ Q E hf W σ H Q' hh e x q => h2 B ρ _ E hf W σ H _ hh e x fun W1 H1 v d s1 r1 k1 => ?_⟩
  obtain ⟨i, rfl, k1⟩ := intOf k1
  obtain rfl := r1.intI
  exact ⟨i, rfl, q W1 H1 _ s1 k1⟩
def cutD (xs : List D) (lo hi : Option Int) : List D := (xs.drop (HT.sIx xs.length 0 lo)).take (HT.sIx xs.length xs.length hi - HT.sIx xs.length 0 lo)
theorem Reps.cut {W : Wd} {vs : List V} {ds : List D} (r : Reps mg W vs ds) (lo hi : Option Int) : Reps mg W (cutV vs lo hi) (cutD ds lo hi) := by
  unfold cutV cutD
  rw [r.length]
  exact (r.drop _).take _
def rdSl (x : D) (lo hi : Option Int) (Q : D → Prop) : Prop := match x with
  | .str z => z.length ≤ sizeLine ∧ Q (.str (cutS z lo hi))
  | .lst xs => Q (.lst (cutD xs lo hi))
  | .tup xs => Q (.tup (cutD xs lo hi))
  | _ => False
abbrev dSl (f : DTE) (l u : DTO) : DTE := fun ρ Q E => f ρ (fun x => l ρ (fun lo => u ρ (fun hi => rdSl x lo hi Q) E) E) E
theorem sl_listK {X : Cx} {K : PySem.W.Frag} (h : X.K = K) : L2.SlR X (rSlL K) := by
  subst h
  exact sl_list
theorem sl_tupK {X : Cx} {K : PySem.W.Frag} (h : X.K = K) : L2.SlR X (rSlA K) := by
  subst h
  exact sl_tupA
theorem de_slice {e : Expr} {lo hi : Option Expr} {f : DTE} {l u : DTO} {p2 : Pos} (h : DE Xs mg Wx e f) (hl : DP Xs mg Wx lo l) (hu : DP Xs mg Wx hi u) (hK : ∀ j, (Xs j).K = mg.K := by intro _; rfl) : DE Xs mg Wx (.Subscript e (.Slice lo hi none p2) pos) (dSl f l u) := by
  obtain ⟨t, h1, h2⟩ := h
  obtain ⟨tl, l1, l2⟩ := hl
  obtain ⟨tu, u1, u2⟩ := hu
  refine ⟨_, fun j => pe_slice (L2.SlR.or (sl_listK (hK j)) (L2.SlR.or sl_str (sl_tupK (hK j)))) (h1 j) (l1 j) (u1 j), fun B ρ Q E hf W σ H Q' hh e x q => ?_⟩
  refine h2 B ρ _ E hf W σ H _ hh e x fun W1 H1 v d s1 r1 k1 => ?_
  refine l2 B ρ _ E k1 W1 σ H1 _ s1.holds (e.step s1) (x.step s1) fun W2 H2 o1 s2 k2 => ?_
  have s12 := s1.trans s2
  refine u2 B ρ _ E k2 W2 σ H2 _ s2.holds (e.step s12) (x.step s12) fun W3 H3 o2 s3 k3 => ?_
  have s13 := s12.trans s3
  have r3 := (r1.mono s2.le).mono s3.le
  have q3 : ToV mg W3 H3 Q Q' := ToV.step q s13
  cases r3 with
  | str z => exact .inr (.inl ⟨z, rfl, k3.1, q3 W3 H3 _ _ (Step.refl s3.holds) (.str _) k3.2⟩)
  | lst ha ra => exact .inl ⟨_, _, rfl, SqL.of (s3.holds.same _ _ ha), to_lst q3 s3.holds (ra.cut o1 o2) k3⟩
  | @tup a vs ds ha ra =>
    refine .inr (.inr ⟨_, _, rfl, SqT.of (s3.holds.same _ _ ha), fun hw => ?_, fun _ => to_tup q3 s3.holds (ra.cut o1 o2) k3⟩)
    have k4 : Q (.tup (cutD ds o1 o2)) := k3
    have e4 : cutD ds o1 o2 = ds := by
      unfold cutD
      rw [← ra.length, hw.1, hw.2, List.drop_zero, Nat.sub_zero, ra.length, List.take_length]
    rw [e4] at k4
    exact q3 W3 H3 _ _ (Step.refl s3.holds) (.tup ha ra) k4
  | _ => exact k3.elim
/-- a, b = e1, e2 -/
abbrev dPar (i j : Nat) (g : DTA) : DTS := fun N ρ => g ρ (fun ds => match ds with
  | [x, y] => N.nx ((ρ.set i (.d x)).set j (.d y))
  | _ => False) (fun x => N.rs x ρ)
theorem ds_par {i j : Nat} {x y : Str} {a b : Expr} {g : DTA} {px py pt : Pos} {kt k2 : Nat} {pt2 : Pos} (h : DA Xs mg Wx [a, b] g) (hN : ∀ l, (Xs l).N.Nodup)
    (hw : ∀ l, swappedStores [.Tuple [.Name x px, .Name y py] kt pt] (.Tuple [a, b] k2 pt2) (Xs l).env = pure (some [x, y]) := by intro _; rfl) (hij : i ≠ j := by decide) (hi : ∀ l, (Xs l).N[i]? = some x := by intro _; rfl) (hj : ∀ l, (Xs l).N[j]? = some y := by intro _; rfl)
    (hx : ∀ l, (Xs l).env.scope.names.lookup x = some .local := by intro _; rfl) (hy : ∀ l, (Xs l).env.scope.names.lookup y = some .local := by intro _; rfl) (hc : ∀ l, (Xs l).calm = true := by intro _; rfl)
    (hs : ∀ l, swapsWithSole [.Tuple [.Name x px, .Name y py] kt pt] (.Tuple [a, b] k2 pt2) pos.line (Xs l).env = pure false := by intro _; rfl) : DS Xs mg Wx (.Assign [.Tuple [.Name x px, .Name y py] kt pt] (.Tuple [a, b] k2 pt2) pos) (dPar i j g) := by
  obtain ⟨t, h1, h2⟩ := h
  refine ⟨_, fun l => ps_par (i := i) (j := j) (hc l) (hN l) (hi l) (hj l) hij (hx l) (hy l) (h1 l) (hw l) (hs l), fun W0 B N ρ hf W σ H Ds s e n => ?_⟩
  refine h2 B ρ _ _ hf W σ H _ s.holds e (n.ex s e) fun W1 H1 vs ds s1 r1 k1 => ?_
  split at k1
  · cases r1 with
    | cons r rs =>
      cases rs with
      | cons r2 rs =>
        cases rs
        exact ⟨_, _, rfl, n.nx W1 H1 _ _ (s.trans s1) (((e.step s1).set r).set r2) k1⟩
  · exact k1.elim
end
/-! ### pure words -/
theorem blsD_fn {α : Type} (f : α → Bool) (cs : List α) : blsD (cs.map fun c => D.bl (f c)) = some (cs.map f) := by
  have e := blsD_map (cs.map f)
  rw [List.map_map] at e
  exact e
theorem signs_ok {z : Str} (h : okStr z) : (signsD z).length ≤ sizeLine := by
  rw [signsD_len]
  exact Nat.le_trans h.1 (by decide)
theorem kit_ss : kitB "str" "str" = some true := by decide +kernel
def isIntT : D → Bool
  | .int _ => true
  | .bl _ => true
  | _ => false
def isBlT : D → Bool
  | .bl _ => true
  | _ => false
theorem isi_ty {d : D} (h : okV d) : ∃ n, tyName d = some n ∧ kitB n "int" = some (isIntT d) ∧ kitB n "bool" = some (isBlT d) := by
  cases d with
  | fz _ => exact h.elim
  | ins _ _ => exact h.elim
  | cl _ => exact h.elim
  | fn _ _ => exact h.elim
  | non => exact ⟨_, rfl, by show kitB "NoneType" "int" = some false; decide +kernel, by show kitB "NoneType" "bool" = some false; decide +kernel⟩
  | bl _ => exact ⟨_, rfl, by show kitB "bool" "int" = some true; decide +kernel, by show kitB "bool" "bool" = some true; decide +kernel⟩
  | int _ => exact ⟨_, rfl, by show kitB "int" "int" = some true; decide +kernel, by show kitB "int" "bool" = some false; decide +kernel⟩
  | str _ => exact ⟨_, rfl, by show kitB "str" "int" = some false; decide +kernel, by show kitB "str" "bool" = some false; decide +kernel⟩
  | tup _ => exact ⟨_, rfl, by show kitB "tuple" "int" = some false; decide +kernel, by show kitB "tuple" "bool" = some false; decide +kernel⟩
  | lst _ => exact ⟨_, rfl, by show kitB "list" "int" = some false; decide +kernel, by show kitB "list" "bool" = some false; decide +kernel⟩
  | dct _ => exact ⟨_, rfl, by show kitB "dict" "int" = some false; decide +kernel, by show kitB "dict" "bool" = some false; decide +kernel⟩
  | tok => exact ⟨_, rfl, by show kitB "list" "int" = some false; decide +kernel, by show kitB "list" "bool" = some false; decide +kernel⟩
def digL : List Nat := ("0123456789" : Str).cps.toList
theorem line {n : Nat} (h : Nat.ble n 16777216 = true) : n ≤ sizeLine := Nat.le_of_ble_eq_true h
/-- x and a number from 0 to 99 -/
def levelS (z : Str) : Option Int := match z.cps.toList with
  | [x, a] => if x = 120 ∧ a ∈ digL then some ((a : Int) - 48) else none
  | [x, a, b] => if x = 120 ∧ a ∈ digL ∧ b ∈ digL ∧ a ≠ 48 then some (((a : Int) - 48) * 10 + ((b : Int) - 48)) else none
  | _ => none
end FP
/-! FP10: classes of one's own: fields, making, methods, properties, isinstance. -/
namespace FP
open PySem L2
variable [Tabl]
theorem RmG.in1 {k : Nat} {A : Around} (m : RmG (k + 1) A) : RmG k A.in1 := ⟨m.r.in1, m.g⟩
/-- a class of the text -/
structure ClsF (mg : Gm) (c : Str) (C : Addr) : Prop where
  nm : mg.mg c = some (.ref C)
  cl : Cls mg.K C
  ha : PySem.W.findIn mg.K (.ref C) "__class__" = some (some (.builtin "object.__class__"))
  hn : PySem.W.specialIn mg.K (.builtin "object.__class__") "__get__" = some (some (.builtin "getset_descriptor.__get__"))
  htk : PySem.W.takesIn mg.K (.builtin "object.__class__") = some true
  hm : PySem.W.mroIn mg.K C (.type "object") = some true
theorem ClsF.eq {mg : Gm} {c : Str} {C C' : Addr} (f : ClsF mg c C) (h : mg.mg c = some (.ref C')) : C' = C := by
  have e := h.symm.trans f.nm
  cases e
  rfl
section
variable {ι : Type} {Xs : ι → Cx} {mg : Gm} {Wx : WX} {pos : Pos}
/-! ### fields -/
theorem lookup_reps {W : Wd} : ∀ {vs : List (Str × V)} {ds : List (Str × D)} {f : Str} {d : D}, vs.map (·.1) = ds.map (·.1) → Reps mg W (vs.map (·.2)) (ds.map (·.2)) → ds.lookup f = some d → ∃ v, vs.lookup f = some v ∧ Rep mg W v d
  | [], [], _, _, _, _, h => by cases h
  | [], _ :: _, _, _, h, _, _ => by cases h
  | _ :: _, [], _, _, h, _, _ => by cases h
  | (a, v) :: vs, (b, e) :: ds, f, d, hk, hr, hl => by
    simp only [List.map_cons, List.cons.injEq] at hk
    obtain ⟨rfl, hk⟩ := hk
    cases hr with
    | cons r rs =>
      rw [List.lookup_cons] at hl ⊢
      split at hl
      · cases hl
        exact ⟨v, rfl, r⟩
      · exact lookup_reps hk rs hl
abbrev dFld (c f : Str) (g : DTE) : DTE := fun ρ Q E => g ρ (fun x => match x with
  | .ins c' fs => c' = c ∧ ∃ d, fs.lookup f = some d ∧ Q d
  | _ => False) E
theorem de_fld {c f : Str} {C : Addr} {e : Expr} {g : DTE} (F : ClsF mg c C) (na : NoAttr mg.K C f) (h : DE Xs mg Wx e g) (hK : ∀ j, (Xs j).K = mg.K := by intro _; rfl) (hb : ∀ j, attributeBase e f (Xs j).env (eval e (Xs j).env) = eval e (Xs j).env := by intro _; rfl) : DE Xs mg Wx (.Attribute e f pos) (dFld c f g) := by
  obtain ⟨t, h1, h2⟩ := h
  refine ⟨tFld mg.K t f, fun j => by
    have z := pe_fld (pos := pos) (h1 j) (hb j)
    rw [hK j] at z
    exact z, fun B ρ Q E hf W σ H Q' hh e x q => ?_⟩
  refine h2 B ρ _ E hf W σ H _ hh e x fun W1 H1 v d s1 r1 k1 => ?_
  obtain ⟨c', ds, rfl, k1⟩ := insOf k1
  obtain ⟨a, C', dx, fs, rfl, hc, ha, hk, rs⟩ := r1.insI
  obtain ⟨rfl, d', hd, hq⟩ := k1
  have ec := F.eq hc
  subst ec
  obtain ⟨v', hv, rv⟩ := lookup_reps hk rs hd
  exact ⟨a, C', dx, fs, v', rfl, s1.holds.same _ _ ha, F.cl, na, hv, q W1 H1 v' d' s1 rv hq⟩
/-- an attribute put -/
def putD (f : Str) (d : D) : List (Str × D) → List (Str × D)
  | [] => [(f, d)]
  | (g, e) :: r => if g = f then (f, d) :: r else (g, e) :: putD f d r
theorem putF_reps {W : Wd} {f : Str} {v : V} {d : D} (r : Rep mg W v d) : ∀ {vs : List (Str × V)} {ds : List (Str × D)}, vs.map (·.1) = ds.map (·.1) → Reps mg W (vs.map (·.2)) (ds.map (·.2)) → (putF f v vs).map (·.1) = (putD f d ds).map (·.1) ∧ Reps mg W ((putF f v vs).map (·.2)) ((putD f d ds).map (·.2))
  | [], [], _, _ => ⟨rfl, .cons r .nil⟩
  | [], _ :: _, h, _ => by cases h
  | _ :: _, [], h, _ => by cases h
  | (a, w) :: vs, (b, e) :: ds, hk, hr => by
    simp only [List.map_cons, List.cons.injEq] at hk
    obtain ⟨rfl, hk⟩ := hk
    cases hr with
    | cons r1 rs =>
      unfold putF putD
      by_cases ha : a = f
      · rw [if_pos ha, if_pos ha]
        exact ⟨by simp [hk, ha], .cons r rs⟩
      · rw [if_neg ha, if_neg ha]
        obtain ⟨h1, h2⟩ := putF_reps r hk rs
        exact ⟨by simp [h1], .cons r1 h2⟩
abbrev dSetF (i : Nat) (c f : Str) (g : DTE) : DTS := fun N ρ => g ρ (fun d => match ρ[i]? with
  | some (.ob c' a fs) => c' = c ∧ fs.length < 1000 ∧ N.nx (ρ.set i (.ob c a (putD f d fs)))
  | _ => False) (fun x => N.rs x ρ)
theorem ds_setF (i : Nat) {c x f : Str} {C : Addr} {p p' : Pos} {e : Expr} {g : DTE} (F : ClsF mg c C) (na : NoAttr mg.K C f) (h : DE Xs mg Wx e g) (hK : ∀ j, (Xs j).K = mg.K := by intro _; rfl) (hN : ∀ j, (Xs j).N[i]? = some x := by intro _; rfl)
    (hv : ∀ j, Vis (Xs j).env.scope x := by intro _; first | exact Or.inl rfl | exact Or.inr (Or.inl rfl) | exact Or.inr (Or.inr rfl)) (hd : (x == ("__debug__" : Str)) = false := by decide) (hcd : (x == ("__classdict__" : Str)) = false := by decide)
    (hs : ∀ j, swapsWith e (some (.Attribute (.Name x p) f p')) pos.line (Xs j).env = pure false := by intro _; rfl) : DS Xs mg Wx (.Assign [.Attribute (.Name x p) f p'] e pos) (dSetF i c f g) := by
  obtain ⟨t, h1, h2⟩ := h
  refine ⟨sFld mg.K (tVar i) t f, fun j => by
    have z := ps_fld (pe_var (i := i) (pos := p) (hN j) (hv j) hd hcd) (h1 j) (hs j)
    rw [hK j] at z
    exact z, fun W0 B N ρ hf W σ H Ds s e n => ?_⟩
  refine h2 B ρ _ _ hf W σ H _ s.holds e (n.ex s e) fun W1 H1 v d s1 r1 k1 => ?_
  have e1 := e.step s1
  dsimp only at k1
  split at k1
  · rename_i c' a fs hs'
    obtain ⟨rfl, hl, hq⟩ := k1
    obtain ⟨o, g1, vs, g2, ⟨C', dx, hc, g3⟩, g4, g5, g6, hk, rs⟩ := e1.sl i _ hs'
    subst g2
    have ec := F.eq hc
    subst ec
    have el : vs.length = fs.length := by
      have q := congrArg List.length hk
      simpa using q
    obtain ⟨k2, k3⟩ := putF_reps (f := f) r1 hk rs
    refine ⟨.ref a, g1, a, C', dx, vs, rfl, g3, F.cl, na, by omega, ?_⟩
    refine n.nx W1 _ σ _ ((s.trans s1).own g6 g3 g4 g5) (e1.turn (s' := .ob c' a (putD f d fs)) hs' g1 (List.mem_singleton.mpr rfl) (fun _ h => h) ⟨_, rfl, ⟨C', dx, hc, upd_same⟩, g4, g5, g6, k2, k3⟩) hq
  · exact k1.elim
/-! ### making an object -/
/-- an __init__'s promise: the fields that the object has behind it -/
def spI (mg : Gm) (c : Str) (C : Addr) (n : Nat) (f : List D → ((List (Str × D)) → Prop) → (XD → Prop) → Prop) : Sp := fun vs H Q E => ∃ W ds us H1 x dx Qd Ed, vs = .ref x :: us ∧ H1 x = none ∧ H1 dx = none ∧ dx ≠ x ∧ H = upd (upd H1 dx (.own x)) x (.ins C dx []) ∧ Holds W H1 ∧ Reps mg W us ds ∧ ds.length = n ∧ f ds Qd Ed ∧
  (∀ W' H' gs fs dy, Step W H1 W' H' → H' x = some (.ins C dy gs) → W'.H x = none → ¬ W'.T x → gs.map (·.1) = fs.map (·.1) → Reps mg W' (gs.map (·.2)) (fs.map (·.2)) → Qd fs → Q .non H') ∧ ∀ W' H' cls dd y, Step W H1 W' H' → RepX mg W' H' cls dd y → Ed y → E cls dd H'
structure InitOk (P : Program) (w : World) (mg : Gm) (base : Heap) (k : Nat) (c : Str) (C : Addr) (n : Nat) (f : List D → ((List (Str × D)) → Prop) → (XD → Prop) → Prop) : Prop where
  ex : ∃ fa fd ps, Mk mg.K C fa ∧ Binds mg.K fd ps [] ∧ ps.length = n + 1 ∧ FnG P w mg.K mg.mg base k fa fd ps (spI mg c C n f)
/-- the making, where no repr is under way -/
theorem makeG {X : Cx} {C f : Addr} {k : Nat} {fd : FuncData} {ps : List Str} {sp : Sp} {Ex : XK} {pins : List (Addr × Obj)} {σ : St} {H : Hp} {z : Shared} {Q : VK} {us : List Value} {vs : List V} (M : Mk X.K C f) (F : FnG X.prog X.w X.K X.mg X.base k f fd ps sp) (m : RmG (k + 1) X.A) (hb : Binds X.K fd ps [])
    (hx : PassesAt (L2.CX X.prog X.w) X σ Ex) (I : Inv X pins σ H z) (rv : Vals vs us)
    (h : ∀ x dx, H x = none → H dx = none → dx ≠ x → sp (.ref x :: vs) (upd (upd H dx (.own x)) x (.ins C dx [])) (fun v H2 => v = .non ∧ Q (.ref x) H2) Ex) : wpAny (model X.prog X.w) X.A (call (.ref C) us) (EP X pins σ Q) X.xe z := by
  have fr0 := I.hok.fresh (Nat.le_refl z.heap.objs.size)
  have fr1 := I.hok.fresh (Nat.le_succ z.heap.objs.size)
  have want := h (z.heap.objs.size + 1) z.heap.objs.size fr1 fr0 (Nat.ne_of_lt (Nat.lt_succ_self _))
  have J := Inv.made (C := C) I
  have rv2 : Vals (V.ref (z.heap.objs.size + 1) :: vs) (Value.ref (z.heap.objs.size + 1) :: us) := .cons rfl rv
  have ln : (Value.ref (z.heap.objs.size + 1) :: us ++ []).length = ps.length := by
    rw [List.append_nil, ← rv2.length]
    exact F.ln _ _ _ _ want
  have bd := hb _ (Value.ref (z.heap.objs.size + 1) :: us) J.kIn ln
  rw [List.append_nil] at bd
  have gd : (X.A.under (.builtin "type.__call__" ⟨.ref C :: us, []⟩)).guards = some [] := by
    simp [Around.under, Code.guards, Code.isGuard, guardIds, pushGuards, m.g]
  have cd := F.go _ X.stack _ _ ⟨Value.ref (z.heap.objs.size + 1) :: us, []⟩ _ _ _ Ex ⟨m.r.make C us [], gd⟩ (J.env0.make C us []) bd rv2 want
  refine wpAny_call (make_map (f := f) I.kIn M.makes M.init (beq_iff_eq.mp M.fn) (codeAny_mono cd ?_))
  intro res z' hq
  match res, hq with
  | .error e, hq => exact hx pins _ _ e z' J hq
  | .ok .next, hq => exact hq.elim
  | .ok .brk, hq => exact hq.elim
  | .ok .cont, hq => exact hq.elim
  | .ok (.ret u), hq =>
    obtain ⟨v, H', I3, ru, ev, q3⟩ := J.after hq
    subst ev
    exact ⟨ru, ⟨V.ref (z.heap.objs.size + 1), H', I3, rfl, q3⟩⟩
abbrev dMake (c : Str) (f : List D → ((List (Str × D)) → Prop) → (XD → Prop) → Prop) (n : Nat) (g : DTA) : DTE := fun ρ Q E => g ρ (fun ds => ds.length = n ∧ f ds (fun fs => Q (.ins c fs)) E) E
theorem de_make {P : Program} {w : World} {base : Heap} {k n : Nat} {c : Str} {C : Addr} {f : List D → ((List (Str × D)) → Prop) → (XD → Prop) → Prop} {p : Pos} {e : Expr} {es : List Expr} {g : DTA} (Fc : ClsF mg c C) (F : InitOk P w mg base k c C n f) (hr : ∀ i, RmG (k + 1) (Xs i).A) (tk : ∀ i, Pas (Xs i) Wx) (ha : DA Xs mg Wx (e :: es) g)
    (hP : ∀ j, (Xs j).prog = P ∧ (Xs j).w = w ∧ (Xs j).K = mg.K ∧ (Xs j).mg = mg.mg ∧ (Xs j).base = base := by intro _; exact ⟨rfl, rfl, rfl, rfl, rfl⟩) (hg : ∀ j, Gl (Xs j) c := by intro _; rfl) (hd : (c == ("__debug__" : Str)) = false := by decide)
    (he : ∀ i, starEach (e :: es) (Xs i).env = (false, eval e (Xs i).env) :: starEach es (Xs i).env := by intro _; rfl) (hpl : ∀ i, (backTo pos (starEach es (Xs i).env)).any (·.1) = false := by intro _; rfl) : DE Xs mg Wx (.Call (.Name c p) (e :: es) [] pos) (dMake c f n g) := by
  obtain ⟨fa, fd, ps, M, hb, hl, G⟩ := F.ex
  obtain ⟨t, h1, h2⟩ := ha
  refine ⟨fun σ H Q => t σ H fun vs H1 => ∀ x dx, H1 x = none → H1 dx = none → dx ≠ x → spI mg c C n f (.ref x :: vs) (upd (upd H1 dx (.own x)) x (.ins C dx [])) (fun v H2 => v = .non ∧ Q (.ref x) H2) (WE Wx σ), fun i => ?_, ?_⟩
  · obtain ⟨p1, p2, p3, p4, p5⟩ := hP i
    subst p1 p2 p5
    constructor
    intro pins z σ H Q I hw
    apply wpAny_Call_Name_kw
    apply ld_glob I (hg i) (by rw [p4]; exact Fc.nm) _ hd
    apply PySem.W.callWith_K (h₀ := (Xs i).base) I.ok.mod.kin (by rw [p3]; exact M.kp) _ (he i) (hpl i)
    refine thn ((h1 i).run pos pins z σ H _ I hw) ?_
    rintro us z1 ⟨vs, H1, I1, rv, q⟩
    exact ⟨I1.kIn, makeG (by rw [p3]; exact M) (by rw [p3, p4]; exact G) (hr i) (by rw [p3]; exact hb) (tk i σ) I1 rv q⟩
  · intro B ρ Q E hf W σ H Q' hh e x q
    refine h2 B ρ _ E hf W σ H _ hh e x fun W1 H1 vs ds s1 r1 k1 => ?_
    intro a dx na ndx ne
    refine ⟨W1, ds, vs, H1, a, dx, _, E, rfl, na, ndx, ne, rfl, s1.holds, r1, k1.1, k1.2, fun W' H' gs fs dy s' ha' nw nt hk rs hq => ⟨rfl, ?_⟩, fun W' H' cls dd y s' r h => x W' H' cls dd y (s1.trans s') r h⟩
    have st := s'.taken na ha' nw nt
    exact q _ _ _ _ (s1.trans st) (.ins Fc.nm (show upd W'.H a _ a = _ from upd_same) hk (rs.mono (Wd.le_put nw))) hq
/-- an __init__ by its body: the object stands in slot 0 -/
theorem mkInit {P : Program} {w : World} {base : Heap} {c : Str} {C : Addr} {qual : Str} {st : Stmt} {N ps : List Str} {k n : Nat} {f : List D → ((List (Str × D)) → Prop) → (XD → Prop) → Prop} (Fc : ClsF mg c C) (d : ∃ fa fd, Mk mg.K C fa ∧ Fun mg.K "__init__" qual st fa fd) (S : FnScope N ps (defScope st)) (hn : ps.length = n + 1)
    (hb : ∀ (kV doc pm : Value) (an : Option Addr) (cdv ct : Value) (us : List Value), us.length = ps.length → bindArgs (PySem.W.fnOf "__init__" qual (defArgs st) (defBody st) (defScope st) .none kV doc pm an cdv ct) ⟨us, []⟩ = pure (ps.zip us))
    (h : ∀ (fa : Addr) (cdv : Value) (A : Around) (outer : List PySem.Env) (s : Shared) (H : Hp) (E : XK), RmG k (A.deeper (PyProof.Rows.envOfC qual (defScope st) s.heap.objs.size fa cdv)) →
      ∃ g, DSs (fun _ : Unit => cxOf (L2.CX P w) P w mg.K mg.mg base N qual (defScope st) fa cdv A outer s H E) mg (fun cls d _ H' => E cls d H') (defBody st) g ∧
        ∀ x ds Q Ex, ds.length = n → f ds Q Ex → g ⟨fun ρ => ∃ fs r, ρ = .ob c x fs :: r ∧ Q fs, fun _ _ => False, fun _ => False, fun _ => False, fun x _ => Ex x⟩ (.ob c x [] :: startD (N.length - 1) ds)) :
    InitOk P w mg base (k + 1) c C n f := by
  obtain ⟨fa, fd, M, F⟩ := d
  refine ⟨fa, fd, ps, M, F.binds hb, hn, ?_⟩
  refine fnG_of F S (fun vs H Q E hs => ?_) (fun cdv A outer s H vs Q E hr hs => ?_)
  · obtain ⟨W, ds, us, H1, x, dx, Qd, Ed, rfl, _, _, _, _, _, r, l, _⟩ := hs
    rw [List.length_cons, r.length, l, hn]
  · obtain ⟨W, ds, us, H1, x, dx, Qd, Ed, rfl, nx, ndx, ne, rfl, hh, r, l, hf, q, ex⟩ := hs
    obtain ⟨g, ⟨t, h1, h2⟩, h3⟩ := h fa cdv A outer s _ E hr
    have lu : us.length = n := by rw [r.length, l]
    have sd : Step W H1 W (upd H1 dx (.own x)) := Step.lay hh ndx
    have nx2 : (upd H1 dx (.own x)) x = none := by
      rw [upd_ne (Ne.symm ne)]
      exact nx
    have sx : Step W H1 W (upd (upd H1 dx (.own x)) x (.ins C dx [])) := sd.trans (Step.lay sd.holds nx2)
    refine ⟨t, h1 (), ?_⟩
    have hN : N.length = (N.length - 1) + 1 := by
      have q1 := congrArg List.length S.pre
      rw [List.length_take, hn] at q1
      omega
    have e0 : EnvR mg H1 W (upd (upd H1 dx (.own x)) x (.ins C dx [])) (L2.start N (.ref x :: us)) (.ob c x [] :: startD (N.length - 1) ds) := by
      have base0 := EnvR.start (N := N.tail) (mg := mg) (H := H1) r
      have lt : N.tail.length = N.length - 1 := List.length_tail
      have es : L2.start N (.ref x :: us) = some (.ref x) :: L2.start N.tail us := by
        unfold L2.start
        rw [List.map_cons, List.cons_append, List.length_cons, lt, Nat.sub_sub, Nat.add_comm 1]
      rw [es, ← lt]
      refine ⟨congrArg (· + 1) base0.len, fun i sl hi => ?_, fun i j s1 s2 o1 o2 a hij q1 q2 q3 q4 m1 m2 => ?_⟩
      · cases i with
        | zero =>
          cases hi
          exact ⟨_, rfl, [], rfl, ⟨C, dx, Fc.nm, upd_same⟩, hh.same.free nx, hh.nT nx, nx, rfl, .nil⟩
        | succ i =>
          obtain ⟨o, g1, g2⟩ := base0.sl i sl hi
          refine ⟨o, g1, g2.keep (Le.refl W) fun a _ u h5 h6 h7 => sx.mine h5 h6 h7⟩
      · have none2 : ∀ (j : Nat) (s : Sl) (o : Option V), (startD N.tail.length ds)[j]? = some s → a ∉ s.fp o := fun j s o hj m => by
          unfold startD at hj
          rcases List.mem_append.mp (List.mem_of_getElem? hj) with z | z
          · obtain ⟨_, _, z⟩ := List.mem_map.mp z
            rw [← z] at m
            cases m
          · have z := List.eq_of_mem_replicate z
            rw [z] at m
            cases m
        cases i with
        | succ i => exact none2 i s1 o1 q1 m1
        | zero =>
          cases j with
          | zero => exact hij rfl
          | succ j => exact none2 j s2 o2 q2 m2
    refine h2 W H1 _ _ (h3 x ds Qd Ed l hf) W _ _ _ sx e0 ⟨fun W' H' σ' ρ' s' e' k => ?_, fun _ _ _ _ _ _ _ _ _ k => k.elim, fun _ _ _ _ _ _ k => k.elim, fun _ _ _ _ _ _ k => k.elim, fun W' H' σ' ρ' cls dd y s' e' r' k => ex W' H' cls dd y s' r' k⟩
    obtain ⟨fs, rr, rfl, hq⟩ := k
    obtain ⟨o, g1, vs, g2, ⟨C', dy, hc, g3⟩, g4, g5, g6, hk, rs⟩ := e'.sl 0 _ rfl
    have ec := Fc.eq hc
    subst ec
    exact q W' H' vs fs dy s' g3 g4 g5 hk rs hq
end
end FP
/-! FP11: methods, properties, isinstance with an own class, len, in, [], str of own objects. -/
namespace FP
open PySem L2
variable [Tabl]
section
variable {ι : Type} {Xs : ι → Cx} {mg : Gm} {Wx : WX} {pos : Pos}
/-! ### methods -/
structure MethOk (P : Program) (w : World) (mg : Gm) (base : Heap) (k : Nat) (C : Addr) (m : Str) (n : Nat) (f : List D → M D) : Prop where
  ex : ∃ fa fd ps, Meth mg.K C m fa ∧ Binds mg.K fd ps [] ∧ ps.length = n ∧ FnG P w mg.K mg.mg base k fa fd ps (spD mg n f)
theorem mkMeth {P : Program} {w : World} {base : Heap} {C : Addr} {m qual : Str} {st : Stmt} {N ps : List Str} {k : Nat} {f : List D → M D} (d : ∃ fa fd, Meth mg.K C m fa ∧ Fun mg.K m qual st fa fd) (S : FnScope N ps (defScope st))
    (hb : ∀ (kV doc pm : Value) (an : Option Addr) (cdv ct : Value) (us : List Value), us.length = ps.length → bindArgs (PySem.W.fnOf m qual (defArgs st) (defBody st) (defScope st) .none kV doc pm an cdv ct) ⟨us, []⟩ = pure (ps.zip us))
    (h : ∀ (fa : Addr) (cdv : Value) (A : Around) (outer : List PySem.Env) (s : Shared) (H : Hp) (E : XK), RmG k (A.deeper (PyProof.Rows.envOfC qual (defScope st) s.heap.objs.size fa cdv)) →
      ∃ g, DSs (fun _ : Unit => cxOf (L2.CX P w) P w mg.K mg.mg base N qual (defScope st) fa cdv A outer s H E) mg (fun cls d _ H' => E cls d H') (defBody st) g ∧
        ∀ ds Q Ex, ds.length = ps.length → f ds Q Ex → g ⟨fun _ => Q .non, fun d _ => Q d, fun _ => False, fun _ => False, fun x _ => Ex x⟩ (startD N.length ds)) :
    MethOk P w mg base (k + 1) C m ps.length f := by
  obtain ⟨fa, fd, hm, F⟩ := d
  exact ⟨fa, fd, ps, hm, F.binds hb, rfl, def_ok F S (h fa)⟩
abbrev dMeth (c : Str) (f : List D → M D) (n : Nat) (m : Str) (go : DTE) (g : DTA) : DTE := fun ρ Q E => go ρ (fun x => match x with
  | .ins c' fs => c' = c ∧ fs.lookup m = none ∧ g ρ (fun ds => ds.length + 1 = n ∧ f (.ins c' fs :: ds) Q E) E
  | _ => False) E
theorem lookup_none {α β : Type} : ∀ {vs : List (Str × α)} {ds : List (Str × β)} {f : Str}, vs.map (·.1) = ds.map (·.1) → ds.lookup f = none → vs.lookup f = none
  | [], [], _, _, _ => rfl
  | [], _ :: _, _, h, _ => by cases h
  | _ :: _, [], _, h, _ => by cases h
  | (a, v) :: vs, (b, e) :: ds, f, hk, hl => by
    simp only [List.map_cons, List.cons.injEq] at hk
    obtain ⟨rfl, hk⟩ := hk
    rw [List.lookup_cons] at hl ⊢
    split at hl
    · cases hl
    · exact lookup_none hk hl
theorem de_meth {P : Program} {w : World} {base : Heap} {k n : Nat} {c m : Str} {C : Addr} {f : List D → M D} {apos : Pos} {o e : Expr} {es : List Expr} {go : DTE} {g : DTA} {pl : ι → Sem Bool} (Fc : ClsF mg c C) (F : MethOk P w mg base k C m n f) (hr : ∀ i, RmG k (Xs i).A) (tk : ∀ i, Pas (Xs i) Wx) (ho : DE Xs mg Wx o go) (ha : DA Xs mg Wx (e :: es) g)
    (hP : ∀ j, (Xs j).prog = P ∧ (Xs j).w = w ∧ (Xs j).K = mg.K ∧ (Xs j).mg = mg.mg ∧ (Xs j).base = base := by intro _; exact ⟨rfl, rfl, rfl, rfl, rfl⟩)
    (he : ∀ i, starEach (e :: es) (Xs i).env = (false, eval e (Xs i).env) :: starEach es (Xs i).env := by intro _; rfl) (hpl : ∀ i, (backTo pos (starEach es (Xs i).env)).any (·.1) = false := by intro _; rfl)
    (ht : ∀ i, eval (.Call (.Attribute o m apos) (e :: es) [] pos) (Xs i).env = (do
      let ov ← eval o (Xs i).env
      standAt apos.atName
      let (fn, first) ← holding [ov] (getMethod ov m (pl i))
      callWith pos fn first (backTo pos (starEach (e :: es) (Xs i).env)) (backToKw pos (keywordEach [] (Xs i).env))) := by intro _; rfl) : DE Xs mg Wx (.Call (.Attribute o m apos) (e :: es) [] pos) (dMeth c f n m go g) := by
  obtain ⟨fa, fd, ps, hm, hb, hl, G⟩ := F.ex
  obtain ⟨to, o1, o2⟩ := ho
  obtain ⟨t, h1, h2⟩ := ha
  refine ⟨fun σ H Q => to σ H fun x H1 => ∃ a dx fs, x = .ref a ∧ H1 a = some (.ins C dx fs) ∧ fs.lookup m = none ∧ t σ H1 fun vs H2 => spD mg n f (x :: vs) H2 Q (WE Wx σ), fun i => ?_, ?_⟩
  · obtain ⟨p1, p2, p3, p4, p5⟩ := hP i
    subst p1 p2 p5
    constructor
    intro pins z σ H Q I hw
    refine PySem.W.methodCall_KW (pl := pl i) (thn ((o1 i).run pins z σ H _ I hw) ?_) (ht i)
    rintro u z1 ⟨x, H1, I1, rx, a, dx, fs, ex, ea, l, q⟩
    subst ex
    have eu : u = Value.ref a := rx
    subst eu
    apply getmeth_ok I1 ea (by rw [p3]; exact Fc.cl) (by rw [p3]; exact hm) l
    apply PySem.W.callWith_K (first := [.ref a]) (h₀ := (Xs i).base) I.ok.mod.kin (by rw [p3]; exact hm.kp) _ (he i) (hpl i)
    refine thn ((h1 i).run pos pins z1 σ H1 _ I1 q) ?_
    rintro us z2 ⟨vs, H2, I2, rv, q2⟩
    exact ⟨I2.kIn, goG (Ew := WE Wx) (us := .ref a :: us) (vs := .ref a :: vs) (by rw [p3, p4]; exact G) (hr i) (by rw [p3]; exact hb) (tk i σ) I2 (.cons rfl rv) q2⟩
  · intro B ρ Q E hf W σ H Q' hh e x q
    refine o2 B ρ _ E hf W σ H _ hh e x fun W1 H1 v d s1 r1 k1 => ?_
    obtain ⟨c', ds, rfl, k1⟩ := insOf k1
    obtain ⟨a, C', dx, fs, rfl, hc, ha, hk, rs⟩ := r1.insI
    obtain ⟨rfl, hno, k2⟩ := k1
    have ec := Fc.eq hc
    subst ec
    refine ⟨a, dx, fs, rfl, s1.holds.same _ _ ha, lookup_none hk hno, ?_⟩
    refine h2 B ρ _ E k2 W1 σ H1 _ s1.holds (e.step s1) (x.step s1) fun W2 H2 vs ds2 s2 r2 k3 => ?_
    have s12 := s1.trans s2
    exact ⟨W2, _, Q, E, s2.holds, .cons ((Rep.ins hc ha hk rs).mono s2.le) r2, k3.1, k3.2, ToV.step q s12, fun W' H' cls dd y s' r h => x W' H' cls dd y (s12.trans s') r h⟩
/-! ### properties -/
structure PropOk (P : Program) (w : World) (mg : Gm) (base : Heap) (k : Nat) (C : Addr) (m : Str) (f : List D → M D) : Prop where
  ex : ∃ p fa fd ps, PropOf mg.K C m p fa ∧ Binds mg.K fd ps [] ∧ ps.length = 1 ∧ FnG P w mg.K mg.mg base k fa fd ps (spD mg 1 f)
theorem mkProp {P : Program} {w : World} {base : Heap} {C : Addr} {m qual : Str} {st : Stmt} {N ps : List Str} {k : Nat} {f : List D → M D} (d : ∃ p fa fd, PropOf mg.K C m p fa ∧ Fun mg.K m qual st fa fd) (S : FnScope N ps (defScope st)) (h1 : ps.length = 1)
    (hb : ∀ (kV doc pm : Value) (an : Option Addr) (cdv ct : Value) (us : List Value), us.length = ps.length → bindArgs (PySem.W.fnOf m qual (defArgs st) (defBody st) (defScope st) .none kV doc pm an cdv ct) ⟨us, []⟩ = pure (ps.zip us))
    (h : ∀ (fa : Addr) (cdv : Value) (A : Around) (outer : List PySem.Env) (s : Shared) (H : Hp) (E : XK), RmG k (A.deeper (PyProof.Rows.envOfC qual (defScope st) s.heap.objs.size fa cdv)) →
      ∃ g, DSs (fun _ : Unit => cxOf (L2.CX P w) P w mg.K mg.mg base N qual (defScope st) fa cdv A outer s H E) mg (fun cls d _ H' => E cls d H') (defBody st) g ∧
        ∀ ds Q Ex, ds.length = ps.length → f ds Q Ex → g ⟨fun _ => Q .non, fun d _ => Q d, fun _ => False, fun _ => False, fun x _ => Ex x⟩ (startD N.length ds)) :
    PropOk P w mg base (k + 1) C m f := by
  obtain ⟨p, fa, fd, hm, F⟩ := d
  have G := def_ok F S (h fa)
  rw [h1] at G
  exact ⟨p, fa, fd, ps, hm, F.binds hb, h1, G⟩
/-- a property that raises nothing -/
abbrev dProp (c : Str) (f : List D → M D) (go : DTE) : DTE := fun ρ Q E => go ρ (fun x => match x with
  | .ins c' fs => c' = c ∧ f [.ins c' fs] Q F0
  | _ => False) E
theorem getpropG {X : Cx} {k : Nat} {C p g a dx : Addr} {fs : List (Str × V)} {f : Str} {fd : FuncData} {ps : List Str} {sp : Sp} {pins : List (Addr × Obj)} {σ : St} {H : Hp} {z : Shared} {Q : VK} {b : Bool} {E' : Value → Shared → Prop} (I : Inv X pins σ H z) (ea : H a = some (.ins C dx fs)) (c : Cls X.K C) (hp : PropOf X.K C f p g)
    (F : FnG X.prog X.w X.K X.mg X.base k g fd ps sp) (m : RmG (k + 1) X.A) (hb : Binds X.K fd ps []) (h : sp [.ref a] H Q E0) : wpAny (model X.prog X.w) X.A (getAttr (.ref a) f b) (EP X pins σ Q) E' z := by
  obtain ⟨mA, O, _⟩ := ins_get I.hok ea
  obtain ⟨od, J, _⟩ := O.look
  obtain ⟨rest, hrec⟩ := hp.rec_
  have I1 := I.tok (z.toks + 1)
  have hc : (PySem.W.clsIn X.K C).isSome = true := by
    obtain ⟨cd, q, _⟩ := PySem.W.any_some c.hd
    rw [q]
    rfl
  have plain := PySem.W.plainGet_of (c.get f)
  refine PySem.W.get_bind I.kIn J plain.1 (PySem.W.findObj_data hc hp.at_ hp.get hp.tak) plain.2 (wpAny_call (PySem.W.prop_get (s := { z with toks := z.toks + 1 }) I.kIn hrec ?_))
  have bd := hb { z with toks := z.toks + 1 } [.ref a] I1.kIn (F.ln _ _ _ _ h)
  rw [List.append_nil] at bd
  have cd := F.go X.A.in1 X.stack { z with toks := z.toks + 1 } H ⟨[.ref a], []⟩ [.ref a] [.ref a] Q E0 m.in1 I1.env0.in1 bd (.cons rfl .nil) h
  refine codeAny_mono cd ?_
  intro res z' hq
  match res, hq with
  | .error e, hq =>
    obtain ⟨_, _, _, _, _, _, _, _, _, _, _, _, w⟩ := hq
    exact w.elim
  | .ok .next, hq => exact hq.elim
  | .ok .brk, hq => exact hq.elim
  | .ok .cont, hq => exact hq.elim
  | .ok (.ret u), hq =>
    obtain ⟨v, H', I3, rv, q3⟩ := I1.after hq
    show wpAny _ _ (handedOut u) _ _ _
    rw [PySem.W.handedOut_of (handed_of rv)]
    exact wpAny_pure ⟨v, H', I3, rv, q3⟩
theorem de_prop {P : Program} {w : World} {base : Heap} {k : Nat} {c m : Str} {C : Addr} {f : List D → M D} {o : Expr} {go : DTE} (Fc : ClsF mg c C) (F : PropOk P w mg base k C m f) (hr : ∀ i, RmG (k + 1) (Xs i).A) (ho : DE Xs mg Wx o go)
    (hP : ∀ j, (Xs j).prog = P ∧ (Xs j).w = w ∧ (Xs j).K = mg.K ∧ (Xs j).mg = mg.mg ∧ (Xs j).base = base := by intro _; exact ⟨rfl, rfl, rfl, rfl, rfl⟩) (hab : ∀ j, attributeBase o m (Xs j).env (eval o (Xs j).env) = eval o (Xs j).env := by intro _; rfl) : DE Xs mg Wx (.Attribute o m pos) (dProp c f go) := by
  obtain ⟨p, fa, fd, ps, hm, hb, hl, G⟩ := F.ex
  obtain ⟨to, o1, o2⟩ := ho
  refine ⟨fun σ H Q => to σ H fun x H1 => ∃ a dx fs, x = .ref a ∧ H1 a = some (.ins C dx fs) ∧ spD mg 1 f [.ref a] H1 Q E0, fun i => ?_, ?_⟩
  · obtain ⟨p1, p2, p3, p4, p5⟩ := hP i
    subst p1 p2 p5
    constructor
    intro pins z σ H Q I hw
    refine attr_of (hab i) (thn ((o1 i).run pins z σ H _ I hw) ?_)
    rintro u z1 ⟨x, H1, I1, rx, a, dx, fs, ex, ea, q⟩
    subst ex
    have eu : u = Value.ref a := rx
    subst eu
    exact getpropG I1 ea (by rw [p3]; exact Fc.cl) (by rw [p3]; exact hm) (by rw [p3, p4]; exact G) (hr i) (by rw [p3]; exact hb) q
  · intro B ρ Q E hf W σ H Q' hh e x q
    refine o2 B ρ _ E hf W σ H _ hh e x fun W1 H1 v d s1 r1 k1 => ?_
    obtain ⟨c', ds, rfl, k1⟩ := insOf k1
    obtain ⟨a, C', dx, fs, rfl, hc, ha, hk, rs⟩ := r1.insI
    obtain ⟨rfl, k2⟩ := k1
    have ec := Fc.eq hc
    subst ec
    exact ⟨a, dx, fs, rfl, s1.holds.same _ _ ha, W1, _, Q, F0, s1.holds, .cons (.ins hc ha hk rs) .nil, rfl, k2, ToV.step q s1, fun _ _ _ _ _ _ _ h => h⟩
/-! ### isinstance with a class of the text -/
/-- what isinstance says of built-in kinds and of the classes cs -/
structure IsiF (mg : Gm) (C : Addr) (cs : List Str) (yes : Str → Bool) : Prop where
  bn : ∀ n ∈ ["NoneType", "bool", "int", "str", "tuple", "list", "dict"], PySem.W.kitOne mg.K (.type n) (.ref C) = some false
  cl : ∀ c ∈ cs, ∃ C', ClsF mg c C' ∧ PySem.W.kitOne mg.K (.ref C') (.ref C) = some (yes c)
def isiD (cs : List Str) (yes : Str → Bool) : D → Option Bool
  | .ins c _ => if c ∈ cs then some (yes c) else none
  | .fz _ => none
  | .cl _ => none
  | .fn _ _ => none
  | _ => some false
abbrev dIsiO (cs : List Str) (yes : Str → Bool) (f : DTE) : DTE := fun ρ Q E => f ρ (fun x => match isiD cs yes x with
  | some b => Q (.bl b)
  | none => False) E
theorem isiD_v {W : Wd} {H : Hp} {C : Addr} {cs : List Str} {yes : Str → Bool} {x : V} {d : D} {b : Bool} (K : IsiF mg C cs yes) (hh : Holds W H) (r : Rep mg W x d) (h : isiD cs yes d = some b) : ∃ t, TyX mg.K H x t ∧ PySem.W.kitOne mg.K t (.ref C) = some b := by
  cases r with
  | @ins a C0 dx fs c ds hc ha hk rs =>
    have h' : (if c ∈ cs then some (yes c) else none) = some b := h
    by_cases hm : c ∈ cs
    · rw [if_pos hm] at h'
      cases h'
      obtain ⟨C', F, hy⟩ := K.cl _ hm
      have ec := F.eq hc
      subst ec
      exact ⟨_, .base (.ins (hh.same _ _ ha) F.cl F.ha F.hn F.htk F.hm), hy⟩
    · rw [if_neg hm] at h'
      cases h'
  | fz _ _ => cases h
  | cl _ => cases h
  | fn _ => cases h
  | non => cases h; exact ⟨_, tyName_v (mg := mg) hh .non rfl, K.bn _ (by decide)⟩
  | bl k => cases h; exact ⟨_, tyName_v (mg := mg) hh (.bl k) rfl, K.bn _ (by decide)⟩
  | int k => cases h; exact ⟨_, tyName_v (mg := mg) hh (.int k) rfl, K.bn _ (by decide)⟩
  | str k => cases h; exact ⟨_, tyName_v (mg := mg) hh (.str k) rfl, K.bn _ (by decide)⟩
  | tup ha rs => cases h; exact ⟨_, tyName_v (mg := mg) hh (.tup ha rs) rfl, K.bn _ (by decide)⟩
  | lst ha rs => cases h; exact ⟨_, tyName_v (mg := mg) hh (.lst ha rs) rfl, K.bn _ (by decide)⟩
  | dct ha hk rs => cases h; exact ⟨_, tyName_v (mg := mg) hh (.dct ha hk rs) rfl, K.bn _ (by decide)⟩
  | tok t => cases h; exact ⟨_, tyName_v (mg := mg) hh (.tok t) rfl, K.bn _ (by decide)⟩
theorem de_isiO {e : Expr} {f : DTE} {c : Str} {C : Addr} {cs : List Str} {yes : Str → Bool} {p p2 : Pos} (h : DE Xs mg Wx e f) (hm : mg.mg "isinstance" = none) (Fc : mg.mg c = some (.ref C)) (K : IsiF mg C cs yes) (hv : bootBuiltins "isinstance" = some (.builtin "isinstance"))
    (hK : ∀ j, (Xs j).K = mg.K := by intro _; rfl) (hM : ∀ j, (Xs j).mg = mg.mg := by intro _; rfl) (hg : ∀ j, Gl (Xs j) "isinstance" := by intro _; rfl) (hgT : ∀ j, Gl (Xs j) c := by intro _; rfl) (hd : (c == ("__debug__" : Str)) = false := by decide)
    (he : ∀ j, starEach [e, .Name c p2] (Xs j).env = (false, eval e (Xs j).env) :: starEach [.Name c p2] (Xs j).env := by intro _; rfl) (he2 : ∀ j, starEach [.Name c p2] (Xs j).env = [(false, eval (.Name c p2) (Xs j).env)] := by intro _; rfl)
    (hpl : ∀ j, (backTo pos (starEach [.Name c p2] (Xs j).env)).any (·.1) = false := by intro _; rfl) : DE Xs mg Wx (.Call (.Name "isinstance" p) [e, .Name c p2] [] pos) (dIsiO cs yes f) := by
  obtain ⟨t, h1, h2⟩ := h
  refine ⟨tCB (rIsi mg.K) (tCons t (tCons (tC (.ref C)) tNil)), fun j => ?_, ?_⟩
  · exact pe_callB (call_isiK2 (hK j)) (hg j) (by rw [hM j]; exact hm) hv (pa_cons (h1 j) (pa_cons (pe_glob (v := .ref C) (hgT j) (by rw [hM j]; exact Fc) rfl hd) pa_nil (he2 j)) (he j)) (by decide) (by decide) (he j) (hpl j)
  · intro B ρ Q E hf W σ H Q' hh e x q
    refine h2 B ρ _ E hf W σ H _ hh e x fun W1 H1 v d s1 r1 k1 => ?_
    dsimp only at k1
    split at k1
    · rename_i b hb
      obtain ⟨ty, hy, hk⟩ := isiD_v K s1.holds r1 hb
      exact ⟨v, .ref C, ty, .ref C, b, rfl, .own C, hy, hk, q W1 H1 _ _ s1 (.bl b) k1⟩
    · exact k1.elim
end
end FP
/-! FP12: what Python asks of own objects by special methods: len, in, ==, str, []. -/
namespace FP
open PySem L2
variable [Tabl]
theorem CX.none {P : Program} {w : World} {out : List PySem.Env} {H : Hp} {z : Shared} {e : Value} {z' : Shared} (h : L2.CX P w out H z E0 e z') : False := by
  obtain ⟨_, _, _, _, _, _, _, _, _, _, _, _, w⟩ := h
  exact w
/-- a callee that raises nothing, at any place -/
theorem callAt0 {X : Cx} {k : Nat} {f : Addr} {fd : FuncData} {ps : List Str} {sp : Sp} {pins : List (Addr × Obj)} {σ : St} {H : Hp} {z : Shared} {Q : VK} {us : List Value} {vs : List V} {E' : Value → Shared → Prop} (F : FnG X.prog X.w X.K X.mg X.base k f fd ps sp) {A' : Around} (m : RmG k A') (hA : A'.frames = X.A.frames)
    (hb : Binds X.K fd ps []) (I : Inv X pins σ H z) (rv : Vals vs us) (h : sp vs H Q E0) : wpAny (model X.prog X.w) A' (call (.ref f) us) (EP X pins σ Q) E' z := by
  have hl : (us ++ []).length = ps.length := by
    rw [List.append_nil, ← rv.length]
    exact F.ln _ _ _ _ h
  have bd := hb z us I.kIn hl
  rw [List.append_nil] at bd
  have e0 := I.env0
  have cd := F.go A' X.stack z H ⟨us, []⟩ us vs Q E0 m ⟨by rw [hA]; exact e0.frames, e0.mod, e0.bs, e0.bsz, e0.funs, e0.frf, e0.hok, e0.bare⟩ bd rv h
  refine wpAny_call (codeAny_mono cd ?_)
  intro res z' hq
  match res, hq with
  | .error e, hq => exact (CX.none hq).elim
  | .ok (.ret u), hq => exact I.after hq
  | .ok .next, hq => exact hq.elim
  | .ok .brk, hq => exact hq.elim
  | .ok .cont, hq => exact hq.elim
/-- a special method of a class: found, a def of the text, with its promise -/
structure SpecOk (P : Program) (w : World) (mg : Gm) (base : Heap) (k : Nat) (C : Addr) (m : Str) (n : Nat) (f : List D → M D) : Prop where
  ex : ∃ fa fd ps, PySem.W.findIn mg.K (.ref C) m = some (some (.ref fa)) ∧ PySem.W.isFn mg.K (.ref fa) = true ∧ PySem.W.fnIn mg.K fa = true ∧ Binds mg.K fd ps [] ∧ ps.length = n ∧ FnG P w mg.K mg.mg base k fa fd ps (spD mg n f)
section
variable {ι : Type} {Xs : ι → Cx} {mg : Gm} {Wx : WX} {pos : Pos} {P : Program} {w : World} {base : Heap} {k : Nat} {c : Str} {C : Addr} {f : List D → M D}
/-- the contexts are those of the module -/
abbrev HPs (Xs : ι → Cx) (P : Program) (w : World) (mg : Gm) (base : Heap) : Prop := ∀ j, (Xs j).prog = P ∧ (Xs j).w = w ∧ (Xs j).K = mg.K ∧ (Xs j).mg = mg.mg ∧ (Xs j).base = base
theorem spD_of {W : Wd} {H : Hp} {Q : D → Prop} {Q' : VK} {vs : List V} {ds : List D} {n : Nat} (hh : Holds W H) (r : Reps mg W vs ds) (hl : ds.length = n) (h : f ds Q F0) (q : ToV mg W H Q Q') : spD mg n f vs H Q' E0 :=
  ⟨W, ds, Q, F0, hh, r, hl, h, q, fun _ _ _ _ _ _ _ h => h⟩
/-! ### len -/
def rdLenM (c : Str) (f : List D → M D) : RDL := fun ds Q => match ds with
  | [.ins c' fs] => c' = c ∧ f [.ins c' fs] (fun d => match d with
    | .int n => (0 ≤ n ∧ n < 2 ^ 63) ∧ Q (.int n)
    | _ => False) F0
  | _ => False
theorem ok_lenM (Fc : ClsF mg c C) (S : SpecOk P w mg base k C "__len__" 1 f) (hr : ∀ j, RmG (k + 1) (Xs j).A) (hP : HPs Xs P w mg base := by intro _; exact ⟨rfl, rfl, rfl, rfl, rfl⟩) : CallOk Xs mg (.builtin "len") (rdLenM c f) := by
  obtain ⟨fa, fd, ps, h1, h2, h3, hb, hl, G⟩ := S.ex
  refine ⟨fun xs H Q => ∃ a dx fs, xs = [.ref a] ∧ H a = some (.ins C dx fs) ∧ spD mg 1 f [.ref a] H (fun v H' => ∃ n : Int, v = .int n ∧ (0 ≤ n ∧ n < 2 ^ 63) ∧ Q (.int n) H') E0, fun j => ?_, ?_⟩
  · obtain ⟨p1, p2, p3, p4, p5⟩ := hP j
    subst p1 p2 p5
    intro pins z σ H xs us Q I rv h
    obtain ⟨a, dx, fs, rfl, ea, hs⟩ := h
    obtain ⟨u, rfl, ru⟩ := vals1 rv
    cases ru
    obtain ⟨mA, O, _⟩ := ins_get I.hok ea
    obtain ⟨od, J, _⟩ := O.look
    obtain ⟨m, hF⟩ := I.fr
    refine PySem.W.len_K hF I.ok.mod.kin J (by rw [p3]; exact h1) (by rw [p3]; exact h2) ?_
    refine wpAny_mono (callAt0 (X := Xs j) (by rw [p3, p4]; exact G) (hr j).in1 rfl (by rw [p3]; exact hb) I (vs := [.ref a]) (.cons (show RelV (.ref _) (.ref _) from rfl) .nil) hs) (fun v z' hv => ?_) fun _ _ q => q
    obtain ⟨x, H', I', rx, n, rfl, hn, hq⟩ := hv
    obtain ⟨t, rfl⟩ := (show ∃ t, v = Value.int n t from rx)
    exact ⟨hn, .int n, H', I'.tok _, ⟨_, rfl⟩, hq⟩
  · intro W H vs ds Q Q' hh r h q
    unfold rdLenM at h
    split at h
    · cases r with
      | cons r rs =>
        cases rs
        cases r with
        | @ins a C' dx fs c' ds hc ha hk rs =>
          obtain ⟨rfl, h⟩ := h
          have ec := Fc.eq hc
          subst ec
          refine ⟨a, dx, fs, rfl, hh.same _ _ ha, spD_of hh (.cons (.ins hc ha hk rs) .nil) rfl h fun W' H' v d s' r' hd => ?_⟩
          cases r' with
          | int n => exact ⟨n, rfl, hd.1, q W' H' _ _ s' (.int n) hd.2⟩
          | _ => exact hd.elim
    · exact h.elim
/-! ### in -/
/-! ### str -/
def rdStrM (c : Str) (f : List D → M D) : RDL := fun ds Q => match ds with
  | [.ins c' fs] => c' = c ∧ f [.ins c' fs] (fun d => match d with
    | .str z => Q (.str z)
    | _ => False) F0
  | _ => False
theorem ok_strM (Fc : ClsF mg c C) (S : SpecOk P w mg base k C "__str__" 1 f) (hr : ∀ j, RmG (k + 2) (Xs j).A) (hP : HPs Xs P w mg base := by intro _; exact ⟨rfl, rfl, rfl, rfl, rfl⟩) : CallOk Xs mg (.type "str") (rdStrM c f) := by
  obtain ⟨fa, fd, ps, h1, h2, h3, hb, hl, G⟩ := S.ex
  refine ⟨fun xs H Q => ∃ a dx fs, xs = [.ref a] ∧ H a = some (.ins C dx fs) ∧ spD mg 1 f [.ref a] H (fun v H' => ∃ n : Str, v = .str n ∧ Q (.str n) H') E0, fun j => ?_, ?_⟩
  · obtain ⟨p1, p2, p3, p4, p5⟩ := hP j
    subst p1 p2 p5
    intro pins z σ H xs us Q I rv h
    obtain ⟨a, dx, fs, rfl, ea, hs⟩ := h
    obtain ⟨u, rfl, ru⟩ := vals1 rv
    cases ru
    obtain ⟨mA, O, _⟩ := ins_get I.hok ea
    obtain ⟨od, J, _⟩ := O.look
    have m2 : RmG k (Xs j).A.in1.in1 := (RmG.in1 (k := k + 1) (hr j)).in1
    refine PySem.W.kso_call m2.r.units0 I.kIn J (by rw [p3]; exact h1) (by rw [p3]; exact h2) ?_
    refine wpAny_mono (callAt0 (X := Xs j) (by rw [p3, p4]; exact G) m2 rfl (by rw [p3]; exact hb) I (vs := [.ref a]) (.cons (show RelV (.ref _) (.ref _) from rfl) .nil) hs) (fun v z' hv => ?_) fun _ _ q => q
    obtain ⟨x, H', I', rx, n, rfl, hq⟩ := hv
    obtain ⟨t, rfl⟩ := (show ∃ t, v = Value.str n t from rx)
    exact ⟨.str n, H', I', ⟨_, rfl⟩, hq⟩
  · intro W H vs ds Q Q' hh r h q
    unfold rdStrM at h
    split at h
    · cases r with
      | cons r rs =>
        cases rs
        cases r with
        | @ins a C' dx fs c' ds hc ha hk rs =>
          obtain ⟨rfl, h⟩ := h
          have ec := Fc.eq hc
          subst ec
          refine ⟨a, dx, fs, rfl, hh.same _ _ ha, spD_of hh (.cons (.ins hc ha hk rs) .nil) rfl h fun W' H' v d s' r' hd => ?_⟩
          cases r' with
          | str n => exact ⟨n, rfl, q W' H' _ _ s' (.str n) hd⟩
          | _ => exact hd.elim
    · exact h.elim
/-! ### == -/
/-- the class does not stand ahead of the other's, for the kinds of values at hand -/
structure EqF (mg : Gm) (C : Addr) (cs : List Str) : Prop where
  bn : ∀ n ∈ ["NoneType", "bool", "int", "str", "tuple", "list", "dict"], PySem.W.notFirst mg.K C (.type n) = true
  cl : ∀ c ∈ cs, ∃ C', ClsF mg c C' ∧ PySem.W.notFirst mg.K C (.ref C') = true
def eqKind (cs : List Str) : D → Prop
  | .ins c _ => c ∈ cs
  | .fz _ => False
  | .cl _ => False
  | .fn _ _ => False
  | _ => True
def rdEqM (cs : List Str) (c : Str) (f : List D → M D) : RD2 := fun x y Q => match x with
  | .ins c' fs => c' = c ∧ eqKind cs y ∧ f [.ins c' fs, y] (fun d => blc d fun b => Q (.bl b)) F0
  | _ => False
/-- the type of a value; frozen dicts too -/
def TyL (K : PySem.W.Frag) (H : Hp) (x : V) (t : Value) : Prop := TyOf K H x t ∨ ∃ a o kvs, x = .ref a ∧ H a = some (.frz o (.dK kvs)) ∧ t = .type "dict"
theorem type_looks0 {X : Cx} {pins : List (Addr × Obj)} {σ : St} {H : Hp} {z : Shared} {x : V} {u t : Value} {M : Model} (I : Inv X pins σ H z) (rx : RelV x u) (ty : TyOf X.K H x t) : PySem.W.Looks M z.heap (typeOf u) t := by
  have ref : ∀ {a : Addr} {o : Obj} {t : Value}, z.heap.get? a = some o → o.cls = t → PySem.W.Looks M z.heap (typeOf (.ref a)) t := fun h1 h2 => h2 ▸ (PySem.W.Looks.ld h1).andThen .now
  cases ty with
  | non => cases rx; exact PySem.W.Looks.of_pure rfl
  | bl b => cases rx; exact PySem.W.Looks.of_pure rfl
  | int i => obtain ⟨t, rfl⟩ := (show ∃ t, u = Value.int i t from rx); exact PySem.W.Looks.of_pure rfl
  | str y => obtain ⟨t, rfl⟩ := (show ∃ t, u = Value.str y t from rx); exact PySem.W.Looks.of_pure rfl
  | flt y => obtain ⟨t, rfl⟩ := (show ∃ t, u = Value.float y t from rx); exact PySem.W.Looks.of_pure rfl
  | @lst a xs ea =>
    cases rx
    obtain ⟨_, _, n, _, h1⟩ := (show ObjOk X.prog X.w H z.heap a (.lst xs) from I.hok a _ ea)
    exact ref h1 rfl
  | @frz a ob xs ea =>
    cases rx
    obtain ⟨_, _, _, n, _, h1⟩ := (show ObjOk X.prog X.w H z.heap a (.frz ob (.lst xs)) from I.hok a _ ea)
    exact ref h1 rfl
  | @tup a xs ea =>
    cases rx
    obtain ⟨_, _, _, o, h1, h2, _⟩ := (show ObjOk X.prog X.w H z.heap a (.tup xs) from I.hok a _ ea)
    exact ref h1 h2
  | @dK a kvs ea =>
    cases rx
    obtain ⟨_, _, vs, _, o, es, ep, h1, h2, _⟩ := (show ObjOk X.prog X.w H z.heap a (.dK kvs) from I.hok a _ ea)
    exact ref h1 h2.1
  | @dT a kvs ea =>
    cases rx
    obtain ⟨_, _, xs, _, o, es, ep, h1, h2, _⟩ := (show ObjOk X.prog X.w H z.heap a (.dT kvs) from I.hok a _ ea)
    exact ref h1 h2.1
  | @ins a C dx fs ea cl ha hn htk hm =>
    cases rx
    obtain ⟨mA, O, _⟩ := ins_get I.hok ea
    obtain ⟨od, J, _⟩ := O.look
    exact J.type
theorem type_looks {X : Cx} {pins : List (Addr × Obj)} {σ : St} {H : Hp} {z : Shared} {x : V} {u t : Value} {M : Model} (I : Inv X pins σ H z) (rx : RelV x u) (ty : TyL X.K H x t) : PySem.W.Looks M z.heap (typeOf u) t := by
  rcases ty with ty | ⟨a, o, kvs, rfl, ea, rfl⟩
  · exact type_looks0 I rx ty
  · cases rx
    obtain ⟨_, hx⟩ := (show ObjOk X.prog X.w H z.heap a (.frz o (.dK kvs)) from I.hok a _ ea)
    obtain ⟨_, _, vs, _, o', es, ep, h1, h2, _⟩ := hx
    exact h2.1 ▸ (PySem.W.Looks.ld h1).andThen .now
/-- the kinds of values that may stand on the other side, with their types -/
theorem eqKind_v {W : Wd} {H : Hp} {C : Addr} {cs : List Str} {x : V} {d : D} (K : EqF mg C cs) (hh : Holds W H) (r : Rep mg W x d) (h : eqKind cs d) : ∃ t, TyL mg.K H x t ∧ PySem.W.notFirst mg.K C t = true := by
  cases r with
  | @ins a C0 dx fs c ds hc ha hk rs =>
    obtain ⟨C', F, hy⟩ := K.cl _ h
    have ec := F.eq hc
    subst ec
    exact ⟨_, .inl (.ins (hh.same _ _ ha) F.cl F.ha F.hn F.htk F.hm), hy⟩
  | fz ha => exact h.elim
  | cl ha => exact h.elim
  | fn ha => exact h.elim
  | non => exact ⟨_, .inl .non, K.bn _ (by decide)⟩
  | bl b => exact ⟨_, .inl (.bl b), K.bn _ (by decide)⟩
  | int b => exact ⟨_, .inl (.int b), K.bn _ (by decide)⟩
  | str b => exact ⟨_, .inl (.str b), K.bn _ (by decide)⟩
  | lst ha rs => exact ⟨_, .inl (.lst (hh.same _ _ ha)), K.bn _ (by decide)⟩
  | tup ha rs => exact ⟨_, .inl (.tup (hh.same _ _ ha)), K.bn _ (by decide)⟩
  | dct ha hk rs => exact ⟨_, .inr ⟨_, _, _, rfl, hh.same _ _ ha, rfl⟩, K.bn _ (by decide)⟩
  | tok t =>
    obtain ⟨_, _, _, _, h2⟩ := hh.tok _ t
    exact ⟨_, .inl (.lst h2), K.bn _ (by decide)⟩
theorem ok_eqM {cs : List Str} (Fc : ClsF mg c C) (S : SpecOk P w mg base k C "__eq__" 2 f) (K : EqF mg C cs) (hr : ∀ j, RmG k (Xs j).A) (hP : HPs Xs P w mg base := by intro _; exact ⟨rfl, rfl, rfl, rfl, rfl⟩) : OpOk Xs mg (compareOp .Eq) (rdEqM cs c f) := by
  obtain ⟨fa, fd, ps, h1, h2, h3, hb, hl, G⟩ := S.ex
  refine ⟨fun x y H Q => ∃ a dx fs t, x = .ref a ∧ H a = some (.ins C dx fs) ∧ TyL mg.K H y t ∧ PySem.W.notFirst mg.K C t = true ∧ spD mg 2 f [.ref a, y] H (fun v H' => ∃ b, v = .bl b ∧ Q (.bl b) H') E0, fun j => ?_, ?_⟩
  · obtain ⟨p1, p2, p3, p4, p5⟩ := hP j
    subst p1 p2 p5
    intro pins z σ H x y v u Q I rx ry h
    obtain ⟨a, dx, fs, t, rfl, ea, ty, hn, hs⟩ := h
    cases rx
    obtain ⟨mA, O, _⟩ := ins_get I.hok ea
    obtain ⟨od, J, _⟩ := O.look
    obtain ⟨m, hF⟩ := I.fr
    refine PySem.W.cmp_K (op := .Eq) (by have := (hr j).r.un; omega) hF I.ok.mod.kin J (type_looks I ry (by rw [p3]; exact ty)) (by rw [p3]; exact hn) (by rw [p3]; exact h1) (by rw [p3]; exact h2) ?_
    refine wpAny_mono (callAt0 (X := Xs j) (by rw [p3, p4]; exact G) (hr j) rfl (by rw [p3]; exact hb) I (vs := [.ref a, y]) (.cons (show RelV (.ref _) (.ref _) from rfl) (.cons ry .nil)) hs) (fun r z' hv => ?_) fun _ _ q => q
    obtain ⟨y, H', I', ry, b, rfl, hq⟩ := hv
    cases ry
    exact ⟨.bl b, H', I', rfl, hq⟩
  · intro W H x y dx dy Q Q' hh rx ry h q
    obtain ⟨c', ds, rfl, h⟩ := insOf h
    obtain ⟨a, C', ax, fs, rfl, hc, ha, hk, rs⟩ := rx.insI
    obtain ⟨rfl, hy, h⟩ := h
    have ec := Fc.eq hc
    subst ec
    obtain ⟨t, ty, hn⟩ := eqKind_v K hh ry hy
    refine ⟨a, ax, fs, t, rfl, hh.same _ _ ha, ty, hn, spD_of hh (.cons (.ins hc ha hk rs) (.cons ry .nil)) rfl h fun W' H' v d s' r' hd => ?_⟩
    cases r' with
    | bl b => exact ⟨b, rfl, q W' H' _ _ s' (.bl b) hd⟩
    | _ => exact hd.elim
/-! ### != by an own == -/
theorem ifBoundS {M : Model} {A : Around} {E : Value → Shared → Prop} {s : Shared} {K : PySem.W.Frag} {x C : Addr} {ox : Obj} {od : Option Obj} {name : Str} {id : String} {args : List Value} {Q : Option Value → Shared → Prop} (X : K.In s.heap) (I : PySem.W.InstAt s.heap x ox C od)
    (hs : PySem.W.findIn K (.ref C) name = some (some (.builtin id))) (hb : ∀ self, bindSpecial (.builtin id) self = pure (.builtin id, [self])) (h : wpAny M A (call (.builtin id) (.ref x :: args)) (fun v => Q (some v)) E s) : wpAny M A (callSpecialIfBound? (.ref x) name args) Q E s := by
  skip
  refine wpAny_holding (wpAny_bind (wpAny_bind (wpAny_bind (I.type.here ((PySem.W.looks_findIn X hs).here ?_)))))
  refine wpAny_bind (wpAny_askSetting (wpAny_ite ?_))
  have fin : wpAny M A (call (.builtin id) ([.ref x] ++ args) >>= fun v => pure (some v)) Q E s := wpAny_bind (wpAny_mono h (fun v s' h' => wpAny_pure h') fun _ _ h' => h')
  split
  · exact wpAny_bind ((PySem.W.Looks.of_pure (hb _)).here (wpAny_pure (by exact fin)))
  · exact wpAny_tryCatch (wpAny_bind ((PySem.W.Looks.of_pure (hb _)).here (wpAny_pure (by exact fin))))
theorem neK {prog : Program} {w : World} {A : Around} {E : Value → Shared → Prop} {s : Shared} {K : PySem.W.Frag} {x C f : Addr} {ox : Obj} {od : Option Obj} {b tb : Value} {Q : Value → Shared → Prop} (hu : A.units + 1 < cLine) (X : K.In s.heap) (I : PySem.W.InstAt s.heap x ox C od)
    (hb : PySem.W.Looks (model prog w) s.heap (typeOf b) tb) (hn : PySem.W.notFirst K C tb = true) (hne : PySem.W.findIn K (.ref C) "__ne__" = some (some (.builtin "object.__ne__"))) (hm : PySem.W.mroIn K C (.type "object") = some true)
    (hs : PySem.W.findIn K (.ref C) "__eq__" = some (some (.ref f))) (hf : PySem.W.isFn K (.ref f) = true)
    (h : wpAny (model prog w) A.in1 (call (.ref f) [.ref x, b]) (fun v s' => ∃ c, v = .bool c ∧ Q (.bool (!c)) s') E s) : wpAny (model prog w) A (richCompare .NotEq (.ref x) b) Q E s := by
  have one : wpAny (model prog w) A (tryCompare (.ref x) (cmpInfo .NotEq).2.1 b) (fun r s' => ∃ v, r = some v ∧ Q v s') E s := by
    unfold tryCompare
    refine wpAny_bind (ifBoundS X I hne PySem.F.cmp_object.ne.bind (wpAny_call (codeAny_call_builtin PySem.F.cmp_object.ne.plain PySem.F.cmpEntry_ne (PySem.W.check_slot (i := "object.__ne__") (owner := "object") (n := "__ne__") PySem.F.cmpKind_ne PySem.F.cmpSplit_ne (I.type.andThen (PySem.W.looks_mroIn X hm)) (PySem.F.cmpArgs_ne _ _) ?_))))
    unfold Builtin.«object.__ne__»
    refine wpAny_bind (m := slotArgs "__ne__" 1 _) (wpAny_pure ?_)
    refine wpAny_bind (m := cRoomFor _ _) (wpAny_cRoomFor hu ?_)
    refine wpAny_bind (m := callSpecialIfBound? (.ref x) (Str.ofString "__eq__") _) (PySem.W.ifBound_K X I hs hf (wpAny_mono h (fun r s' hq => ?_) fun _ _ y => y))
    obtain ⟨c, rfl, hq⟩ := hq
    exact wpAny_bind (wpAny_truthy_bool (wpAny_pure (wpAny_pure ⟨_, rfl, hq⟩)))
  unfold richCompare
  simp only [oneThing_ref]
  refine wpAny_holding (wpAny_bind (wpAny_cRoomFor (Nat.lt_of_succ_lt hu) ?_))
  refine wpAny_bind (I.type.here (wpAny_bind (hb.here ?_)))
  split
  · rename_i q
    have e : PySem.W.subIn K tb (.ref C) = some false := by
      rcases Bool.or_eq_true_iff.mp hn with e | e
      · rw [beq_iff_eq.mp e] at q; simp at q
      · exact beq_iff_eq.mp e
    refine wpAny_bind ((PySem.W.looks_subIn X e).here ?_)
    skip
    refine wpAny_bind (wpAny_mono one (fun r s' z => ?_) fun _ _ e => e)
    obtain ⟨v, rfl, hq⟩ := z
    exact wpAny_pure hq
  · refine wpAny_bind (wpAny_pure ?_)
    skip
    refine wpAny_bind (wpAny_mono one (fun r s' z => ?_) fun _ _ e => e)
    obtain ⟨v, rfl, hq⟩ := z
    exact wpAny_pure hq
def rdNeM (cs : List Str) (c : Str) (f : List D → M D) : RD2 := fun x y Q => match x with
  | .ins c' fs => c' = c ∧ eqKind cs y ∧ f [.ins c' fs, y] (fun d => blc d fun b => Q (.bl (!b))) F0
  | _ => False
theorem ok_neM {cs : List Str} (Fc : ClsF mg c C) (S : SpecOk P w mg base k C "__eq__" 2 f) (K : EqF mg C cs) (hne : PySem.W.findIn mg.K (.ref C) "__ne__" = some (some (.builtin "object.__ne__"))) (hr : ∀ j, RmG (k + 1) (Xs j).A) (hP : HPs Xs P w mg base := by intro _; exact ⟨rfl, rfl, rfl, rfl, rfl⟩) : OpOk Xs mg (compareOp .NotEq) (rdNeM cs c f) := by
  obtain ⟨fa, fd, ps, h1, h2, h3, hb, hl, G⟩ := S.ex
  refine ⟨fun x y H Q => ∃ a dx fs t, x = .ref a ∧ H a = some (.ins C dx fs) ∧ TyL mg.K H y t ∧ PySem.W.notFirst mg.K C t = true ∧ spD mg 2 f [.ref a, y] H (fun v H' => ∃ b, v = .bl b ∧ Q (.bl (!b)) H') E0, fun j => ?_, ?_⟩
  · obtain ⟨p1, p2, p3, p4, p5⟩ := hP j
    subst p1 p2 p5
    intro pins z σ H x y v u Q I rx ry h
    obtain ⟨a, dx, fs, t, rfl, ea, ty, hn, hs⟩ := h
    cases rx
    obtain ⟨mA, O, _⟩ := ins_get I.hok ea
    obtain ⟨od, J, _⟩ := O.look
    have kin := I.kIn
    rw [p3] at kin
    refine neK (by have := (hr j).r.un; omega) kin J (type_looks I ry (by rw [p3]; exact ty)) hn hne Fc.hm h1 h2 ?_
    refine wpAny_mono (callAt0 (X := Xs j) (by rw [p3, p4]; exact G) (hr j).in1 rfl (by rw [p3]; exact hb) I (vs := [.ref a, y]) (.cons (show RelV (.ref _) (.ref _) from rfl) (.cons ry .nil)) hs) (fun r z' hv => ?_) fun _ _ q => q
    obtain ⟨y, H', I', ry, b, rfl, hq⟩ := hv
    cases ry
    exact ⟨b, rfl, .bl (!b), H', I', rfl, hq⟩
  · intro W H x y dx dy Q Q' hh rx ry h q
    obtain ⟨c', ds, rfl, h⟩ := insOf h
    obtain ⟨a, C', ax, fs, rfl, hc, ha, hk, rs⟩ := rx.insI
    obtain ⟨rfl, hy, h⟩ := h
    have ec := Fc.eq hc
    subst ec
    obtain ⟨t, ty, hn⟩ := eqKind_v K hh ry hy
    refine ⟨a, ax, fs, t, rfl, hh.same _ _ ha, ty, hn, spD_of hh (.cons (.ins hc ha hk rs) (.cons ry .nil)) rfl h fun W' H' v d s' r' hd => ?_⟩
    cases r' with
    | bl b => exact ⟨b, rfl, q W' H' _ _ s' (.bl _) hd⟩
    | _ => exact hd.elim
end
end FP
/-! FP13: sets of texts: set(list of texts), sorted(set(..)), len(set(..)). -/
namespace FP
open PySem L2 PySem.Spec PyProof.Rows
variable [Tabl]
def keyS (e : Int × Value) : Str := match e.2 with
  | .str k _ => k
  | _ => Str.empty
def GoodS (w : World) (e : Int × Value) : Prop := ∃ k tk, e.2 = Value.str k tk ∧ e.1 = hashStr w k
/-- the set of texts at a has the members of M; its table can be walked -/
def SetS (w : World) (h : Heap) (a : Addr) (M : List Str) : Prop :=
  ∃ o es ep t, h.get? a = some o ∧ o.ExactSet ∧ o.data = .set es ep t ∧ (∀ e ∈ es.toList, GoodS w e) ∧ (es.toList.map keyS).Nodup ∧ (∀ k, k ∈ M ↔ k ∈ es.toList.map keyS) ∧
    es.size < scanBound ∧ t.fits es.size = true ∧ es.size ≤ M.length ∧ Ris t.place.toList ∧ (w.params.followText "set-order" = true ∨ t.led = true)
section
variable {P : Program} {w : World} {h h' : Heap} {a : Addr} {M : List Str}
theorem SetS.at (R : SetS w h a M) (k : ∀ o, h.get? a = some o → h'.get? a = some o) : SetS w h' a M := by
  obtain ⟨o, es, ep, t, ho, r⟩ := R
  exact ⟨o, es, ep, t, k o ho, r⟩
theorem goodS_elems {l : List (Int × Value)} (g : ∀ e ∈ l, GoodS w e) : ElemsOf (PySem.strKind P w) l := fun e he => by
  obtain ⟨k, tk, h1, h2⟩ := g e he
  exact ⟨⟨k, by rw [h1]; exact strKind_is P w k tk, h2⟩, by rw [h1] <;> rfl⟩
theorem goodS_is {e : Int × Value} (g : GoodS w e) (k : Str) : (PySem.strKind P w).is k e.2 = true ↔ keyS e = k := by
  obtain ⟨k0, tk, h1, _⟩ := g
  unfold keyS
  rw [h1]
  constructor
  · intro q
    obtain ⟨t, e⟩ := Value.isStrOf_shape (x := k) (v := .str k0 tk) q
    injection e
  · intro q
    have q' : k0 = k := q
    rw [q']
    exact strKind_is P w k tk
theorem goodS_mem {l : List (Int × Value)} (g : ∀ e ∈ l, GoodS w e) (k : Str) : k ∈ l.map keyS ↔ ∃ e ∈ l, (PySem.strKind P w).is k e.2 = true := by
  rw [List.mem_map]
  constructor
  · rintro ⟨e, he, q⟩
    exact ⟨e, he, (goodS_is (g e he) k).2 q⟩
  · rintro ⟨e, he, q⟩
    exact ⟨e, he, (goodS_is (g e he) k).1 q⟩
end
section
variable {P : Program} {w : World} {A : Around} {E : Value → Shared → Prop} {s : Shared} {a : Addr} {M : List Str}
theorem setS_tail {g : Bool → Sem Unit} (hg : ∀ (b : Bool) (s₁ : Shared) (Q' : Unit → Shared → Prop), Q' () s₁ → wpAny (model P w) A (g b) Q' E s₁)
    {o : Obj} {es : Array (Int × Value)} {ep : Nat} {t : SetTable} (ho : s.heap.get? a = some o) (hex : o.ExactSet) (hd : o.data = .set es ep t)
    {es1 : Array (Int × Value)} {t2 : SetTable} {M' : List Str} (g1 : ∀ e ∈ es1.toList, GoodS w e) (nd1 : (es1.toList.map keyS).Nodup) (m1 : ∀ k, k ∈ M' ↔ k ∈ es1.toList.map keyS)
    (hb1 : es1.size < scanBound) (hf2 : t2.fits es1.size = true) (hz : es1.size ≤ M'.length) (hr : Ris t2.place.toList) (hl : w.params.followText "set-order" = true ∨ t2.led = true) {wasDummy : Bool} {R : Option Bool → Shared → Prop}
    (hR : ∀ h', Heap.SameBut a s.heap h' → SetS w h' a M' → R (some true) { s with heap := h' }) :
    wpAny (model P w) A (do
        storeSet a es1 t2
        if (!wasDummy && t2.tooFull) = true then do
            g (relayAll t2 es1 (SetTable.grown es1.size)).2.2
            storeSet a (relayAll t2 es1 (SetTable.grown es1.size)).1 (relayAll t2 es1 (SetTable.grown es1.size)).2.1
            pure (some true)
          else pure (some true)) R E s := by
  refine wpAny_bind (wpAny_storeSet_of ho hd ?_ (fits_of_scanBound hb1))
  have ho1 := store_at (es' := es1) (t' := t2) ho hd
  have sb1 := Heap.SameBut.update s.heap a (Obj.putSet es1 t2)
  split
  · have pm := relayAll_perm t2 es1 (SetTable.grown es1.size)
    have hf3 := relayAll_fits t2 es1 (SetTable.grown es1.size)
    have hr3 := relayAll_ris t2 es1 (SetTable.grown es1.size)
    have hl3 := relayAll_led t2 es1 (SetTable.grown es1.size)
    generalize relayAll t2 es1 (SetTable.grown es1.size) = Z at pm hf3 hr3 hl3 ⊢
    obtain ⟨es2, t3, gave⟩ := Z
    dsimp only at pm hf3 hr3 hl3 ⊢
    have hsz : es2.size = es1.size := by rw [← Array.length_toList, pm.length_eq, Array.length_toList]
    have hb2 : es2.size < scanBound := by rw [hsz]; exact hb1
    refine wpAny_bind (hg _ _ _ ?_)
    refine wpAny_bind (wpAny_storeSet_of ho1 rfl ?_ (fits_of_scanBound hb2))
    have ho2 := store_at (es' := es2) (t' := t3) ho1 rfl
    refine wpAny_pure (hR _ (sb1.trans (Heap.SameBut.update _ a _)) ?_)
    exact ⟨_, es2, _, t3, ho2, hex, rfl, fun e he => g1 e (pm.mem_iff.mp he), (pm.map keyS).nodup_iff.mpr nd1, fun k => (m1 k).trans (pm.map keyS).mem_iff.symm, hb2, hf3, by rw [hsz]; exact hz, hr3,
      hl.imp id fun z => by rw [hl3]; exact z⟩
  · exact wpAny_pure (hR _ sb1 ⟨_, es1, _, t2, ho1, hex, rfl, g1, nd1, m1, hb1, hf2, hz, hr, hl⟩)
theorem setS_add_hashed {k : Str} {tk : Tok} {Q : Bool → Shared → Prop} (R : SetS w s.heap a M) (room : M.length + 1 < scanBound)
    (hQ : ∀ b h', Heap.SameBut a s.heap h' → SetS w h' a (M ++ [k]) → Q b { s with heap := h' }) :
    wpAny (model P w) A (setAddHashed a (.str k tk) ((PySem.strKind P w).hash k)) Q E s := by
  obtain ⟨o, es, ep, t, ho, hex, hd, g, nd, hm, hb, hf, hn, hr, hl⟩ := R
  have hkey : (PySem.strKind P w).is k (.str k tk) = true := strKind_is P w k tk
  have hsc : (Value.str k tk).scannable = true := rfl
  have hel : ElemsOf (PySem.strKind P w) es.toList := goodS_elems g
  unfold setAddHashed setAddHashedIn
  refine wpAny_holding (wpAny_bind (wpAny_setState_of ho hd hf ?_))
  dsimp only
  rw [byScan_of hsc hb hel]
  simp only [↓reduceIte]
  unfold setAddByScan
  refine wpAny_bind ?_
  refine wpAny_bind (wpAny_rule ?_)
  refine wpAny_bind (wpAny_setScan_of hkey ho hd hf hel ?_)
  cases hfi : List.findIdx? (fun e => (PySem.strKind P w).is k e.2) es.toList with
  | some j =>
    dsimp only
    obtain ⟨hj, pj, _⟩ := List.findIdx?_eq_some_iff_getElem.mp hfi
    have hSk : k ∈ M := (hm k).2 ((goodS_mem (P := P) (w := w) g k).2 ⟨es.toList[j], List.getElem_mem hj, pj⟩)
    refine wpAny_pure (wpAny_pure ?_)
    exact hQ _ s.heap (Heap.SameBut.refl a s.heap) ⟨o, es, ep, t, ho, hex, hd, g, nd, fun i => by
      rw [List.mem_append, List.mem_singleton, ← hm i]
      exact ⟨fun z => z.elim id (fun e => e ▸ hSk), .inl⟩, hb, hf, by rw [List.length_append]; omega, hr, hl⟩
  | none =>
    dsimp only
    have hnk : k ∉ es.toList.map keyS := fun z => by
      obtain ⟨e, he, q⟩ := (goodS_mem (P := P) (w := w) g k).1 z
      have c := List.findIdx?_eq_none_iff.mp hfi e he
      rw [q] at c
      cases c
    have hgw : ∀ (b : Bool) {s₁ : Shared} {Q' : Unit → Shared → Prop}, Q' () s₁ → wpAny (model P w) A (match b with | true => rule "set.scan.the-table-gave-way" | false => pure ()) Q' E s₁ :=
      fun b s₁ Q' q => by cases b <;> first | exact wpAny_pure q | exact wpAny_rule q
    have pm := layNew_perm t es ((PySem.strKind P w).hash k) (.str k tk)
    have hf1 := layNew_fits t es ((PySem.strKind P w).hash k) (.str k tk)
    have hr1 := layNew_ris t es ((PySem.strKind P w).hash k) (.str k tk) hr
    have hl1 := layNew_led t es ((PySem.strKind P w).hash k) (.str k tk)
    generalize layNew t es ((PySem.strKind P w).hash k) (.str k tk) = Z at pm hf1 hr1 hl1 ⊢
    obtain ⟨es1, t1, wasDummy, gave⟩ := Z
    dsimp only at pm hf1 hr1 hl1 ⊢
    rw [Array.toList_push] at pm
    have pc : es1.toList.Perm (((PySem.strKind P w).hash k, Value.str k tk) :: es.toList) := pm.trans (List.perm_append_singleton _ _)
    have pk : (es1.toList.map keyS).Perm (k :: es.toList.map keyS) := pc.map keyS
    have g1 : ∀ e ∈ es1.toList, GoodS w e := fun e he => by
      rcases List.mem_cons.mp (pc.mem_iff.mp he) with z | z
      · rw [z]; exact ⟨k, tk, rfl, rfl⟩
      · exact g e z
    have nd1 : (es1.toList.map keyS).Nodup := pk.nodup_iff.mpr (List.nodup_cons.mpr ⟨hnk, nd⟩)
    have m1 : ∀ i, i ∈ M ++ [k] ↔ i ∈ es1.toList.map keyS := fun i => by
      rw [List.mem_append, List.mem_singleton, hm i, pk.mem_iff, List.mem_cons]
      exact Or.comm
    have hsz : es1.size = es.size + 1 := by rw [← Array.length_toList, pc.length_eq, List.length_cons, Array.length_toList]
    have hb1 : es1.size < scanBound := by rw [hsz]; omega
    have hzz : es1.size ≤ (M ++ [k]).length := by rw [hsz, List.length_append]; simp; exact hn
    have hled : w.params.followText "set-order" = true ∨ t1.led = true := hl.imp id fun z => by rw [hl1]; exact z
    refine wpAny_bind (hgw _ ?_)
    split
    · refine wpAny_bind ?_
      rw [hashByValue_scannable 8 hsc]
      refine wpAny_pure ?_
      refine setS_tail (M' := M ++ [k]) ?_ ho hex hd g1 nd1 m1 hb1 ?_ hzz ?_ ?_ ?_
      · intro b s₁ Q' q; cases b <;> first | exact wpAny_pure q | exact wpAny_rule q
      · first | (split <;> first | exact hf1 | exact SetTable.fits_plain_off hf1) | exact hf1
      · first | (split <;> exact hr1) | exact hr1
      · first | (split <;> exact hled) | exact hled
      · intro h' sb r; dsimp only; exact wpAny_pure (hQ _ h' sb r)
    · refine wpAny_bind (wpAny_pure ?_)
      skip
      refine setS_tail (M' := M ++ [k]) ?_ ho hex hd g1 nd1 m1 hb1 hf1 hzz hr1 hled ?_
      · intro b s₁ Q' q; cases b <;> first | exact wpAny_pure q | exact wpAny_rule q
      · intro h' sb r; dsimp only; exact wpAny_pure (hQ _ h' sb r)
end
/-! ### set(list of texts) -/
theorem strsAt : ∀ {us : List Value} {xs : List Str}, StrsAre us xs → ∀ (i : Nat) (v : Value), us[i]? = some v → ∃ t, v = .str (xs.getD i Str.empty) t
  | _, _, .nil, i, v, h => by simp at h
  | _, _, .cons n t hr, 0, v, h => by simp at h; exact ⟨t, by rw [← h]; rfl⟩
  | _, _, .cons n t hr, i + 1, v, h => by
    simp only [List.getElem?_cons_succ] at h
    obtain ⟨t', e⟩ := strsAt hr i v h
    exact ⟨t', by rw [e]; rfl⟩
section
variable {prog : Program} {w : World} {A : Around} {R : Result → Shared → Prop} {I : Addr} {fp wr : List Addr} {G : Array GenState → Array GenState → Prop} {n : Nat} {P : Nat → Value → Prop} {St : Nat → Shared → Prop}
theorem loopS (W : WalksS prog w A.in1 I fp wr G n P St) (S : Addr) (hSf : S ∉ fp) (xs : List Str) (hsz : xs.length = n) (hb : n + 1 < scanBound)
    (hval : ∀ i v, P i v → ∃ t, v = .str (xs.getD i Str.empty) t) :
    ∀ (k i : Nat) (s : Shared), n - i = k → i ≤ n → St i s → SetS w s.heap S (xs.take i) →
      (∀ s', Moved (S :: wr) G s s' → SetS w s'.heap S xs → R (.ok (.ret .none)) s') →
      codeAny (model prog w) A (.builtin "set.update.loop" ⟨[.ref S, .ref I], []⟩) R s := by
  have hSw : S ∉ wr := fun h => hSf (W.sub _ h)
  have hsub : ∀ b ∈ wr, b ∈ S :: wr := fun b hb => List.mem_cons_of_mem _ hb
  intro k
  induction k with
  | zero =>
    intro i s hk hi hst hS hR
    have hin : i = n := by omega
    subst hin
    refine codeAny_builtin PyProof.Rows.F.entry_set_update_loop ?_
    rw [Around.under_plainId PyProof.Rows.F.plain_set_update_loop _]
    show wpAny _ A.in1 (pyNext (.ref I) >>= _) _ _ s
    refine wpAny_bind (W.done s _ _ hst fun s' hm => ?_)
    show wpAny _ A.in1 (ret Value.none) _ _ s'
    rw [List.take_of_length_le (by omega)] at hS
    exact wpAny_pure (hR s' (hm.mono hsub) (hS.at fun o e => hm.heap S o hSw e))
  | succ k ih =>
    intro i s hk hi hst hS hR
    have hlt : i < n := by omega
    refine codeAny_builtin PyProof.Rows.F.entry_set_update_loop ?_
    rw [Around.under_plainId PyProof.Rows.F.plain_set_update_loop _]
    show wpAny _ A.in1 (pyNext (.ref I) >>= _) _ _ s
    refine wpAny_bind (W.item i s _ _ hlt hst fun v s' hP hst' hm => ?_)
    obtain ⟨t, rfl⟩ := hval i v hP
    have hS' := hS.at (h' := s'.heap) fun o e => hm.heap S o hSw e
    show wpAny _ A.in1 (holding [Value.str (xs.getD i Str.empty) t] (setAdd S (.str (xs.getD i Str.empty) t)) >>= _) _ _ s'
    refine wpAny_bind (wpAny_holding ?_)
    unfold setAdd
    refine wpAny_holding ?_
    refine wpAny_bind ((PySem.strKind prog w).pyHash (k := xs.getD i Str.empty) (strKind_is _ _ _ _) ?_)
    refine setS_add_hashed (s := { s' with toks := s'.toks + 1 }) hS' (by rw [List.length_take]; omega) fun b h' hsb hS2 => ?_
    have e1 : xs.take i ++ [xs.getD i Str.empty] = xs.take (i + 1) := by
      rw [List.take_add_one, List.getElem?_eq_getElem (by omega), List.getD_eq_getElem?_getD, List.getElem?_eq_getElem (by omega)]
      rfl
    rw [e1] at hS2
    refine wpAny_pure ⟨plainId_quiet PyProof.Rows.F.plain_set_update_loop _, ih (i + 1) _ (by omega) hlt (W.frame _ s' _ _ hst' (Nat.le_succ _) fun b hb o e => ?_) hS2 fun s'' hm'' hS'' => ?_⟩
    · rw [hsb.2 b (fun h : b = S => hSf (by rw [← h]; exact hb))]; exact e
    · refine hR s'' (Moved.trans W.gtrans ((hm.mono hsub).then_heap (Nat.le_succ _) fun b o hb e => ?_) hm'') hS''
      rw [hsb.2 b (fun h : b = S => hb (by rw [h]; exact List.mem_cons_self))]; exact e
end
section
variable {prog : Program} {w : World} {A : Around} {E : Value → Shared → Prop} {s : Shared}
theorem setNew_led (a : Value) {Q₁ : Value → Shared → Prop}
    (h : Q₁ (.ref s.heap.objs.size) { s with heap := s.heap.push { cls := .type "set", dict := none, data := .set #[] 0 (.fresh 0 0 (!w.params.followText "set-order")) } }) :
    codeAny (model prog w) A (.call (.builtin "set.__new__") ⟨[.type "set", a], []⟩) (wants Q₁ E) s := by
  refine codeAny_of_tree ?_
  show wpAny _ A.in1 (do checkBuiltinCall "set.__new__" ⟨[.type "set", a], []⟩; again (.builtin "set.__new__" ⟨[.type "set", a], []⟩)) _ _ s
  refine wpAny_bind (wpAny_of_eq (PySem.F.newCall_set_1 a) (wpAny_pure ⟨plainId_quiet PySem.F.plain_set_new _, codeAny_builtin PySem.F.entry_set_new ?_⟩))
  rw [Around.under_plainId PySem.F.plain_set_new _]
  unfold Builtin.«set.__new__» Builtin.Frozenset.newClass
  have hsub := sub_set_self
  obtain ⟨hp, g, d, tk, os⟩ := s
  dsimp only
  wp_walk
  refine wpAny_askSetting (wpAny_pure ?_)
  dsimp only
  skip
  refine wpAny_bind (wpAny_alloc (wpAny_pure ?_))
  exact wpAny_pure h
theorem setS_fresh {h : Heap} (w : World) : SetS w (h.push { cls := .type "set", dict := none, data := .set #[] 0 (.fresh 0 0 (!w.params.followText "set-order")) }) h.objs.size [] :=
  ⟨_, #[], 0, _, Heap.get?_push_size _ rfl, ⟨rfl, rfl, rfl⟩, rfl, (fun e he => by simp at he), (by simp), (fun k => by simp), (by decide), (by rfl), Nat.le_refl _, List.Pairwise.nil, by
    show _ ∨ (!w.params.followText "set-order") = true
    cases w.params.followText "set-order"
    · exact .inr rfl
    · exact .inl rfl⟩
theorem setS_list {l : Addr} {items : Array Value} {xs : List Str} {Q : Value → Shared → Prop}
    (hh : A.handled = none) (hl : s.heap.IsList l items) (hi : PyProof.Rows.StrsAre items.toList xs) (hb : xs.length + 1 < scanBound)
    (h : ∀ (h' : Heap) (tk : Nat), SetS w h' s.heap.objs.size xs → (∀ b o, b < s.heap.objs.size → s.heap.get? b = some o → h'.get? b = some o) → Q (.ref s.heap.objs.size) { s with heap := h', toks := tk }) :
    wpAny (model prog w) A (call (.type "set") [.ref l]) Q E s := by
  obtain ⟨c, tl, hmro⟩ := PySem.F.called_set.mro
  have hmade := PySem.F.called_set.made
  have hsub := PySem.F.called_set.sub
  refine wpAny_call (codeAny_of_tree ?_)
  show wpAny _ _ (callAny (.type "set") _) _ _ _
  refine wpAny_pure ⟨Code.quiet_builtin _ (by decide +kernel), codeAny_builtin PySem.F.entry_type_call ?_⟩
  rw [Around.under_plain (weight_type_call_type "set" [.ref l] []) rfl]
  have h1 := PySem.F.called_set.notType
  have h2 := PySem.F.called_set.canCreate
  have hct := PySem.F.typeCall_set_1 (.ref l)
  repeat (any_goals (first | assumption | wp_step))
  generalize hled : (!w.params.followText "set-order") = led
  refine codeAny_mono (setNew_led (.ref l) (E := E) (Q₁ := fun obj s₁ => obj = .ref s.heap.objs.size ∧ s₁ = { s with heap := s.heap.push { cls := .type "set", dict := none, data := .set #[] 0 (.fresh 0 0 led) } }) (by rw [hled]; exact ⟨rfl, rfl⟩)) fun r s₁ hr => ?_
  cases r with
  | error e => exact hr
  | ok fl =>
    cases fl with
    | ret obj =>
      obtain ⟨rfl, rfl⟩ := hr
      have hS : (s.heap.push { cls := .type "set", dict := none, data := .set #[] 0 (.fresh 0 0 led) }).get? s.heap.objs.size = some { cls := .type "set", dict := none, data := .set #[] 0 (.fresh 0 0 led) } := Heap.get?_push_size _ rfl
      have hT : Shared.TypeIs { s with heap := s.heap.push { cls := .type "set", dict := none, data := .set #[] 0 (.fresh 0 0 led) } } (.ref s.heap.objs.size) "set" := ⟨_, hS, rfl⟩
      have hli := PySem.F.called_set.init.lookup
      have hbi := PySem.F.called_set.init.bind (.ref s.heap.objs.size)
      repeat (any_goals (first | assumption | wp_step))
      refine codeAny_mono (codeAny_call_builtin (R := wants (fun r s₂ => r = .none ∧ ∃ h' tk, s₂ = { s with heap := h', toks := tk } ∧
          SetS w h' s.heap.objs.size xs ∧ (∀ b o, b < s.heap.objs.size → s.heap.get? b = some o → h'.get? b = some o)) E) PySem.F.called_set.init.plain PySem.F.entry_set_init (check_set_init_1 hT ?_)) fun r₂ s₂ hr₂ => ?_
      · obtain ⟨ol, hol, hcl, nl, hdl⟩ := hl
        obtain ⟨ocls, odict, odata, oslots⟩ := ol
        simp only at hcl hdl
        subst hcl; subst hdl
        have hol' : (s.heap.push { cls := .type "set", dict := none, data := .set #[] 0 (.fresh 0 0 led) }).get? l = some { cls := .type "list", dict := odict, data := .seq items nl, slots := oslots } := Heap.get?_push_of_some _ hol
        have hsls := PySem.F.sub_list_set
        have hslf := PySem.F.sub_list_frozenset
        have hne : (Value.type "list" == Value.type "dict") = false := by decide
        have hl1 : (s.heap.push { cls := .type "set", dict := none, data := .set #[] 0 (.fresh 0 0 led) }).IsList l items := ⟨_, hol', rfl, nl, rfl⟩
        unfold Builtin.«set.__init__» noKeywords Builtin.Frozenset.updateFrom
        generalize hPI : pyIter = PI
        wp_walk
        subst hPI
        refine wpAny_pyIter_list hl1 ?_
        refine wpAny_bind (wpAny_runValue ?_)
        have hlS : l < s.heap.objs.size := Heap.lt_size hol
        have hh3 : A.in1.in1.in1.handled = none := by simp [hh]
        have hneI : l ≠ (s.heap.push { cls := .type "set", dict := none, data := .set #[] 0 (.fresh 0 0 led) }).objs.size := by
          rw [Heap.size_push]; exact Nat.ne_of_lt (Nat.lt_succ_of_lt hlS)
        have hSf : s.heap.objs.size ∉ [(s.heap.push { cls := .type "set", dict := none, data := .set #[] 0 (.fresh 0 0 led) }).objs.size, l] := by
          rw [Heap.size_push]; simp only [List.mem_cons, List.mem_singleton, List.not_mem_nil, or_false, not_or]
          exact ⟨Nat.ne_of_lt (Nat.lt_succ_self _), Nat.ne_of_gt hlS⟩
        have hsz : xs.length = items.size := by rw [← StrsAre.len_eq hi, Array.length_toList]
        have hval : ∀ (i : Nat) (v : Value), items[i]? = some v → ∃ t, v = .str (xs.getD i Str.empty) t := fun i v hv => strsAt hi i v (by rw [Array.getElem?_toList]; exact hv)
        refine loopS ((Walks.list hh3 _ l hneI items).toS) s.heap.objs.size
          hSf xs hsz (by rw [← hsz]; exact hb) hval (items.size - 0) 0 _ (by omega) (Nat.zero_le _)
          ⟨⟨_, Heap.get?_push_size _ rfl, rfl, rfl⟩, (hl1.push _)⟩ ?hS0 ?hR
        case hS0 =>
          rw [List.take_zero, ← hled]
          exact (setS_fresh w).at fun o e => Heap.get?_push_of_some _ e
        case hR =>
          intro s' hm hS'
          obtain ⟨h', g', d', tk', os'⟩ := s'
          have eg : g' = s.gens := hm.gens
          have ed : d' = s.drawn := hm.drawn
          have eo : os' = s.os := hm.os
          subst eg; subst ed; subst eo
          show wpAny _ _ _ _ _ _
          refine wpAny_pure ?_
          show wpAny _ _ (ret Value.none) _ _ _
          refine wpAny_pure ⟨rfl, h', tk', rfl, hS', fun b o hb e => ?_⟩
          have hb1 : b ≠ s.heap.objs.size := Nat.ne_of_lt hb
          have hb2 : b ≠ (s.heap.push { cls := .type "set", dict := none, data := .set #[] 0 (.fresh 0 0 led) }).objs.size := by
            rw [Heap.size_push]; exact Nat.ne_of_lt (Nat.lt_succ_of_lt hb)
          exact hm.heap b o (by simp only [List.mem_cons, List.mem_singleton, List.not_mem_nil, or_false, not_or]; exact ⟨hb1, hb2⟩) (Heap.get?_push_of_some _ (Heap.get?_push_of_some _ e))
      · cases r₂ with
        | error e => exact hr₂
        | ok fl₂ =>
          cases fl₂ with
          | ret r =>
            obtain ⟨rfl, h', tk, rfl, hS', hk'⟩ := hr₂
            repeat (any_goals (first | assumption | wp_step))
            exact h _ _ hS' hk'
          | _ => exact hr₂.elim
    | _ => exact hr.elim
end
end FP
/-! FP14: the order of texts; sorted(texts), sorted(set(texts)), len(set(texts)). -/
namespace FP
open PySem L2 PySem.Spec PyProof.Rows
variable [Tabl]
/-! ### the order of texts, pure -/
abbrev ltS (a b : Str) : Bool := ltCps a.cps.toList b.cps.toList
theorem ltS_iff {a b : Str} : ltS a b = true ↔ a.cps.toList < b.cps.toList := by
  unfold ltS
  rw [ltCps_eq]
  exact decide_eq_true_iff
theorem ltS_irrefl (a : Str) : ltS a a = false := by
  cases q : ltS a a with
  | false => rfl
  | true => exact (List.lt_irrefl _ (ltS_iff.mp q)).elim
theorem ltS_trans {a b c : Str} (h : ltS a b = true) (g : ltS b c = true) : ltS a c = true := ltS_iff.mpr (List.lt_trans (ltS_iff.mp h) (ltS_iff.mp g))
theorem str_of_list {a b : Str} (h : a.cps.toList = b.cps.toList) : a = b := by
  cases a; cases b
  simp only [Str.mk.injEq]
  exact Array.toList_inj.mp h
theorem ltS_tri {a b : Str} (h : ltS a b = false) (g : ltS b a = false) : a = b := by
  have h1 : ¬ a.cps.toList < b.cps.toList := fun z => by rw [ltS_iff.mpr z] at h; cases h
  have h2 : ¬ b.cps.toList < a.cps.toList := fun z => by rw [ltS_iff.mpr z] at g; cases g
  exact str_of_list (List.le_antisymm (List.not_lt.mp h2) (List.not_lt.mp h1))
theorem ltS_asym {a b : Str} (h : ltS a b = true) : ltS b a = false := by
  cases q : ltS b a with
  | false => rfl
  | true => have := ltS_trans h q; rw [ltS_irrefl] at this; cases this
theorem geS_trans {a b c : Str} (h : ltS b a = false) (g : ltS c b = false) : ltS c a = false := by
  cases q : ltS c a with
  | false => rfl
  | true =>
    by_cases e : a = b
    · rw [e] at q; rw [q] at g; cases g
    · have : ltS a b = true := by
        cases z : ltS a b with
        | true => rfl
        | false => exact (e (ltS_tri z h)).elim
      rw [ltS_trans q this] at g
      cases g
abbrev UpS (l : List Str) : Prop := l.Pairwise (fun a b => ltS b a = false)
theorem risingS_up : ∀ (l : List Str) (p : Str), risingS p l = true → (∀ x ∈ l, ltS x p = false) ∧ UpS l
  | [], p, _ => ⟨(fun x h => by cases h), List.Pairwise.nil⟩
  | y :: r, p, h => by
    have h' : (!ltS y p && risingS y r) = true := h
    rw [Bool.and_eq_true, Bool.not_eq_true'] at h'
    obtain ⟨i1, i2⟩ := risingS_up r y h'.2
    refine ⟨fun x hx => ?_, List.pairwise_cons.mpr ⟨i1, i2⟩⟩
    cases hx with
    | head => exact h'.1
    | tail _ hx => exact geS_trans h'.1 (i1 x hx)
theorem sortedS_up {l : List Str} (h : sortedS l = true) : UpS l := by
  cases l with
  | nil => exact .nil
  | cons x r =>
    obtain ⟨i1, i2⟩ := risingS_up r x h
    exact List.pairwise_cons.mpr ⟨i1, i2⟩
def insS (x : Str) : List Str → List Str
  | [] => [x]
  | y :: r => if ltS y x then y :: insS x r else x :: y :: r
def sortS : List Str → List Str
  | [] => []
  | x :: r => insS x (sortS r)
theorem insS_perm (x : Str) : ∀ l, (insS x l).Perm (x :: l)
  | [] => .refl _
  | y :: r => by
    unfold insS
    split
    · exact ((insS_perm x r).cons y).trans (.swap ..)
    · exact .refl _
theorem sortS_perm : ∀ l, (sortS l).Perm l
  | [] => .refl _
  | x :: r => (insS_perm x _).trans ((sortS_perm r).cons x)
theorem insS_up {x : Str} : ∀ {l}, UpS l → UpS (insS x l)
  | [], _ => List.pairwise_singleton _ _
  | y :: r, h => by
    obtain ⟨h1, h2⟩ := List.pairwise_cons.mp h
    unfold insS
    split
    · rename_i q
      refine List.pairwise_cons.mpr ⟨fun z hz => ?_, insS_up h2⟩
      rcases List.mem_cons.mp ((insS_perm x r).mem_iff.mp hz) with e | e
      · rw [e]; exact ltS_asym q
      · exact h1 z e
    · rename_i q
      have q' : ltS y x = false := by simpa using q
      refine List.pairwise_cons.mpr ⟨fun z hz => ?_, h⟩
      rcases List.mem_cons.mp hz with e | e
      · rw [e]; exact q'
      · exact geS_trans q' (h1 z e)
theorem sortS_up : ∀ l, UpS (sortS l)
  | [] => .nil
  | x :: r => insS_up (sortS_up r)
theorem upS_eq {l l' : List Str} (h : UpS l) (h' : UpS l') (p : l.Perm l') : l = l' := List.Perm.eq_of_pairwise (fun a b _ _ x y => ltS_tri y x) h h' p
theorem sortS_eq {l xs : List Str} (p : l.Perm xs) (h : sortedS l = true) : l = sortS xs := upS_eq (sortedS_up h) (sortS_up xs) (p.trans (sortS_perm xs).symm)
/-- without what comes twice -/
def nubS : List Str → List Str
  | [] => []
  | x :: r => if x ∈ nubS r then nubS r else x :: nubS r
theorem nubS_mem {k : Str} : ∀ {l}, k ∈ nubS l ↔ k ∈ l
  | [] => Iff.rfl
  | x :: r => by
    unfold nubS
    split
    · rename_i h
      rw [nubS_mem, List.mem_cons]
      exact ⟨.inr, fun z => z.elim (fun e => by rw [e]; exact nubS_mem.mp h) id⟩
    · rw [List.mem_cons, List.mem_cons, nubS_mem]
theorem nubS_nodup : ∀ l, (nubS l).Nodup
  | [] => .nil
  | x :: r => by
    unfold nubS
    split
    · exact nubS_nodup r
    · rename_i h
      exact List.nodup_cons.mpr ⟨h, nubS_nodup r⟩
theorem nubS_len : ∀ l, (nubS l).length ≤ l.length
  | [] => Nat.le_refl _
  | x :: r => by
    unfold nubS
    have := nubS_len r
    split
    · rw [List.length_cons]; omega
    · rw [List.length_cons, List.length_cons]; omega
/-- sorted(set(l)) -/
def sortU (l : List Str) : List Str := sortS (nubS l)
theorem sortU_mem {k : Str} {l : List Str} : k ∈ sortU l ↔ k ∈ l := by
  unfold sortU
  rw [(sortS_perm _).mem_iff, nubS_mem]
theorem sortU_len (l : List Str) : (sortU l).length ≤ l.length := by
  unfold sortU
  rw [(sortS_perm _).length_eq]
  exact nubS_len l
theorem sortU_nodup (l : List Str) : (sortU l).Nodup := (sortS_perm _).nodup_iff.mpr (nubS_nodup l)
theorem nodup_perm {l l' : List Str} (h : l.Nodup) (h' : l'.Nodup) (m : ∀ k, k ∈ l ↔ k ∈ l') : l.Perm l' := by
  rw [List.perm_iff_count]
  intro a
  rw [h.count, h'.count]
  by_cases q : a ∈ l
  · rw [if_pos q, if_pos ((m a).mp q)]
  · rw [if_neg q, if_neg fun z => q ((m a).mpr z)]
theorem sortU_congr {l l' : List Str} (m : ∀ k, k ∈ l ↔ k ∈ l') : sortU l = sortU l' :=
  upS_eq (sortS_up _) (sortS_up _) (nodup_perm (sortU_nodup l) (sortU_nodup l') fun k => by rw [sortU_mem, sortU_mem]; exact m k)
/-! ### the rules -/
def SetSO (w : World) (a : Addr) (M : List Str) : HO := .ext fun h => SetS w h a M
section
variable {X : Cx}
theorem setSO_new {w : World} {P : Program} {H : Hp} {h : Heap} {a : Addr} {M : List Str} (R : SetS w h a M) : ObjOk P w H h a (SetSO w a M) := by
  have ⟨o, _, _, _, ho, _⟩ := R
  exact ⟨R, ⟨o, ho⟩, fun h1 h2 p k => SetS.at p k⟩
theorem setSO_get {pins : List (Addr × Obj)} {σ : L2.St} {H : Hp} {s : Shared} {a : Addr} {M : List Str} (I : Inv X pins σ H s) (ha : H a = some (SetSO X.w a M)) : SetS X.w s.heap a M := (I.hok a _ ha).1
def rSetL (K : PySem.W.Frag) (w : World) : List V → Hp → VK → Prop := fun vs H Q => ∃ (l : Addr) (xs : List Str), vs = [V.ref l] ∧ SqL K H l (xs.map V.str) ∧ xs.length + 1 < scanBound ∧ ∀ p, H p = none → Q (.ref p) (upd H p (SetSO w p xs))
theorem cr_setL (hc : X.calm = true) : CallR X (.type "set") (rSetL X.K X.w) := by
  intro pins s σ H vs us Q I r h
  obtain ⟨a, xs, rfl, hs, hb, q⟩ := h
  obtain ⟨its, rv, hl, _⟩ := I.list hs
  rw [Vals.ref1 r]
  refine setS_list (I.ok.hd hc) hl.isList rv.strs hb fun h' tk new k => ?_
  exact ⟨.ref _, upd H s.heap.objs.size (SetSO X.w s.heap.objs.size xs), I.laid (t' := tk) (fun b u e => k b u (Heap.lt_size e) e) (Nat.le_refl _) (setSO_new new), rfl, q _ (I.hok.fresh (Nat.le_refl _))⟩
theorem setS_perm {w : World} {es : Array (Int × Value)} {M : List Str} (nd : (es.toList.map keyS).Nodup) (hm : ∀ k, k ∈ M ↔ k ∈ es.toList.map keyS) : (es.toList.map keyS).Perm (sortU M) :=
  nodup_perm nd (sortU_nodup M) fun k => by rw [sortU_mem, hm k]
def rLenSS (w : World) : List V → Hp → VK → Prop := fun vs H Q => ∃ (a : Addr) (M : List Str), vs = [V.ref a] ∧ H a = some (SetSO w a M) ∧ Q (.int (sortU M).length) H
theorem cr_lenSS : CallR X (.builtin "len") (rLenSS X.w) := by
  intro pins s σ H vs us Q I r h
  obtain ⟨a, M, rfl, ha, q⟩ := h
  obtain ⟨o, es, ep, t, ho, hex, hd, g, nd, hm, hb, hf, hn, hr, hl⟩ := setSO_get I ha
  rw [Vals.ref1 r]
  have e := (setS_perm (w := X.w) nd hm).length_eq
  rw [List.length_map, Array.length_toList] at e
  refine call_len_set ho hex hd hf (by have : es.size < 4096 := hb; omega) ⟨.int (sortU M).length, H, I.tok _, ⟨_, by rw [← e]⟩, q⟩
theorem strsOf : ∀ (l : List Value), (∀ v ∈ l, ∃ k tk, v = Value.str k tk) → StrsAre l (l.map fun v => keyS (0, v))
  | [], _ => .nil
  | v :: l, h => by
    obtain ⟨k, tk, rfl⟩ := h v List.mem_cons_self
    exact .cons k tk (strsOf l fun u hu => h u (List.mem_cons_of_mem _ hu))
def rSortSS (w : World) : List V → Hp → VK → Prop := fun vs H Q => ∃ (a : Addr) (M : List Str), vs = [V.ref a] ∧ H a = some (SetSO w a M) ∧ ∀ p, H p = none → Q (.ref p) (upd H p (.lst ((sortU M).map V.str)))
theorem cr_sortSS (hc : X.calm = true) : CallR X (.builtin "sorted") (rSortSS X.w) := by
  intro pins s σ H vs us Q I r h
  obtain ⟨a, M, rfl, ha, q⟩ := h
  obtain ⟨o, es, ep, t, ho, hex, hd, g, nd, hm, hb, hf, hn, hr, hl⟩ := setSO_get I ha
  rw [Vals.ref1 r]
  have pe := setS_perm (w := X.w) nd hm
  refine Calls.call_function_entry kind_sorted plain_sorted entry_sorted (args_sorted1 _) ?_
  unfold Builtin.«sorted»
  refine wpAny_bind (m := checkCount "sorted" 1 1 _) (wpAny_pure ?_)
  refine wpAny_bind (collect_set (A := X.A.in1) (I.ok.hd hc) ⟨o, ho, hex.1, hd⟩ hf hb hr hl fun s1 vs k1 hz g1 o1 pm => ?_)
  have hvl : vs.length = es.size := by rw [pm.length_eq, List.length_map, Array.length_toList]
  have h4 : es.size < 4096 := hb
  have hs0 : vs.length ≤ sizeLine := by rw [hvl, sizeLine_eq]; omega
  have hI : StrsAre vs (vs.map fun v => keyS (0, v)) := strsOf vs fun v hv => by
    obtain ⟨e, he, q⟩ := List.mem_map.mp (pm.mem_iff.mp hv)
    obtain ⟨k, tk, h1, _⟩ := g e he
    exact ⟨k, tk, by rw [← q]; exact h1⟩
  have pk : (vs.map fun v => keyS (0, v)).Perm (es.toList.map keyS) := by
    have q := pm.map fun v => keyS (0, v)
    rw [List.map_map] at q
    exact q
  refine wpAny_bind (wpAny_newList ?_ hs0)
  have hoL : (s1.heap.push (seqObj "list" vs.toArray 0)).get? s1.heap.objs.size = some (seqObj "list" vs.toArray 0) := Heap.get?_push_size _ rfl
  refine wpAny_bind (wpAny_holding (wpAny_call_entry slot_list_sort ⟨_, hoL, rfl⟩ entry_list_sort (list_sort_treeKAny strKind_oneLt hoL hI.keysOf (fun v₁ v₂ rest e => keyKind_strs (by rw [← e]; exact hI)) hs0 fun st' hp hs => ⟨_, rfl, ?_⟩) (args_list_sort _)))
  obtain ⟨ys, q1, q2, q3⟩ := sorted_out_str hI hp hs
  obtain ⟨c, hc'⟩ := sortedHeap_at (vs := vs) (out := (arrOf st').map (·.2)) hoL
  have ey : ys = sortU M := upS_eq (sortedS_up q3) (sortS_up _) (q2.trans (pk.trans pe))
  subst ey
  have hlen : ((sortU M).map V.str).length ≤ sizeLine := by rw [List.length_map, q2.length_eq, List.length_map]; exact hs0
  have hn : H s1.heap.objs.size = none := I.hok.fresh hz
  have kk : ∀ b u, s.heap.get? b = some u → (sortedHeap (s1.heap.push (seqObj "list" vs.toArray 0)) s1.heap.objs.size vs ((arrOf st').map (·.2))).get? b = some u := fun b u e => by
    have q := k1 b u e
    have hlt := Heap.lt_size q
    rw [sortedHeap_old (Nat.ne_of_lt hlt) (by rw [size_push']; exact Nat.lt_succ_of_lt hlt)]
    exact Heap.get?_push_of_some _ q
  have J : Inv X pins σ (upd H s1.heap.objs.size (.lst ((sortU M).map V.str))) { s with heap := sortedHeap (s1.heap.push (seqObj "list" vs.toArray 0)) s1.heap.objs.size vs ((arrOf st').map (·.2)), gens := s1.gens, drawn := s1.drawn, toks := s1.toks } :=
    I.call (ch := []) (Un.laid kk hz hn) (I.hok.laid kk hz ⟨hlen, ((arrOf st').map (·.2)).toList, c, vals_of_strs q1, by rw [Array.toArray_toList]; exact hc'⟩) (by rw [g1]; exact I.bare) (fun _ z => nomatch z)
  have e : ({ s1 with heap := sortedHeap (s1.heap.push (seqObj "list" vs.toArray 0)) s1.heap.objs.size vs ((arrOf st').map (·.2)) } : Shared) = { s with heap := sortedHeap (s1.heap.push (seqObj "list" vs.toArray 0)) s1.heap.objs.size vs ((arrOf st').map (·.2)), gens := s1.gens, drawn := s1.drawn, toks := s1.toks } := by
    cases s1
    cases s
    cases o1
    rfl
  refine wpAny_pure ⟨_, rfl, ?_⟩
  rw [e]
  exact ⟨.ref s1.heap.objs.size, _, J, rfl, q s1.heap.objs.size hn⟩
/-- sorted(list of texts), of any length -/
def rSortLS (K : PySem.W.Frag) : List V → Hp → VK → Prop := fun vs H Q => ∃ (a : Addr) (xs : List Str), vs = [V.ref a] ∧ SqL K H a (xs.map V.str) ∧ ∀ p, H p = none → Q (.ref p) (upd H p (.lst ((sortS xs).map V.str)))
theorem cr_sortLS : CallR X (.builtin "sorted") (rSortLS X.K) := by
  intro pins s σ H vs us Q I r h
  obtain ⟨a, xs, rfl, hs, q⟩ := h
  obtain ⟨its, rv, hl, hz⟩ := I.list hs
  rw [Vals.ref1 r]
  have hlen0 := rv.length
  refine PyProof.Rows.sorted_strsAny hl.isList rv.strs (by rw [← hlen0]; exact hz) fun out ys h1 h2 h3 => ?_
  obtain ⟨ep, he'⟩ := PyProof.Rows.sortedAll_at s.heap its out
  have ey := sortS_eq h2 h3
  subst ey
  have hlen : ((sortS xs).map V.str).length ≤ sizeLine := by rw [List.length_map, h2.length_eq, ← List.length_map (f := V.str)]; exact hz
  exact ⟨.ref _, upd H (s.heap.objs.size + 1) (.lst ((sortS xs).map V.str)), I.laid (t' := s.toks) (fun _ _ => PyProof.Rows.sortedAll_old) (Nat.le_succ _) ⟨hlen, out.toList, ep, vals_of_strs h1, he'⟩, rfl, q _ (I.hok.fresh (Nat.le_succ _))⟩
end
end FP
/-! FP15: sorted(set(..)), len(set(..)), sorted(..) by data; o[i]; star displays; two-clause comprehensions. -/
namespace FP
open PySem L2
variable [Tabl]
section
variable {ι : Type} {Xs : ι → Cx} {mg : Gm} {Wx : WX} {pos : Pos}
theorem cr_setLK {X : Cx} {K : PySem.W.Frag} {w : World} (h : X.K = K) (hw : X.w = w) (hc : X.calm = true) : CallR X (.type "set") (rSetL K w) := by
  subst h hw
  exact cr_setL hc
theorem cr_sortSSK {X : Cx} {w : World} (hw : X.w = w) (hc : X.calm = true) : CallR X (.builtin "sorted") (rSortSS w) := by
  subst hw
  exact cr_sortSS hc
theorem cr_lenSSK {X : Cx} {w : World} (hw : X.w = w) : CallR X (.builtin "len") (rLenSS w) := by
  subst hw
  exact cr_lenSS
theorem cr_sortLSK {X : Cx} {K : PySem.W.Frag} (h : X.K = K) : CallR X (.builtin "sorted") (rSortLS K) := by
  subst h
  exact cr_sortLS
abbrev dSortSet (f : DTE) : DTE := fun ρ Q E => f ρ (fun x => match x with
  | .lst xs => ∃ ss, strsD xs = some ss ∧ ss.length < 4000 ∧ Q (.lst ((sortU ss).map .str))
  | _ => False) E
abbrev dLenSet (f : DTE) : DTE := fun ρ Q E => f ρ (fun x => match x with
  | .lst xs => ∃ ss, strsD xs = some ss ∧ ss.length < 4000 ∧ Q (.int (sortU ss).length)
  | _ => False) E
theorem de_sortSet {w : World} {e : Expr} {f : DTE} {p p2 q : Pos} (h : DE Xs mg Wx e f) (hm : mg.mg "sorted" = none) (hm2 : mg.mg "set" = none) (hv : bootBuiltins "sorted" = some (.builtin "sorted")) (hv2 : bootBuiltins "set" = some (.type "set"))
    (hw : ∀ j, (Xs j).w = w := by intro _; rfl) (hK : ∀ j, (Xs j).K = mg.K := by intro _; rfl) (hM : ∀ j, (Xs j).mg = mg.mg := by intro _; rfl) (hc : ∀ j, (Xs j).calm = true := by intro _; rfl) (hg : ∀ j, Gl (Xs j) "sorted" := by intro _; rfl) (hg2 : ∀ j, Gl (Xs j) "set" := by intro _; rfl)
    (he : ∀ j, starEach [e] (Xs j).env = [(false, eval e (Xs j).env)] := by intro _; rfl)
    (he2 : ∀ j, starEach [.Call (.Name "set" p2) [e] [] q] (Xs j).env = [(false, eval (.Call (.Name "set" p2) [e] [] q) (Xs j).env)] := by intro _; rfl) :
    DE Xs mg Wx (.Call (.Name "sorted" p) [.Call (.Name "set" p2) [e] [] q] [] pos) (dSortSet f) := by
  obtain ⟨t, h1, h2⟩ := h
  refine ⟨tCB (rSortSS w) (tCons (tCB (rSetL mg.K w) (tCons t tNil)) tNil), fun j => ?_, ?_⟩
  · exact pe_callB (cr_sortSSK (hw j) (hc j)) (hg j) (by rw [hM j]; exact hm) hv (pa_cons (pe_callTy (cr_setLK (hK j) (hw j) (hc j)) (hg2 j) (by rw [hM j]; exact hm2) hv2 (pa_cons (h1 j) pa_nil (he j)) (by decide) (by decide) (he j) rfl) pa_nil (he2 j)) (by decide) (by decide) (he2 j) rfl
  · intro B ρ Q E hf W σ H Q' hh e x q
    refine h2 B ρ _ E hf W σ H _ hh e x fun W1 H1 v d s1 r1 k1 => ?_
    dsimp only at k1
    split at k1
    · cases r1 with
      | lst ha ra =>
        obtain ⟨ss, g1, g2, g3⟩ := k1
        have ev := strs_v ra g1
        subst ev
        refine ⟨_, ss, rfl, SqL.of (s1.holds.same _ _ ha), (show ss.length + 1 < 4096 by omega), fun p1 n1 => ⟨p1, ss, rfl, upd_same, fun p2 n2 => ?_⟩⟩
        have s2 := s1.trans (Step.lay s1.holds (o := SetSO w p1 ss) n1)
        exact to_lst (ToV.step q s2) s2.holds (Reps.strs _) g3 p2 n2
    · exact k1.elim
theorem de_lenSet {w : World} {e : Expr} {f : DTE} {p p2 q : Pos} (h : DE Xs mg Wx e f) (hm : mg.mg "len" = none) (hm2 : mg.mg "set" = none) (hv : bootBuiltins "len" = some (.builtin "len")) (hv2 : bootBuiltins "set" = some (.type "set"))
    (hw : ∀ j, (Xs j).w = w := by intro _; rfl) (hK : ∀ j, (Xs j).K = mg.K := by intro _; rfl) (hM : ∀ j, (Xs j).mg = mg.mg := by intro _; rfl) (hc : ∀ j, (Xs j).calm = true := by intro _; rfl) (hg : ∀ j, Gl (Xs j) "len" := by intro _; rfl) (hg2 : ∀ j, Gl (Xs j) "set" := by intro _; rfl)
    (he : ∀ j, starEach [e] (Xs j).env = [(false, eval e (Xs j).env)] := by intro _; rfl)
    (he2 : ∀ j, starEach [.Call (.Name "set" p2) [e] [] q] (Xs j).env = [(false, eval (.Call (.Name "set" p2) [e] [] q) (Xs j).env)] := by intro _; rfl) :
    DE Xs mg Wx (.Call (.Name "len" p) [.Call (.Name "set" p2) [e] [] q] [] pos) (dLenSet f) := by
  obtain ⟨t, h1, h2⟩ := h
  refine ⟨tCB (rLenSS w) (tCons (tCB (rSetL mg.K w) (tCons t tNil)) tNil), fun j => ?_, ?_⟩
  · exact pe_callB (cr_lenSSK (hw j)) (hg j) (by rw [hM j]; exact hm) hv (pa_cons (pe_callTy (cr_setLK (hK j) (hw j) (hc j)) (hg2 j) (by rw [hM j]; exact hm2) hv2 (pa_cons (h1 j) pa_nil (he j)) (by decide) (by decide) (he j) rfl) pa_nil (he2 j)) (by decide) (by decide) (he2 j) rfl
  · intro B ρ Q E hf W σ H Q' hh e x q
    refine h2 B ρ _ E hf W σ H _ hh e x fun W1 H1 v d s1 r1 k1 => ?_
    dsimp only at k1
    split at k1
    · cases r1 with
      | lst ha ra =>
        obtain ⟨ss, g1, g2, g3⟩ := k1
        have ev := strs_v ra g1
        subst ev
        refine ⟨_, ss, rfl, SqL.of (s1.holds.same _ _ ha), (show ss.length + 1 < 4096 by omega), fun p1 n1 => ⟨p1, ss, rfl, upd_same, ?_⟩⟩
        have s2 := s1.trans (Step.lay s1.holds (o := SetSO w p1 ss) n1)
        exact q _ _ _ _ s2 (.int _) g3
    · exact k1.elim
def rdSorted : RDL := fun ds Q => match ds with
  | [.lst xs] => ∃ ss, strsD xs = some ss ∧ Q (.lst ((sortS ss).map .str))
  | _ => False
theorem ok_sorted (hK : ∀ j, (Xs j).K = mg.K := by intro _; rfl) : CallOk Xs mg (.builtin "sorted") rdSorted := by
  refine CallOk.mk (fun j => cr_sortLSK (hK j)) ?_
  intro W H vs ds Q Q' P hh r h q hP
  cases r with
  | nil => exact False.elim h
  | cons r rs =>
    cases r with
    | lst ha ra =>
      cases rs with
      | nil =>
        delta rdSorted at h
        dsimp only at h
        obtain ⟨ss, h1, h2⟩ := h
        have e := strs_v ra h1
        subst e
        exact hP _ (⟨_, ss, rfl, SqL.of (hh.same _ _ ha), to_lst q hh (Reps.strs _) h2⟩)
      | cons => exact False.elim h
    | _ => exact False.elim h
/-! ### *e among arguments and in displays -/
/-! ### o[i] of an own class -/
def rIxO (P : Program) (w : World) (mg : Gm) (base : Heap) (C : Addr) (f : List D → M D) : R2 := fun x y H Q => ∃ a dx fs, x = .ref a ∧ H a = some (.ins C dx fs) ∧ spD mg 2 f [.ref a, y] H Q E0
def rdIxM (c : Str) (f : List D → M D) : RD2 := fun x y Q => match x with
  | .ins c' fs => c' = c ∧ f [.ins c' fs, y] Q F0
  | _ => False
abbrev IxOwn (b : Expr) : Prop := ∀ a i, subscripted b true (.ref a) i = runValue (.builtin "lifetime.subscript" ⟨[.ref a, i], []⟩)
theorem de_ixM {P : Program} {w : World} {base : Heap} {k : Nat} {c : Str} {C : Addr} {f : List D → M D} {a b : Expr} {fa fb : DTE} (Fc : ClsF mg c C) (S : SpecOk P w mg base k C "__getitem__" 2 f) (hr : ∀ j, RmG (k + 1) (Xs j).A) (ha : DE Xs mg Wx a fa) (hb : DE Xs mg Wx b fb)
    (hs : IxOwn b := by exact fun _ _ => rfl) (hP : HPs Xs P w mg base := by intro _; exact ⟨rfl, rfl, rfl, rfl, rfl⟩) : DE Xs mg Wx (.Subscript a b pos) (dOp (rdIxM c f) fa fb) := by
  obtain ⟨fa', fd, ps, h1, h2, h3, hbd, hl, G⟩ := S.ex
  obtain ⟨ta, a1, a2⟩ := ha
  obtain ⟨tb, b1, b2⟩ := hb
  refine ⟨tOp (rIxO P w mg base C f) ta tb, fun j => ?_, Cp.op ?_ a2 b2⟩
  · obtain ⟨p1, p2, p3, p4, p5⟩ := hP j
    subst p1 p2 p5
    refine ⟨fun pins s σ H Q I h => PyProof.Rows.Subscript_ (binT (a1 j) (b1 j) I h fun v u s2 x y H2 I2 rx ry q => ?_)⟩
    obtain ⟨r, dx, fs, rfl, ea, hsp⟩ := q
    cases rx
    obtain ⟨mA, O, _⟩ := ins_get I2.hok ea
    obtain ⟨od, J, _⟩ := O.look
    obtain ⟨m, hF⟩ := I2.fr
    refine PySem.W.sub_K hF I2.ok.mod.kin J (by rw [p3]; exact h1) (by rw [p3]; exact h3) (by rw [p3]; exact h2) ?_ (hs _ _)
    exact callAt0 (X := Xs j) (by rw [p3, p4]; exact G) (hr j).in1 rfl (by rw [p3]; exact hbd) I2 (vs := [.ref r, y]) (.cons (show RelV (.ref _) (.ref _) from rfl) (.cons ry .nil)) hsp
  · intro W H x y dx dy Q Q' hh rx ry h q
    cases rx with
    | @ins a C' ax fs c' ds hc ha hk rs =>
      obtain ⟨rfl, h⟩ := h
      have ec := Fc.eq hc
      subst ec
      exact ⟨a, ax, fs, rfl, hh.same _ _ ha, spD_of hh (.cons (.ins hc ha hk rs) (.cons ry .nil)) rfl h q⟩
    | _ => exact h.elim
end
end FP
/-! FP16: comprehensions with two clauses. -/
namespace FP
open PySem L2
variable [Tabl]
section
variable {ι : Type} {Xs : ι → Cx} {mg : Gm} {Wx : WX} {pos : Pos}
def lcS (body : D → (List D → Prop) → Prop) : List D → (List D → Prop) → Prop
  | [], Q => Q []
  | d :: ds, Q => body d fun r => lcS body ds fun rs => Q (r ++ rs)
/-- so many items that no list is too long -/
def few : Nat := 4000
abbrev fewD (ds : List D) : Prop := ds.length ≤ few
theorem few_mul {a i j : Nat} (h : a ≤ i * few + j) (hi : i < few) (hj : j < few) : a < sizeLine := by
  unfold few at *
  rw [PySem.sizeLine_eq]
  omega
abbrev dLc2 (w : DTI) (T : Tg) (ft : DTT) (w1 : DTI) (T1 : Tg) (ft1 : DTT) (fe : DTE) (vs vs1 : List Nat) : DTE := fun ρ Q E => w ρ (fun ds => fewD ds ∧ lcS (fun d k => ∃ ρ2, T.put d (wipeD ρ vs) = some ρ2 ∧ ft ρ2 (fun b => bit b
  (w1 ρ2 (fun es => fewD es ∧ lcD (fun e k => ∃ ρ3, T1.put e (wipeD ρ2 vs1) = some ρ3 ∧ ft1 ρ3 (fun b => bit b (fe ρ3 (fun r => k (some r)) F0) (k none)) F0) es fun rs => k rs) F0) (k [])) F0) ds fun rs => Q (.lst rs)) E
theorem EnvR.mark {B : Hp} {W : Wd} {H : Hp} {σ : St} {ρ : Env} (e : EnvR mg B W H σ ρ) {A : Addr} {o : HO} (n : H A = none) : EnvR mg (upd B A o) W H σ ρ := by
  refine ⟨e.len, fun i s h => ?_, e.dis⟩
  obtain ⟨v, h1, h2⟩ := e.sl i s h
  refine ⟨v, h1, ?_⟩
  cases s with
  | no => exact True.intro
  | exc => exact h2
  | d x => exact h2
  | own xs =>
    obtain ⟨a, vs, q1, q2, q3, q4, q5, q6⟩ := h2
    exact ⟨a, vs, q1, q2, q3, q4, by rw [upd_ne (ne_of_none q2 n)]; exact q5, q6⟩
  | od xs =>
    obtain ⟨a, vs, q1, q2, q3, q4, q5, q6⟩ := h2
    exact ⟨a, vs, q1, q2, q3, q4, by rw [upd_ne (ne_of_none q2 n)]; exact q5, q6⟩
  | ob c a fs =>
    obtain ⟨vs, q1, ⟨C, dx, q0, q2⟩, q3, q4, q5, q6⟩ := h2
    exact ⟨vs, q1, ⟨C, dx, q0, q2⟩, q3, q4, by rw [upd_ne (ne_of_none q2 n)]; exact q5, q6⟩
  | ow c as fs =>
    obtain ⟨a, as', vs, q0, q1, q2, q3, q4, q5⟩ := h2
    exact ⟨a, as', vs, q0, q1, q2, q3, q4, fun b hb => by
      obtain ⟨⟨u, hu⟩, k2, k3, k4⟩ := q5 b hb
      exact ⟨⟨u, hu⟩, k2, k3, by rw [upd_ne (ne_of_none hu n)]; exact k4⟩⟩
  | o2 as x =>
    obtain ⟨a, Ls, q0, q1, q3, q4, q5⟩ := h2
    exact ⟨a, Ls, q0, q1, q3, q4, fun b hb => by
      obtain ⟨⟨u, hu⟩, k2, k3, k4⟩ := q5 b hb
      exact ⟨⟨u, hu⟩, k2, k3, by rw [upd_ne (ne_of_none hu n)]; exact k4⟩⟩
  | hv f =>
    obtain ⟨a, q1, q2, q3, q4, q5⟩ := h2
    exact ⟨a, q1, q2, q3, q4, by rw [upd_ne (ne_of_none q2 n)]; exact q5⟩
theorem EnvR.beside {B : Hp} {W : Wd} {H : Hp} {σ : St} {ρ : Env} (e : EnvR mg B W H σ ρ) {A : Addr} {o o' : HO} (n : B A = some o') : EnvR mg B W (upd H A o) σ ρ := by
  refine ⟨e.len, fun i s h => ?_, e.dis⟩
  obtain ⟨v, h1, h2⟩ := e.sl i s h
  refine ⟨v, h1, h2.keep (Le.refl W) fun a ha u h5 h6 h7 => ⟨?_, h6, h7⟩⟩
  obtain ⟨_, _, _, _, z⟩ := h2.at ha
  have ne : a ≠ A := fun q => by rw [q, n] at z; cases z
  rw [upd_ne ne]
  exact h5
def AccE (mg : Gm) (A : Addr) (W1 : Wd) (H1 : Hp) (W4 : Wd) (B : Hp) (σ : St) (ρ : Env) (n : Nat) (K : List D → Prop) : Hp → Prop := fun H' => ∃ W' us acc, Step W1 H1 W' H' ∧ Le W4 W' ∧ EnvR mg B W' H' σ ρ ∧ AccL mg A W' H' us acc n ∧ K acc
/-- the inner clause -/
theorem lc2_in {g1 : TG} {tt1 : TT} {te : TE} {T1 : Tg} {ft1 : DTT} {fe : DTE} {vs1 : List Nat} (hg1 : CpG mg g1 T1) (hv1 : ∀ i ∈ T1.slots, i ∈ vs1) (ht1 : CpT mg Wx0 tt1 ft1) (he : Cp mg Wx0 te fe) {B' H1 H4 : Hp} {W1 W4 : Wd} {A : Addr} {i : Nat} {R : List D → Prop} {es : List D} {J1 : It} {σ3 : St} {ρ1 : Env} {us : List V} {acc : List D} (hA : H1 A = none) (hBA : B' A = some (.lst [])) (hi : i < few) (hsz1 : es.length ≤ few)
    (wk1 : WalkD mg W4 J1 es) (e4 : EnvR mg B' W4 H4 σ3 ρ1) (s14 : Step W1 H1 W4 H4) (I : AccL mg A W4 H4 us acc (i * few)) (k : lcD (fun e k => ∃ ρ3, T1.put e (wipeD ρ1 vs1) = some ρ3 ∧ ft1 ρ3 (fun b => bit b (fe ρ3 (fun r => k (some r)) F0) (k none)) F0) es (fun r => R (acc ++ r))) :
    ∃ Wn : Nat → Nat → Hp → Prop, (∃ m, Wn 0 m H4) ∧ ∀ j k H, Wn j k H → (J1.stop j H ∧ AccP mg A W1 H1 ((i + 1) * few) R H) ∨ (J1.go j H ∧ ∃ Nx1 : Hp → Prop, (∀ H', Nx1 H' → ∃ k', k' < k ∧ Wn (j + 1) k' H') ∧ ∀ x H', J1.yld j H x H' → g1 x (L2.wipe σ3 vs1) H' fun σ5 H5 => L2.wipe σ5 vs1 = L2.wipe σ3 vs1 ∧ tt1 σ5 H5 fun b H6 =>
      if b = true then te σ5 H6 fun y H7 => ∃ acc, H7 A = some (.lst acc) ∧ acc.length < sizeLine ∧ Nx1 (upd H7 A (.lst (acc ++ [y]))) else Nx1 H6) := by
  refine ⟨fun j k H' => k = es.length - j ∧ j ≤ es.length ∧ AccE mg A W1 H1 W4 B' σ3 ρ1 (i * few + j) (fun acc' => lcD _ (es.drop j) (fun r => R (acc' ++ r))) H', ⟨es.length, rfl, Nat.zero_le _, W4, us, acc, s14, Le.refl _, e4, I, k⟩, ?_⟩
  rintro j k H5 ⟨rfl, hj, W5, us5, acc5, s5, l45, e5, I5, k5⟩
  obtain ⟨go1, stop1, yld1⟩ := wk1 W5 H5 l45 s5.holds
  by_cases hlt1 : j < es.length
  · refine .inr ⟨go1 j hlt1, AccE mg A W1 H1 W4 B' σ3 ρ1 (i * few + (j + 1)) (fun acc' => lcD _ (es.drop (j + 1)) (fun r => R (acc' ++ r))), fun H6 q => ⟨es.length - (j + 1), by omega, rfl, hlt1, q⟩, fun y1 H6 hy1 => ?_⟩
    obtain ⟨W6, d1, s6, hd1, r6⟩ := yld1 j y1 H6 hlt1 hy1
    rw [drop_at hd1] at k5
    obtain ⟨ρ3, p3, k6⟩ := k5
    refine hg1 B' W6 H6 y1 d1 _ _ ρ3 _ s6.holds r6 ((e5.step s6).wipe vs1) p3 fun σ6 e6 w6 => ?_
    refine ⟨(w6 vs1 hv1).trans (wipe_wipe σ3 vs1), ?_⟩
    refine ht1 B' ρ3 _ _ k6 W6 σ6 H6 _ s6.holds e6 ExR.f0 fun W7 H7 b s7 k7 => ?_
    have I7 := I5.step (s6.trans s7)
    cases b with
    | true =>
      rw [if_pos rfl]
      refine he B' ρ3 _ _ k7 W7 σ6 H7 _ s7.holds (e6.step s7) ExR.f0 fun W8 H8 z dz s8 r8 k8 => ?_
      have I8 := I7.step s8
      have s58 := (s6.trans s7).trans s8
      refine ⟨us5, I8.h, ?_, W8, us5 ++ [z], acc5 ++ [dz], I8.own (s5.trans s58) hA, l45.trans s58.le, (e5.step s58).beside hBA, I8.snoc r8 (Nat.le_refl _), ?_⟩
      · rw [I5.r.length]
        exact few_mul I5.l hi (Nat.lt_of_lt_of_le hlt1 hsz1)
      · show lcD _ _ (fun rs => R (acc5 ++ [dz] ++ rs))
        rw [app_one R]
        exact k8
    | false =>
      rw [if_neg Bool.false_ne_true]
      exact ⟨W7, us5, acc5, s5.trans (s6.trans s7), l45.trans (s6.trans s7).le, e5.step (s6.trans s7), I7.up (Nat.le_succ _), k7⟩
  · have ej : j = es.length := by omega
    subst ej
    rw [List.drop_length] at k5
    have k6 : R (acc5 ++ []) := k5
    rw [List.append_nil] at k6
    refine .inl ⟨stop1, W5, us5, acc5, s5, I5.up ?_, k6⟩
    rw [Nat.succ_mul]
    exact Nat.add_le_add_left hsz1 _
theorem Cp.lc2 {wi wi1 : TI} {g g1 : TG} {tt tt1 : TT} {te : TE} {w w1 : DTI} {T T1 : Tg} {ft ft1 : DTT} {fe : DTE} {vs vs1 : List Nat} (hi : CpI mg Wx wi w) (hg : CpG mg g T) (hv : ∀ i ∈ T.slots, i ∈ vs) (ht : CpT mg Wx0 tt ft)
    (hi1 : CpI mg Wx0 wi1 w1) (hg1 : CpG mg g1 T1) (hv1 : ∀ i ∈ T1.slots, i ∈ vs1) (ht1 : CpT mg Wx0 tt1 ft1) (he : Cp mg Wx0 te fe) : Cp mg Wx (tLc2 wi g tt wi1 g1 tt1 te vs vs1) (dLc2 w T ft w1 T1 ft1 fe vs vs1) := by
  intro B ρ Q E hf W σ H Q' hh e x q
  refine hi B ρ _ E hf W σ H _ hh e x fun W1 H1 J ds s1 wk k1 => ?_
  obtain ⟨hsz, k1⟩ := k1
  intro A hA
  have e1 := (e.step s1).mark (o := .lst []) hA
  generalize hBm : upd B A (.lst []) = B' at e1
  have hBA : B' A = some (.lst []) := by rw [← hBm]; exact upd_same
  refine ⟨fun i m H' => m = ds.length - i ∧ i ≤ ds.length ∧ AccP mg A W1 H1 (i * few) (fun acc => lcS _ (ds.drop i) (fun rs => Q (.lst (acc ++ rs)))) H', ⟨ds.length, rfl, Nat.zero_le _, W1, [], [], Step.lay s1.holds hA, (AccL.new s1.holds hA).up (Nat.zero_le _), k1⟩, ?_⟩
  rintro i m H' ⟨rfl, hi, W', us, acc, s', I, k'⟩
  obtain ⟨go, stop, yld⟩ := wk W' H' s'.le s'.holds
  by_cases hlt : i < ds.length
  · refine .inr ⟨go i hlt, AccP mg A W1 H1 ((i + 1) * few) (fun acc => lcS _ (ds.drop (i + 1)) (fun rs => Q (.lst (acc ++ rs)))), fun H2 q => ⟨ds.length - (i + 1), by omega, rfl, hlt, q⟩, fun y H2 hy => ?_⟩
    obtain ⟨W2, d, s2, hd, r⟩ := yld i y H2 hlt hy
    rw [drop_at hd] at k'
    obtain ⟨ρ1, p1, k2⟩ := k'
    refine hg B' W2 H2 y d _ _ ρ1 _ s2.holds r ((e1.step s').step s2 |>.wipe vs) p1 fun σ3 e3 w3 => ?_
    refine ⟨(w3 vs hv).trans (wipe_wipe σ vs), ?_⟩
    refine ht B' ρ1 _ _ k2 W2 σ3 H2 _ s2.holds e3 ExR.f0 fun W3 H3 b s3 k3 => ?_
    have s13 := (s'.trans s2).trans s3
    have I3 := I.step (s2.trans s3)
    have up : i * few ≤ (i + 1) * few := by
      rw [Nat.succ_mul]
      exact Nat.le_add_right _ _
    cases b with
    | false =>
      rw [if_neg Bool.false_ne_true]
      exact ⟨W3, us, acc, s13, I3.up up, k3⟩
    | true =>
      rw [if_pos rfl]
      refine hi1 B' ρ1 _ _ k3 W3 σ3 H3 _ s3.holds (e3.step s3) ExR.f0 fun W4 H4 J1 es s4 wk1 k4 => ?_
      obtain ⟨hsz1, k4⟩ := k4
      refine lc2_in hg1 hv1 ht1 he (H1 := H1) (A := A) (i := i) (R := fun acc => lcS _ (ds.drop (i + 1)) (fun rs => Q (.lst (acc ++ rs)))) hA hBA (Nat.lt_of_lt_of_le hlt hsz) hsz1 wk1 ((e3.step s3).step s4) (s13.trans s4) (I3.step s4) ?_
      refine cast (congrArg (lcD _ es) (funext fun r => congrArg (lcS _ (ds.drop (i + 1))) (funext fun rs => ?_))) k4
      show Q (.lst (acc ++ (r ++ rs))) = Q (.lst ((acc ++ r) ++ rs))
      rw [List.append_assoc]
  · have ei : i = ds.length := by omega
    subst ei
    rw [List.drop_length] at k'
    refine .inl ⟨stop, q (W'.put A (.lst us)) H' _ _ (s1.trans (s'.taken hA I.h I.w I.t)) (Rep.newLst I.r I.w) ?_⟩
    have k2 : Q (.lst (acc ++ [])) := k'
    rw [List.append_nil] at k2
    exact k2
theorem de_lc2 {elt tg iter tg1 iter1 : Expr} {ifs ifs1 : List Expr} {scope : Scope} {own : List (Str × Nat)} {vs1 : List Nat} {w w1 : DTI} {T T1 : Tg} {ft ft1 : DTT} {fe : DTE} (hN : ∀ j, (Xs j).N.Nodup) (hi : DI Xs mg Wx tg iter w) (ok : ∀ j, BlkOk (Xs j).N (Xs j).env.scope scope own) (hg : DG (blkF Xs scope) mg tg T) (ht : DTs (blkF Xs scope) mg Wx0 ifs ft)
    (hi1 : DI (blkF Xs scope) mg Wx0 tg1 iter1 w1) (hg1 : DG (blkF Xs scope) mg tg1 T1) (ht1 : DTs (blkF Xs scope) mg Wx0 ifs1 ft1) (he : DE (blkF Xs scope) mg Wx0 elt fe)
    (hw : ∀ i ∈ vs1, i ∈ own.map (·.2) := by decide) (hv : ∀ i ∈ T.slots, i ∈ own.map (·.2) := by decide) (hv1 : ∀ i ∈ T1.slots, i ∈ vs1 := by decide) (hc : ∀ j, (Xs j).calm = true := by intro _; rfl) (hs : ∀ j x, foldedSetIterable iter (Xs j).env x = pure x := by intro _ _; rfl) (hs1 : ∀ env x, foldedSetIterable iter1 env x = pure x := by intro _ _; rfl) :
    DE Xs mg Wx (.ListComp elt [⟨tg, iter, ifs, 0⟩, ⟨tg1, iter1, ifs1, 0⟩] scope pos) (dLc2 w T ft w1 T1 ft1 fe (own.map (·.2)) vs1) := by
  obtain ⟨wi, i1, i2⟩ := hi
  obtain ⟨g, g1, g2⟩ := hg
  obtain ⟨tt, t1, t2⟩ := ht
  obtain ⟨wi1, i3, i4⟩ := hi1
  obtain ⟨g', g3, g4⟩ := hg1
  obtain ⟨tt', t3, t4⟩ := ht1
  obtain ⟨te, e1, e2⟩ := he
  exact ⟨_, fun j => pe_lc2 (hc j) (hN j) (i1 j) (ok j) hw (fun s H C cl fp => g1 (j, s, H, C, cl, fp)) (fun s H C cl fp => t1 (j, s, H, C, cl, fp)) (fun s H C cl fp => i3 (j, s, H, C, cl, fp)) (fun s H C cl fp => g3 (j, s, H, C, cl, fp)) (fun s H C cl fp => t3 (j, s, H, C, cl, fp)) (fun s H C cl fp => e1 (j, s, H, C, cl, fp)) (hs j) hs1, Cp.lc2 i2 g2 hv t2 i4 g4 hv1 t4 e2⟩
end
end FP
/-! FP17: f-strings; dicts: d[k], k in d, dict comprehensions. -/
namespace FP
open PySem L2
variable [Tabl]
section
variable {ι : Type} {Xs : ι → Cx} {mg : Gm} {Wx : WX} {pos : Pos}
/-! ### f-strings -/
def fmtD : D → (Str → Prop) → Prop := fun x Q => match x with
  | .str y => y.length ≤ sizeLine ∧ Q y
  | .int i => i.natAbs.log2 < 1920 ∧ Q (toString i)
  | _ => False
abbrev dFmt (f : DTE) : DTE := fun ρ Q E => f ρ (fun x => fmtD x fun y => Q (.str y)) E
theorem de_fmt {e : Expr} {f : DTE} (h : DE Xs mg Wx e f) : DE Xs mg Wx (.FormattedValue e (-1) none pos) (dFmt f) := by
  obtain ⟨t, h1, h2⟩ := h
  refine ⟨_, fun i => pe_fmt (h1 i), fun B ρ Q E hf W σ H Q' hh e x q => h2 B ρ _ E hf W σ H _ hh e x fun W1 H1 v d s1 r1 k1 => ?_⟩
  unfold fmtD at k1
  dsimp only at k1
  split at k1
  · cases r1
    exact .inl ⟨_, rfl, k1.1, q W1 H1 _ _ s1 (.str _) k1.2⟩
  · cases r1
    exact .inr ⟨_, rfl, k1.1, q W1 H1 _ _ s1 (.str _) k1.2⟩
  · exact k1.elim
/-- the parts of an f-string -/
abbrev DJT := Env → Str → (Str → Prop) → (XD → Prop) → Prop
def CpJ (mg : Gm) (Wx : WX) (ts : List TE) (f : DJT) : Prop := ∀ B ρ acc Q E, f ρ acc Q E → ∀ W σ H Q', Holds W H → EnvR mg B W H σ ρ → ExR mg Wx W H σ E → (∀ W' H' z, Step W H W' H' → Q z → Q' z H') → tJs ts acc σ H Q'
def DJ (Xs : ι → Cx) (mg : Gm) (Wx : WX) (es : List Expr) (f : DJT) : Prop := ∃ ts, (∀ i, PJ (Xs i) es ts) ∧ CpJ mg Wx ts f
abbrev dJNil : DJT := fun _ acc Q _ => Q acc
abbrev dJCons (f : DTE) (g : DJT) : DJT := fun ρ acc Q E => f ρ (fun x => match x with
  | .str y => (acc ++ y).length ≤ sizeLine ∧ g ρ (acc ++ y) Q E
  | _ => False) E
theorem dj_nil : DJ Xs mg Wx [] dJNil := ⟨[], fun _ => .nil, fun B ρ acc Q E hf W σ H Q' hh e x q => q W H acc (Step.refl hh) hf⟩
theorem dj_cons {e : Expr} {es : List Expr} {f : DTE} {g : DJT} (h : DE Xs mg Wx e f) (h' : DJ Xs mg Wx es g) : DJ Xs mg Wx (e :: es) (dJCons f g) := by
  obtain ⟨t, h1, h2⟩ := h
  obtain ⟨ts, g1, g2⟩ := h'
  refine ⟨t :: ts, fun i => .cons (h1 i) (g1 i), fun B ρ acc Q E hf W σ H Q' hh e x q => ?_⟩
  refine h2 B ρ _ E hf W σ H _ hh e x fun W1 H1 v d s1 r1 k1 => ?_
  dsimp only at k1
  split at k1
  · cases r1
    exact ⟨_, rfl, k1.1, g2 B ρ _ Q E k1.2 W1 σ H1 _ s1.holds (e.step s1) (x.step s1) fun W2 H2 z s2 k2 => q W2 H2 z (s1.trans s2) k2⟩
  · exact k1.elim
abbrev dJoined (g : DJT) : DTE := fun ρ Q E => g ρ Str.empty (fun z => Q (.str z)) E
theorem de_joined {v1 v2 : Expr} {rest : List Expr} {g : DJT} (h : DJ Xs mg Wx (v1 :: v2 :: rest) g) : DE Xs mg Wx (.JoinedStr (v1 :: v2 :: rest) pos) (dJoined g) := by
  obtain ⟨ts, h1, h2⟩ := h
  exact ⟨_, fun i => pe_joined (h1 i), fun B ρ Q E hf W σ H Q' hh e x q => h2 B ρ _ _ E hf W σ H _ hh e x fun W1 H1 z s1 k1 => q W1 H1 _ _ s1 (.str z) k1⟩
/-! ### dicts -/
def keyD : D → Option Key
  | .int i => some (.inl i)
  | .str z => some (.inr z)
  | _ => none
def valD (kvs : List (Key × D)) (k : Key) : Option D := (kvs.find? fun kv => decide (kv.1 = k)).map (·.2)
def putKD (kvs : List (Key × D)) (k : Key) (v : D) : List (Key × D) :=
  if (kvs.any fun kv => decide (kv.1 = k)) = true then kvs.map (fun kv => if kv.1 = k then (kv.1, v) else kv) else kvs ++ [(k, v)]
theorem keyD_v {W : Wd} {x : V} {d : D} {k : Key} (r : Rep mg W x d) (h : keyD d = some k) : x = kV k := by
  cases r with
  | int i => cases h; rfl
  | str i => cases h; rfl
  | _ => cases h
theorem valD_cons (p : Key × D) (r : List (Key × D)) (k : Key) : valD (p :: r) k = if p.1 = k then some p.2 else valD r k := by
  unfold valD
  rw [List.find?_cons]
  by_cases q : p.1 = k <;> simp [q]
theorem valV_cons (p : Key × V) (r : List (Key × V)) (k : Key) : valV (p :: r) k = if p.1 = k then some p.2 else valV r k := by
  unfold valV
  rw [List.find?_cons]
  by_cases q : p.1 = k <;> simp [q]
theorem val_rep {W : Wd} {k : Key} : ∀ {kvs : List (Key × V)} {ds : List (Key × D)}, kvs.map (·.1) = ds.map (·.1) → Reps mg W (kvs.map (·.2)) (ds.map (·.2)) →
    (valD ds k = none ∧ valV kvs k = none) ∨ ∃ v d, valD ds k = some d ∧ valV kvs k = some v ∧ Rep mg W v d
  | [], [], _, _ => .inl ⟨rfl, rfl⟩
  | p :: kvs, q :: ds, hk, hr => by
    obtain ⟨h1, h2⟩ := List.cons.inj hk
    cases hr with
    | cons r rs =>
      rw [valD_cons, valV_cons]
      by_cases e : q.1 = k
      · rw [if_pos e, if_pos (h1.trans e)]
        exact .inr ⟨_, _, rfl, rfl, r⟩
      · rw [if_neg e, if_neg (fun z => e (h1.symm.trans z))]
        exact val_rep h2 rs
  | [], _ :: _, hk, _ => by cases hk
  | _ :: _, [], hk, _ => by cases hk
theorem any_key {k : Key} : ∀ {kvs : List (Key × V)} {ds : List (Key × D)}, kvs.map (·.1) = ds.map (·.1) → (kvs.any fun kv => decide (kv.1 = k)) = (ds.any fun kv => decide (kv.1 = k))
  | [], [], _ => rfl
  | p :: kvs, q :: ds, hk => by
    obtain ⟨h1, h2⟩ := List.cons.inj hk
    have h1 : p.1 = q.1 := h1
    rw [List.any_cons, List.any_cons, h1, any_key h2]
  | [], _ :: _, hk => by cases hk
  | _ :: _, [], hk => by cases hk
theorem put_rep {W : Wd} {k : Key} {v : V} {d : D} {kvs : List (Key × V)} {ds : List (Key × D)} (hk : kvs.map (·.1) = ds.map (·.1)) (hr : Reps mg W (kvs.map (·.2)) (ds.map (·.2))) (r : Rep mg W v d) :
    (putK kvs k v).map (·.1) = (putKD ds k d).map (·.1) ∧ Reps mg W ((putK kvs k v).map (·.2)) ((putKD ds k d).map (·.2)) := by
  unfold putK putKD
  rw [any_key hk]
  split
  · rename_i hq
    clear hq
    induction kvs generalizing ds with
    | nil =>
      cases ds with
      | nil => exact ⟨rfl, .nil⟩
      | cons q ds => cases hk
    | cons p kvs ih =>
      cases ds with
      | nil => cases hk
      | cons q ds =>
        obtain ⟨h1, h2⟩ := List.cons.inj hk
        cases hr with
        | cons r1 rs =>
          obtain ⟨i1, i2⟩ := ih h2 rs
          simp only [List.map_cons]
          by_cases e : q.1 = k
          · have e' : p.1 = k := h1.trans e
            rw [if_pos e, if_pos e']
            exact ⟨by rw [i1]; exact congrArg (· :: _) h1, .cons r i2⟩
          · have e' : ¬ p.1 = k := fun z => e (h1.symm.trans z)
            rw [if_neg e, if_neg e']
            exact ⟨by rw [i1]; exact congrArg (· :: _) h1, .cons r1 i2⟩
  · rw [List.map_append, List.map_append, List.map_append, List.map_append]
    exact ⟨by rw [hk]; rfl, hr.append (.cons r .nil)⟩
theorem DGet.kf {H : Hp} {a : Addr} {o : Obj} {kvs : List (Key × V)} {k : Key} (e : H a = some (.frz o (.dK kvs))) : DGet H a (kV k) (valV kvs k) := .inl ⟨kvs, k, .inr ⟨o, e⟩, rfl, rfl⟩
def rdDGet : RD2 := fun x y Q => match x with
  | .dct kvs => ∃ k d, keyD y = some k ∧ valD kvs k = some d ∧ Q d
  | _ => False
theorem de_dget {k : Nat} {a b : Expr} {fa fb : DTE} (hr : ∀ j, RmG k (Xs j).A) (ha : DE Xs mg Wx a fa) (hb : DE Xs mg Wx b fb) (hs : NoSl b := by exact fun _ _ => rfl) : DE Xs mg Wx (.Subscript a b pos) (dOp rdDGet fa fb) := by
  obtain ⟨ta, a1, a2⟩ := ha
  obtain ⟨tb, b1, b2⟩ := hb
  refine ⟨tDGet ta tb, fun j => pe_dget (by have := (hr j).r.un; omega) (a1 j) (b1 j) hs, ?_⟩
  refine Cp.op (r := fun x y H Q => ∃ a v, x = .ref a ∧ DGet H a y (some v) ∧ Q v H) ?_ a2 b2
  intro W H x y dx dy Q Q' hh rx ry h q
  unfold rdDGet at h
  split at h
  · obtain ⟨k, d, h1, h2, h3⟩ := h
    cases rx with
    | dct ha hk rs =>
      have ey := keyD_v ry h1
      subst ey
      rcases val_rep (k := k) hk rs with ⟨z, _⟩ | ⟨v, d', z1, z2, z3⟩
      · rw [z] at h2
        cases h2
      · rw [z1] at h2
        cases h2
        refine ⟨_, v, rfl, ?_, q W H _ _ (Step.refl hh) z3 h3⟩
        rw [← z2]
        exact DGet.kf (hh.same _ _ ha)
  · exact h.elim
end
end FP
/-! FP18: dict comprehensions. -/
namespace FP
open PySem L2
variable [Tabl]
section
variable {ι : Type} {Xs : ι → Cx} {mg : Gm} {Wx : WX} {pos : Pos}
def dcD (body : D → (Option (Key × D) → Prop) → Prop) : List D → List (Key × D) → (List (Key × D) → Prop) → Prop
  | [], acc, Q => Q acc
  | d :: ds, acc, Q => body d fun o => match o with
    | some kv => dcD body ds (putKD acc kv.1 kv.2) Q
    | none => dcD body ds acc Q
abbrev dDc (w : DTI) (T : Tg) (ft : DTT) (fk fv : DTE) (vs : List Nat) : DTE := fun ρ Q E => w ρ (fun ds => ds.length ≤ sizeLine ∧ dcD (fun d k => ∃ ρ2, T.put d (wipeD ρ vs) = some ρ2 ∧ ft ρ2 (fun b => bit b
  (fk ρ2 (fun y => fv ρ2 (fun z => ∃ kk, keyD y = some kk ∧ k (some (kk, z))) F0) F0) (k none)) F0) ds [] fun kvs => Q (.dct kvs)) E
theorem putKD_len (kvs : List (Key × D)) (k : Key) (v : D) : (putKD kvs k v).length ≤ kvs.length + 1 := by
  unfold putKD
  split
  · rw [List.length_map]; omega
  · rw [List.length_append]; exact Nat.le_refl _
theorem Rep.newDct {W : Wd} {kvs : List (Key × V)} {ds : List (Key × D)} {p : Addr} {o : Obj} (hk : kvs.map (·.1) = ds.map (·.1)) (r : Reps mg W (kvs.map (·.2)) (ds.map (·.2))) (n : W.H p = none) : Rep mg (W.put p (.frz o (.dK kvs))) (.ref p) (.dct ds) :=
  .dct (show upd W.H p _ p = _ from upd_same) hk (r.mono (Wd.le_put n))
theorem len_keys {kvs : List (Key × V)} {ds : List (Key × D)} (h : kvs.map (·.1) = ds.map (·.1)) : kvs.length = ds.length := by
  have := congrArg List.length h
  simpa using this
structure AccD (mg : Gm) (A : Addr) (W : Wd) (H : Hp) (us : List (Key × V)) (acc : List (Key × D)) (n : Nat) : Prop where
  h : H A = some (.dK us)
  w : W.H A = none
  t : ¬ W.T A
  k : us.map (·.1) = acc.map (·.1)
  r : Reps mg W (us.map (·.2)) (acc.map (·.2))
  l : acc.length ≤ n
theorem AccD.step {W W' : Wd} {H H' : Hp} {A : Addr} {us : List (Key × V)} {acc : List (Key × D)} {n : Nat} (I : AccD mg A W H us acc n) (s : Step W H W' H') : AccD mg A W' H' us acc n := by
  obtain ⟨h1, h2, h3⟩ := s.mine I.h I.w I.t
  exact ⟨h1, h2, h3, I.k, I.r.mono s.le, I.l⟩
theorem AccD.put {W : Wd} {H : Hp} {A : Addr} {us : List (Key × V)} {acc : List (Key × D)} {n : Nat} {k : Key} {v : V} {d : D} (I : AccD mg A W H us acc n) (r : Rep mg W v d) : AccD mg A W (upd H A (.dK (putK us k v))) (putK us k v) (putKD acc k d) (n + 1) := by
  obtain ⟨u1, u2⟩ := put_rep (k := k) I.k I.r r
  exact ⟨upd_same, I.w, I.t, u1, u2, Nat.le_trans (putKD_len acc k d) (Nat.succ_le_succ I.l)⟩
def AccDP (mg : Gm) (A : Addr) (W1 : Wd) (H1 : Hp) (n : Nat) (K : List (Key × D) → Prop) : Hp → Prop := fun H' => ∃ W' us acc, Step W1 H1 W' H' ∧ AccD mg A W' H' us acc n ∧ K acc
theorem Cp.dc {wi : TI} {g : TG} {tt : TT} {tk tv : TE} {w : DTI} {T : Tg} {ft : DTT} {fk fv : DTE} {vs : List Nat} (hi : CpI mg Wx wi w) (hg : CpG mg g T) (hv : ∀ i ∈ T.slots, i ∈ vs) (ht : CpT mg Wx0 tt ft) (hk : Cp mg Wx0 tk fk) (he : Cp mg Wx0 tv fv) : Cp mg Wx (tLk (tDc wi g tt tk tv vs)) (dDc w T ft fk fv vs) := by
  intro B ρ Q E hf W σ H Q' hh e x q
  refine hi B ρ _ E hf W σ H _ hh e x fun W1 H1 J ds s1 wk k1 => ?_
  obtain ⟨hsz, k1⟩ := k1
  intro A hA
  have e1 := e.step s1
  refine ⟨fun i m H' => m = ds.length - i ∧ i ≤ ds.length ∧ AccDP mg A W1 H1 i (fun acc => dcD _ (ds.drop i) acc (fun kvs => Q (.dct kvs))) H',
    ⟨ds.length, rfl, Nat.zero_le _, W1, [], [], Step.lay s1.holds hA, ⟨upd_same, s1.holds.same.free hA, s1.holds.nT hA, rfl, .nil, Nat.le_refl _⟩, k1⟩, ?_⟩
  rintro i m H' ⟨rfl, hi, W', us, acc, s', I, k'⟩
  obtain ⟨go, stop, yld⟩ := wk W' H' s'.le s'.holds
  by_cases hlt : i < ds.length
  · refine .inr ⟨go i hlt, AccDP mg A W1 H1 (i + 1) (fun acc => dcD _ (ds.drop (i + 1)) acc (fun kvs => Q (.dct kvs))), fun H2 q => ⟨ds.length - (i + 1), by omega, rfl, hlt, q⟩, fun y H2 hy => ?_⟩
    obtain ⟨W2, d, s2, hd, r⟩ := yld i y H2 hlt hy
    rw [drop_at hd] at k'
    obtain ⟨ρ1, p1, k2⟩ := k'
    refine hg B W2 H2 y d _ _ ρ1 _ s2.holds r ((e1.step s').step s2 |>.wipe vs) p1 fun σ3 e3 w3 => ?_
    refine ⟨(w3 vs hv).trans (wipe_wipe σ vs), ?_⟩
    refine ht B ρ1 _ _ k2 W2 σ3 H2 _ s2.holds e3 ExR.f0 fun W3 H3 b s3 k3 => ?_
    have I3 := I.step (s2.trans s3)
    cases b with
    | true =>
      rw [if_pos rfl]
      refine hk B ρ1 _ _ k3 W3 σ3 H3 _ s3.holds (e3.step s3) ExR.f0 fun W4 H4 y dy s4 r4 k4 => ?_
      refine he B ρ1 _ _ k4 W4 σ3 H4 _ s4.holds ((e3.step s3).step s4) ExR.f0 fun W5 H5 z dz s5 r5 k5 => ?_
      obtain ⟨kk, h1, k6⟩ := k5
      have ey := keyD_v r4 h1
      subst ey
      have I5 := I3.step (s4.trans s5)
      refine ⟨us, kk, rfl, I5.h, ?_, W5, putK us kk z, putKD acc kk dz, ((s'.trans s2).trans (s3.trans (s4.trans s5))).own hA I5.h I5.w I5.t, I5.put r5, k6⟩
      rw [len_keys I.k]
      exact Nat.lt_of_le_of_lt I.l (Nat.lt_of_lt_of_le hlt hsz)
    | false =>
      rw [if_neg Bool.false_ne_true]
      exact ⟨W3, us, acc, (s'.trans s2).trans s3, ⟨I3.h, I3.w, I3.t, I3.k, I3.r, Nat.le_trans I3.l (Nat.le_succ _)⟩, k3⟩
  · have ei : i = ds.length := by omega
    subst ei
    rw [List.drop_length] at k'
    exact .inl ⟨stop, A, _, rfl, I.h, True.intro, fun od => q (W'.put A (.frz od (.dK us))) _ _ _ (s1.trans ((s'.own hA I.h I.w I.t).taken hA upd_same I.w I.t)) (Rep.newDct I.k I.r I.w) k'⟩
end
end FP
/-! FP19: for x in o, where o's class has an __iter__ that returns iter(self.f), f a tuple. -/
namespace FP
open PySem L2
end FP
/-! FP20: classes as values, classmethods, cls(..). -/
namespace FP
open PySem L2
end FP
/-! FP21: raise X('..'); try .. except X. -/
namespace FP
open PySem L2
variable [Tabl]
section
variable {ι : Type} {Xs : ι → Cx} {mg : Gm} {Wx : WX} {pos : Pos}
/-- a statement that is not reached -/
theorem ds_never {st : Stmt} : DS Xs mg Wx st (fun _ _ => False) := ⟨fun _ _ _ => False, fun _ => ⟨fun _ _ _ _ _ _ h => h.elim⟩, fun _ _ _ _ hf => hf.elim⟩
abbrev dRaise (x : Str) : DTS := fun N ρ => N.rs ⟨x, []⟩ ρ
/-- an own exception without own __init__ -/
structure ExcF (mg : Gm) (x : Str) (C : Addr) (bmB : List Value) (newId : String) : Prop where
  nm : mg.mg x = some (.ref C)
  ei : PySem.W.excIn mg.K C bmB newId = true
  kp : PySem.W.keepIn mg.K (.ref C) = true
  sb : PySem.W.subIn mg.K (.ref C) (.type "BaseException") = some true
  ty : PySem.W.typeIn mg.K (.ref C) = some (.type "type")
theorem ds_raise {x m : Str} {C : Addr} {bmB : List Value} {B newId initId : String} {j : Nat} {p p2 q : Pos} (F : ExcBaseFacts B newId initId bmB) (X : ExcF mg x C bmB newId) (tk : ∀ i, Takes (Xs i) Wx) (hK : ∀ j, (Xs j).K = mg.K := by intro _; rfl) (hM : ∀ j, (Xs j).mg = mg.mg := by intro _; rfl)
    (hc : ∀ j, (Xs j).calm = true := by intro _; rfl) (hg : ∀ j, Gl (Xs j) x := by intro _; rfl) (hdb : (x == ("__debug__" : Str)) = false := by decide) : DS Xs mg Wx (.Raise (some (.Call (.Name x p) [.Constant (.str m) j p2] [] q)) none pos) (dRaise x) := by
  refine ⟨fun _ σ H => Wx (.ref C) none σ H, fun i => ?_, fun W0 B N ρ hf W σ H Ds s e n => ?_⟩
  · have z := ps_raise (pos := pos) (hc i) (tk i) (pmk_own (m := m) (j := j) (p := p) (p2 := p2) (pos := q) (X := Xs i) F (by rw [hK i]; exact X.ei) (by rw [hM i]; exact X.nm) (by rw [hK i]; exact X.kp) (raises_own (by rw [hK i]; exact X.sb) (by rw [hK i]; exact X.ty)) (hg i) hdb)
    exact z
  · exact n.rs W H σ ρ _ _ _ s e ⟨C, X.nm, rfl, .inl ⟨rfl, rfl⟩⟩ hf
/-- which of the errors cs the clause takes -/
structure CatF (mg : Gm) (c : Value) (cs : List Str) (yes : Str → Bool) : Prop where
  cl : ∀ x ∈ cs, ∃ C, mg.mg x = some (.ref C) ∧ PySem.W.exmOne mg.K (.ref C) c = some (yes x)
abbrev trI (Xs : ι → Cx) (W : WX) : Type := { j : ι × List (Addr × Obj) × (Value → Shared → Prop) // Takes ((Xs j.1).tr j.2.1 j.2.2) W ∧ PassesOwn (model (Xs j.1).prog (Xs j.1).w) (Xs j.1).A (Xs j.1).env j.2.2 }
abbrev trF (Xs : ι → Cx) (W : WX) : trI Xs W → Cx := fun j => (Xs j.1.1).tr j.1.2.1 j.1.2.2
abbrev suI (ι : Type) : Type := { j : ι × Addr × Obj × List (Addr × Obj) // ∃ vs, j.2.2.1.data = .fields vs }
abbrev suF (Xs : ι → Cx) : suI ι → Cx := fun j => (Xs j.1.1).suite j.1.2.1 ((j.1.2.1, j.1.2.2.1) :: j.1.2.2.2)
abbrev dTry (cs : List Str) (yes : Str → Bool) (fb fs : DTS) : DTS := fun N ρ => fb { N with rs := fun x ρ' => x.cls ∈ cs ∧ bit (yes x.cls) (fs { N with rs := fun _ _ => False } ρ') (N.rs x ρ') } ρ
theorem ds_try {x : Str} {c : Value} {cs : List Str} {yes : Str → Bool} {body suite : List Stmt} {b₀ : Stmt} {np pos' : Pos} {fb fs : DTS} (hnm : ∀ j, Names (Xs j) x c) (K : CatF mg c cs yes) (tk : ∀ i, Takes (Xs i) Wx)
    (hb : ∀ W : WX, DSs (trF Xs W) mg W body fb) (hsu : DSs (suF Xs) mg Wx0 (b₀ :: suite) fs) (hK : ∀ j, (Xs j).K = mg.K := by intro _; rfl) (hs : ∀ j, (Xs j).stack = (Xs j).env :: (Xs j).outer := by intro _; rfl) (hf : ∀ j, (Xs j).env.frame = some (Xs j).env.locals := by intro _; rfl) :
    DS Xs mg Wx (.Try body [.ExceptHandler (some (.Name x np)) none (b₀ :: suite) pos'] [] [] pos) (dTry cs yes fb fs) := by
  obtain ⟨ts, s1, s2⟩ := hsu
  have hbt : ∃ tb : WX → TS, (∀ W, ∀ i, PSs (trF Xs W i) body (tb W)) ∧ ∀ W, CpS mg W (tb W) fb := by
    refine ⟨fun W => (hb W).choose, fun W => (hb W).choose_spec.1, fun W => (hb W).choose_spec.2⟩
  obtain ⟨tb, b1, b2⟩ := hbt
  refine ⟨fun D σ H => tb (wOnly mg.K c (fun _ _ _ => ts) Wx D) D σ H, fun i => ?_, fun W0 B N ρ hf W σ H Ds s e n => ?_⟩
  · have z := ps_try_only (X := Xs i) (np := np) (pos := pos) (pos' := pos') (tb := tb) (ts := fun _ _ _ => ts) (Wout := Wx) (hs i) (hf i) (hnm i) (tk i) (fun W pn xe h1 h2 => b1 W ⟨(i, pn, xe), h1, h2⟩) (fun a oe cls d pn _ hv => s1 ⟨(i, a, oe, pn), hv⟩)
    rw [hK i] at z
    exact z
  · refine b2 _ W0 B _ ρ hf W σ H Ds s e ⟨n.nx, n.rt, n.bk, n.ct, fun W' H' σ' ρ' cls dd y s' e' r k => ?_⟩
    obtain ⟨hm, k⟩ := k
    obtain ⟨C, hC, hy⟩ := K.cl _ hm
    obtain ⟨C', h1, h2, h3⟩ := id r
    rw [hC] at h1
    cases h1
    subst h2
    refine ⟨_, hy, fun hb a ha => ?_, fun hb => ?_⟩
    · rw [hb] at k
      exact s2 W0 B _ ρ' k W' σ' H' Ds s' e' ⟨n.nx, n.rt, n.bk, n.ct, fun _ _ _ _ _ _ _ _ _ _ k => k⟩
    · rw [hb] at k
      exact n.rs W' H' σ' ρ' _ _ _ s' e' r k
end
end FP
/-! FP22: owned objects: a pure expression reads one as data (view). -/
namespace FP
open PySem L2
variable [Tabl]
def OF.toD : OF → D
  | .d x => x
  | .l xs => .lst xs
  | .ll xss => .lst (xss.map .lst)
def toDs (fs : List (Str × OF)) : List (Str × D) := fs.map fun p => (p.1, p.2.toD)
def plainD : D → Bool
  | .non => true
  | .bl _ => true
  | .int _ => true
  | .str _ => true
  | _ => false
theorem Rep.flat {mg : Gm} {W W' : Wd} {v : V} {d : D} (r : Rep mg W v d) (h : plainD d = true) : Rep mg W' v d := by
  cases r with
  | non => exact .non
  | bl b => exact .bl b
  | int b => exact .int b
  | str b => exact .str b
  | _ => cases h
/-- the world with some addresses as they stand -/
def Wd.seen (W : Wd) (H : Hp) (as : List Addr) : Wd := { W with H := fun b => if b ∈ as then H b else W.H b }
def Wd.cut (W : Wd) (as : List Addr) : Wd := { W with H := fun b => if b ∈ as then none else W.H b }
section
variable {mg : Gm} {B : Hp} {W W' : Wd} {H H' : Hp} {σ : St} {ρ : Env} {as : List Addr}
theorem seen_le (k : ∀ b ∈ as, W.H b = none) : Le W (W.seen H as) := ⟨fun b o e => by
  show (if b ∈ as then H b else W.H b) = some o
  by_cases q : b ∈ as
  · rw [k b q] at e
    cases e
  · rw [if_neg q]
    exact e, fun _ t => t, fun _ t => t⟩
theorem seen_holds (h : Holds W H) (k : ∀ b ∈ as, ¬ W.T b) : Holds (W.seen H as) H := ⟨fun b o e => by
  have e : (if b ∈ as then H b else W.H b) = some o := e
  by_cases q : b ∈ as
  · rw [if_pos q] at e
    exact e
  · rw [if_neg q] at e
    exact h.same b o e, fun a t => by
  obtain ⟨h1, h2⟩ := h.exm a t
  refine ⟨?_, h2⟩
  show (if a ∈ as then H a else W.H a) = none
  rw [if_neg fun q => k a q t]
  exact h1, h.tok, h.tab, h.all⟩
theorem seen_step {W1 : Wd} {H1 : Hp} (s : Step (W.seen H as) H W1 H1) (k : ∀ b ∈ as, W.H b = none) : Step W H (W1.cut as) H1 := by
  refine ⟨⟨fun b o e => ?_, s.le.t, s.le.dc⟩, ⟨fun b o e => ?_, fun a t => ?_, s.holds.tok, s.holds.tab, s.holds.all⟩, s.keep, fun b o e => ?_, s.freshT, s.live⟩
  · show (if b ∈ as then none else W1.H b) = some o
    have q : b ∉ as := fun q => by rw [k b q] at e; cases e
    rw [if_neg q]
    exact s.le.h b o ((seen_le k).h b o e)
  · have e : (if b ∈ as then none else W1.H b) = some o := e
    by_cases q : b ∈ as
    · rw [if_pos q] at e
      cases e
    · rw [if_neg q] at e
      exact s.holds.same b o e
  · obtain ⟨h1, h2⟩ := s.holds.exm a t
    refine ⟨?_, h2⟩
    show (if a ∈ as then none else W1.H a) = none
    by_cases q : a ∈ as
    · rw [if_pos q]
    · rw [if_neg q]
      exact h1
  · show (if b ∈ as then none else W1.H b) = W.H b
    by_cases q : b ∈ as
    · rw [if_pos q, k b q]
    · rw [if_neg q, s.fresh b o e]
      show (if b ∈ as then H b else W.H b) = W.H b
      rw [if_neg q]
theorem seen_in {b : Addr} (h : b ∈ as) : (W.seen H as).H b = H b := if_pos h
theorem Reps.lsts {W : Wd} : ∀ {Ls : List Addr} {xss : List (List D)}, Ls.length = xss.length → (∀ (i : Nat) (l : Addr) (xs : List D), Ls[i]? = some l → xss[i]? = some xs → ∃ vs, W.H l = some (.lst vs) ∧ Reps mg W vs xs) → Reps mg W (Ls.map V.ref) (xss.map D.lst)
  | [], [], _, _ => .nil
  | L :: Ls, xs :: xss, hl, h => by
    obtain ⟨vs, h1, h2⟩ := h 0 L xs rfl rfl
    exact .cons (.lst h1 h2) (Reps.lsts (by simpa using hl) fun i l ys q1 q2 => h (i + 1) l ys q1 q2)
  | [], _ :: _, hl, _ => by cases hl
  | _ :: _, [], hl, _ => by cases hl
theorem OFR.rep {v : V} {x : OF} {bs : List Addr} (h : OFR mg W H v x bs) (l : Le W (W.seen H as)) (k : ∀ b ∈ bs, b ∈ as) : Rep mg (W.seen H as) v x.toD := by
  cases x with
  | d x => exact h.2.mono l
  | l xs =>
    obtain ⟨L, vs, rfl, rfl, h3, h4⟩ := h
    exact .lst (by rw [seen_in (k L (by simp))]; exact h3) (h4.mono l)
  | ll xss =>
    obtain ⟨L, Ls, rfl, rfl, h3, h4, h5⟩ := h
    refine .lst (by rw [seen_in (k L (by simp))]; exact h3) (Reps.lsts h4 fun i b xs q1 q2 => ?_)
    obtain ⟨vs, g1, g2⟩ := h5 i b xs q1 q2
    exact ⟨vs, by rw [seen_in (k b (List.mem_cons_of_mem _ (List.mem_of_getElem? q1)))]; exact g1, g2.mono l⟩
theorem OFs.rep (l : Le W (W.seen H as)) : ∀ {vs : List (Str × V)} {fs : List (Str × OF)} {bs : List Addr}, OFs mg W H vs fs bs → (∀ b ∈ bs, b ∈ as) → vs.map (·.1) = (toDs fs).map (·.1) ∧ Reps mg (W.seen H as) (vs.map (·.2)) ((toDs fs).map (·.2))
  | [], [], _, _, _ => ⟨rfl, .nil⟩
  | (f, v) :: vs, (g, x) :: fs, _, ⟨e, as1, as2, rfl, h1, h2⟩, k => by
    obtain ⟨i1, i2⟩ := OFs.rep l h2 fun b hb => k b (List.mem_append_right _ hb)
    refine ⟨?_, .cons (h1.rep l fun b hb => k b (List.mem_append_left _ hb)) i2⟩
    show f :: vs.map (·.1) = g :: (toDs fs).map (·.1)
    rw [e, i1]
  | [], _ :: _, _, h, _ => h.elim
  | _ :: _, [], _, h, _ => h.elim
/-- the environment seen -/
theorem EnvR.seen (e : EnvR mg B W H σ ρ) {i : Nat} {c : Str} {fs : List (Str × OF)} (hi : ρ[i]? = some (.ow c as fs)) :
    (∀ b ∈ as, W.H b = none ∧ ¬ W.T b) ∧ EnvR mg B (W.seen H as) H σ (ρ.set i (.d (.ins c (toDs fs)))) := by
  obtain ⟨o, h1, a, as', vs, ea, ho, ⟨C, dx, hc, h2⟩, h3, h4, h5⟩ := e.sl i _ hi
  have k : ∀ b ∈ as, W.H b = none ∧ ¬ W.T b := fun b hb => ⟨(h5 b hb).2.1, (h5 b hb).2.2.1⟩
  have l := seen_le (W := W) (H := H) fun b hb => (k b hb).1
  refine ⟨k, by simpa using e.len, fun j sl hj => ?_, fun j m s1 s2 o1 o2 b hjk q1 q2 q3 q4 m1 m2 => ?_⟩
  · rcases get_set hj with ⟨rfl, rfl⟩ | ⟨nj, hj⟩
    · obtain ⟨g1, g2⟩ := OFs.rep (as := as) l h3 fun b hb => by rw [ea]; exact List.mem_cons_of_mem _ hb
      exact ⟨o, h1, _, ho, .ins hc (by rw [seen_in (by rw [ea]; exact List.mem_cons_self)]; exact h2) g1 g2⟩
    · obtain ⟨o', g1, g2⟩ := e.sl j sl hj
      refine ⟨o', g1, g2.keep l fun b hb u h5 h6 h7 => ⟨h5, ?_, h7⟩⟩
      show (if b ∈ as then H b else W.H b) = none
      have nb : b ∉ as := fun q => e.dis i j _ sl o o' b nj hi hj h1 g1 q hb
      rw [if_neg nb]
      exact h6
  · rcases get_set q1 with ⟨_, z⟩ | ⟨n1, q1⟩
    · rw [← z] at m1
      cases m1
    · rcases get_set q2 with ⟨_, z⟩ | ⟨n2, q2⟩
      · rw [← z] at m2
        cases m2
      · exact e.dis j m s1 s2 o1 o2 b hjk q1 q2 q3 q4 m1 m2
end
end FP
/-! FP23: owned objects: what changes them. -/
namespace FP
open PySem L2
variable [Tabl]
def putO (f : Str) (x : OF) : List (Str × OF) → List (Str × OF)
  | [] => []
  | (g, y) :: r => if f == g then (g, x) :: r else (g, y) :: putO f x r
section
variable {mg : Gm} {B : Hp} {W : Wd} {H : Hp} {σ : St} {ρ : Env} {as : List Addr}
/-- a field is found; another thing is put in its place, its address kept -/
theorem OFs.get {f : Str} {x : OF} : ∀ {vs : List (Str × V)} {fs : List (Str × OF)} {as : List Addr}, OFs mg W H vs fs as → fs.lookup f = some x → as.Nodup →
    ∃ v pre bs post, vs.lookup f = some v ∧ as = pre ++ (bs ++ post) ∧ OFR mg W H v x bs ∧
      ∀ x' bs' H', (∀ b u, H b = some u → b ∉ bs → H' b = some u) → OFR mg W H' v x' bs' → OFs mg W H' vs (putO f x' fs) (pre ++ (bs' ++ post))
  | [], [], _, _, hl, _ => by cases hl
  | (g, v) :: vs, (g', y) :: fs, as, ⟨e, as1, as2, ea, h1, h2⟩, hl, nd => by
    subst e
    rw [List.lookup_cons] at hl
    rw [List.lookup_cons]
    rw [ea] at nd
    by_cases q : (f == g) = true
    · rw [q] at hl ⊢
      cases hl
      refine ⟨v, [], as1, as2, rfl, ea, h1, fun x' bs' H' hH r => ?_⟩
      have ep : putO f x' ((g, x) :: fs) = (g, x') :: fs := by
        show (if (f == g) = true then _ else _) = _
        rw [if_pos q]
      rw [ep]
      refine ⟨rfl, bs', as2, rfl, r, h2.keep (Le.refl W) fun b hb u hu => hH b u hu fun z => ?_⟩
      exact (List.nodup_append.mp nd).2.2 b z b hb rfl
    · have q : (f == g) = false := by simpa using q
      rw [q] at hl ⊢
      obtain ⟨w, pre, bs, post, g1, g2, g3, g4⟩ := OFs.get h2 hl (List.nodup_append.mp nd).2.1
      refine ⟨w, as1 ++ pre, bs, post, g1, by rw [ea, g2, List.append_assoc], g3, fun x' bs' H' hH r => ?_⟩
      have ep : putO f x' ((g, y) :: fs) = (g, y) :: putO f x' fs := by
        show (if (f == g) = true then _ else _) = _
        rw [q, if_neg Bool.false_ne_true]
      rw [ep, List.append_assoc]
      refine ⟨rfl, as1, _, rfl, h1.keep (Le.refl W) fun b hb u hu => hH b u hu fun z => ?_, g4 x' bs' H' hH r⟩
      exact (List.nodup_append.mp nd).2.2 b hb b (by rw [g2]; exact List.mem_append_right _ (List.mem_append_left _ z)) rfl
  | [], _ :: _, _, h, _, _ => h.elim
  | _ :: _, [], _, h, _, _ => h.elim
end
end FP
/-! FP24: owned objects: fields stored. -/
namespace FP
open PySem L2
variable [Tabl]
/-- a field is put, at the end if it is new -/
def setO (f : Str) (x : OF) : List (Str × OF) → List (Str × OF)
  | [] => [(f, x)]
  | (g, y) :: r => if g = f then (f, x) :: r else (g, y) :: setO f x r
section
variable {mg : Gm} {B : Hp} {W : Wd} {H : Hp} {σ : St} {ρ : Env} {as : List Addr}
theorem OFs.length : ∀ {vs : List (Str × V)} {fs : List (Str × OF)} {as : List Addr}, OFs mg W H vs fs as → vs.length = fs.length
  | [], [], _, _ => rfl
  | _ :: _, _ :: _, _, ⟨_, _, _, _, _, h⟩ => congrArg (· + 1) (OFs.length h)
  | [], _ :: _, _, h => h.elim
  | _ :: _, [], _, h => h.elim
/-- a datum's field may be stored -/
def datF (f : Str) (fs : List (Str × OF)) : Bool := match fs.lookup f with
  | none => true
  | some (.d _) => true
  | _ => false
theorem OFs.put {f : Str} {v : V} {d : D} (r : Rep mg W v d) : ∀ {vs : List (Str × V)} {fs : List (Str × OF)} {as : List Addr}, OFs mg W H vs fs as → datF f fs = true → OFs mg W H (putF f v vs) (setO f (.d d) fs) as
  | [], [], as, h, _ => by
    have h : as = [] := h
    subst h
    exact ⟨rfl, [], [], rfl, ⟨rfl, r⟩, rfl⟩
  | (g, w) :: vs, (g', y) :: fs, as, ⟨e, as1, as2, ea, h1, h2⟩, hd => by
    subst e
    unfold putF setO
    by_cases q : g = f
    · rw [if_pos q, if_pos q]
      have hy : ∃ d0, y = .d d0 := by
        unfold datF at hd
        rw [List.lookup_cons, show (f == g) = true from by rw [q]; exact beq_self_eq_true f] at hd
        cases y with
        | d d0 => exact ⟨d0, rfl⟩
        | l _ => cases hd
        | ll _ => cases hd
      obtain ⟨d0, rfl⟩ := hy
      obtain ⟨z, _⟩ := h1
      subst z
      exact ⟨q, [], as2, ea, ⟨rfl, r⟩, h2⟩
    · rw [if_neg q, if_neg q]
      refine ⟨rfl, as1, as2, ea, h1, OFs.put r h2 ?_⟩
      unfold datF at hd ⊢
      rw [List.lookup_cons, show (f == g) = false from by simpa using fun z => q z.symm] at hd
      exact hd
  | [], _ :: _, _, h, _ => h.elim
  | _ :: _, [], _, h, _ => h.elim
end
end FP
/-! FP25: owned objects: a new field that holds a new list (x.f = []), or a new list of new lists (x.f = [[]]). -/
namespace FP
open PySem L2
variable [Tabl]
section
variable {mg : Gm} {B : Hp} {W : Wd} {H : Hp} {σ : St} {ρ : Env}
theorem OFs.snoc {f : Str} {v : V} {x : OF} {bs : List Addr} (r : OFR mg W H v x bs) : ∀ {vs : List (Str × V)} {fs : List (Str × OF)} {as : List Addr}, OFs mg W H vs fs as → fs.lookup f = none → OFs mg W H (putF f v vs) (fs ++ [(f, x)]) (as ++ bs)
  | [], [], as, h, _ => by
    have h : as = [] := h
    subst h
    exact ⟨rfl, bs, [], by simp, r, rfl⟩
  | (g, w) :: vs, (g', y) :: fs, as, ⟨e, as1, as2, ea, h1, h2⟩, hl => by
    subst e
    rw [List.lookup_cons] at hl
    have q : (f == g) = false := by
      cases z : f == g with
      | false => rfl
      | true => rw [z] at hl; cases hl
    rw [q] at hl
    unfold putF
    rw [if_neg fun z => by rw [z, beq_self_eq_true] at q; cases q]
    exact ⟨rfl, as1, as2 ++ bs, by rw [ea, List.append_assoc], h1, OFs.snoc r h2 hl⟩
  | [], _ :: _, _, h, _ => h.elim
  | _ :: _, [], _, h, _ => h.elim
end
section
variable {ι : Type} {Xs : ι → Cx} {mg : Gm} {Wx : WX} {pos : Pos}
theorem Step.noB {W0 W : Wd} {B H : Hp} (s : Step W0 B W H) {p : Addr} (h : H p = none) : B p = none := by
  cases q : B p with
  | none => rfl
  | some o =>
    obtain ⟨o', e'⟩ := s.live p o q
    rw [e'] at h
    cases h
end
end FP
/-! FP26: owned lists of owned lists: x.f.append([]), x.f[-1].append(e), y = x.f.pop(). -/
namespace FP
open PySem L2
end FP
/-! FP27: x.f[-1].append(e). -/
namespace FP
open PySem L2
end FP
/-! FP28: y = x.f.pop() of an owned list of owned lists. -/
namespace FP
open PySem L2
variable [Tabl]
section
variable {mg : Gm} {B : Hp} {W : Wd} {H : Hp} {σ : St} {ρ : Env}
/-- a place gets what no place has -/
theorem EnvR.move (e : EnvR mg B W H σ ρ) {k : Nat} {o : Option V} {s : Sl} (n : ∀ (j : Nat) (t : Sl) (o' : Option V) (b : Addr), j ≠ k → ρ[j]? = some t → σ[j]? = some o' → b ∈ t.fp o' → b ∈ s.fp o → False) (r : SlR mg B W H o s) : EnvR mg B W H (σ.set k o) (ρ.set k s) := by
  refine ⟨by simpa using e.len, fun j sl hj => ?_, fun j m s1 s2 o1 o2 a hjk h1 h2 h3 h4 m1 m2 => ?_⟩
  · rcases get_set hj with ⟨rfl, rfl⟩ | ⟨nj, hj⟩
    · have hl : k < ρ.length := by simpa using (List.getElem?_eq_some_iff.mp hj).1
      exact ⟨o, by rw [List.getElem?_set_self (by rw [e.len]; exact hl)], r⟩
    · obtain ⟨o', h1, h2⟩ := e.sl j sl hj
      exact ⟨o', by rw [List.getElem?_set_ne nj]; exact h1, h2⟩
  · rcases get_set h1 with ⟨e1, z1⟩ | ⟨n1, h1⟩
    · rcases get_set h2 with ⟨q, _⟩ | ⟨n2, h2⟩
      · exact hjk (e1.symm.trans q)
      · rw [List.getElem?_set_ne n2] at h4
        rcases get_set h3 with ⟨_, q⟩ | ⟨q, _⟩
        · rw [← z1, ← q] at m1
          exact n m s2 o2 a (Ne.symm n2) h2 h4 m2 m1
        · exact q e1
    · rcases get_set h2 with ⟨e2, z2⟩ | ⟨n2, h2⟩
      · rw [List.getElem?_set_ne n1] at h3
        rcases get_set h4 with ⟨_, q⟩ | ⟨q, _⟩
        · rw [← z2, ← q] at m2
          exact n j s1 o1 a (Ne.symm n1) h1 h3 m1 m2
        · exact q e2
      · rw [List.getElem?_set_ne n1] at h3
        rw [List.getElem?_set_ne n2] at h4
        exact e.dis j m s1 s2 o1 o2 a hjk h1 h2 h3 h4 m1 m2
end
end FP
/-! FP29: methods that change an owned object; making an owned object; handing it to the world. -/
namespace FP
open PySem L2
variable [Tabl]
/-- the heap without some addresses -/
def offH (H : Hp) (as : List Addr) : Hp := fun b => if b ∈ as then none else H b
theorem offH_in {H : Hp} {as : List Addr} {b : Addr} (h : b ∈ as) : offH H as b = none := if_pos h
theorem offH_out {H : Hp} {as : List Addr} {b : Addr} (h : b ∉ as) : offH H as b = H b := if_neg h
theorem offH_some {H : Hp} {as : List Addr} {b : Addr} {o : HO} (h : offH H as b = some o) : b ∉ as ∧ H b = some o := by
  by_cases q : b ∈ as
  · rw [offH_in q] at h
    cases h
  · rw [offH_out q] at h
    exact ⟨q, h⟩
theorem Step.off {W : Wd} {H : Hp} {as : List Addr} (h : Holds W H) : Step W (offH H as) W H :=
  ⟨Le.refl W, h, fun _ _ e _ => (offH_some e).2, fun _ _ _ => rfl, fun _ t => .inl t, fun _ o e => ⟨o, (offH_some e).2⟩⟩
theorem Step.over {W0 W W' : Wd} {B H H' : Hp} {as : List Addr} (a : Step W0 B W H) (k : ∀ b ∈ as, B b = none) (b : Step W (offH H as) W' H') : Step W0 B W' H' where
  le := a.le.trans b.le
  holds := b.holds
  keep := fun c o e n => by
    have nc : c ∉ as := fun z => by rw [k c z] at e; cases e
    refine b.keep c o (by rw [offH_out nc]; exact a.keep c o e n) fun t => ?_
    rcases a.freshT c t with t | t
    · exact n t
    · rw [e] at t
      cases t
  fresh := fun c o e => by
    have nc : c ∉ as := fun z => by rw [k c z] at e; cases e
    obtain ⟨o', e'⟩ := a.live c o e
    rw [b.fresh c o' (by rw [offH_out nc]; exact e'), a.fresh c o e]
  freshT := fun c t => by
    rcases b.freshT c t with t | t
    · exact a.freshT c t
    · refine .inr ?_
      cases q : B c with
      | none => rfl
      | some o =>
        have nc : c ∉ as := fun z => by rw [k c z] at q; cases q
        obtain ⟨o', e'⟩ := a.live c o q
        rw [offH_out nc, e'] at t
        cases t
  live := fun c o e => by
    have nc : c ∉ as := fun z => by rw [k c z] at e; cases e
    obtain ⟨o', e'⟩ := a.live c o e
    exact b.live c o' (by rw [offH_out nc]; exact e')
section
variable {mg : Gm} {B B' : Hp} {W W' : Wd} {H H' : Hp} {σ : St} {ρ : Env} {as : List Addr}
theorem SlR.rebase {o : Option V} {s : Sl} (h : SlR mg B W H o s) (k : ∀ a ∈ s.fp o, B a = none → B' a = none) : SlR mg B' W H o s := by
  cases s with
  | no => exact h
  | exc => exact h
  | d x => exact h
  | own xs =>
    obtain ⟨a, vs, h1, h2, h3, h4, h5, r⟩ := h
    subst h1
    exact ⟨a, vs, rfl, h2, h3, h4, k a (List.mem_singleton.mpr rfl) h5, r⟩
  | od xs =>
    obtain ⟨a, vs, h1, h2, h3, h4, h5, r⟩ := h
    subst h1
    exact ⟨a, vs, rfl, h2, h3, h4, k a (List.mem_singleton.mpr rfl) h5, r⟩
  | ob c a fs =>
    obtain ⟨vs, h1, h2, h3, h4, h5, r⟩ := h
    exact ⟨vs, h1, h2, h3, h4, k a (List.mem_singleton.mpr rfl) h5, r⟩
  | ow c as fs =>
    obtain ⟨a, as', vs, h1, h2, h3, h4, h5, h6⟩ := h
    exact ⟨a, as', vs, h1, h2, h3, h4, h5, fun b hb => ⟨(h6 b hb).1, (h6 b hb).2.1, (h6 b hb).2.2.1, k b hb (h6 b hb).2.2.2⟩⟩
  | o2 as x =>
    obtain ⟨a, Ls, h1, h2, h3, h4, h6⟩ := h
    exact ⟨a, Ls, h1, h2, h3, h4, fun b hb => ⟨(h6 b hb).1, (h6 b hb).2.1, (h6 b hb).2.2.1, k b hb (h6 b hb).2.2.2⟩⟩
  | hv f =>
    obtain ⟨a, h1, h2, h3, h4, h5⟩ := h
    subst h1
    exact ⟨a, rfl, h2, h3, h4, k a (List.mem_singleton.mpr rfl) h5⟩
/-- what is mine at a place was changed by a callee -/
theorem EnvR.over (e : EnvR mg B W H σ ρ) {i : Nat} {o : Option V} {s s' : Sl} (hi : ρ[i]? = some s) (hs : σ[i]? = some o) (st : Step W (offH H (s.fp o)) W' H') (hn : ∀ a ∈ s'.fp o, a ∈ s.fp o ∨ H a = none) (r : SlR mg B W' H' o s') : EnvR mg B W' H' σ (ρ.set i s') := by
  have off : ∀ (j : Nat) (t : Sl) (o' : Option V) (b : Addr), j ≠ i → ρ[j]? = some t → σ[j]? = some o' → b ∈ t.fp o' → b ∈ s'.fp o → False := fun j t o' b nj h1 h2 m m' => by
    rcases hn b m' with z | z
    · exact e.dis j i t s o' o b nj h1 hi h2 hs m z
    · obtain ⟨o2, h3, h4⟩ := e.sl j _ h1
      rw [h2] at h3
      cases h3
      obtain ⟨u', h6, _⟩ := h4.at m
      rw [z] at h6
      cases h6
  refine ⟨by simpa using e.len, fun j sl hj => ?_, fun j k s1 s2 o1 o2 a hjk h1 h2 h3 h4 m1 m2 => ?_⟩
  · rcases get_set hj with ⟨rfl, rfl⟩ | ⟨nj, hj⟩
    · exact ⟨_, hs, r⟩
    · obtain ⟨o', h1, h2⟩ := e.sl j sl hj
      exact ⟨o', h1, h2.keep st.le fun a ha u h5 h6 h7 => st.mine (by rw [offH_out fun z => e.dis i j s sl o o' a nj hi hj hs h1 z ha]; exact h5) h6 h7⟩
  · rcases get_set h1 with ⟨e1, z1⟩ | ⟨n1, h1⟩
    · rcases get_set h2 with ⟨q, _⟩ | ⟨n2, h2⟩
      · exact hjk (e1.symm.trans q)
      · subst e1
        rw [hs] at h3
        cases h3
        rw [← z1] at m1
        exact off k s2 o2 a (Ne.symm n2) h2 h4 m2 m1
    · rcases get_set h2 with ⟨e2, z2⟩ | ⟨n2, h2⟩
      · subst e2
        rw [hs] at h4
        cases h4
        rw [← z2] at m2
        exact off j s1 o1 a (Ne.symm n1) h1 h3 m1 m2
      · exact e.dis j k s1 s2 o1 o2 a hjk h1 h2 h3 h4 m1 m2
end
/-! ### the promise of a method that changes its object -/
end FP
/-! FP30: t == (), t != (); max of a list; x, y = [], e; a def that is not called. -/
namespace FP
open PySem L2
variable [Tabl]
section
variable {ι : Type} {Xs : ι → Cx} {mg : Gm} {Wx : WX} {pos : Pos}
/-! ### max of a list of ints -/
def intsD : List D → Option (List Int)
  | [] => some []
  | .int i :: r => (intsD r).map (i :: ·)
  | _ :: _ => none
theorem intsD_map : ∀ ns : List Int, intsD (ns.map D.int) = some ns
  | [] => rfl
  | n :: r => by
    show (intsD (r.map D.int)).map (n :: ·) = _
    rw [intsD_map r]
    rfl
theorem intsD_inv {d : D} {r : List D} {ns : List Int} (h : intsD (d :: r) = some ns) : ∃ i ms, d = .int i ∧ intsD r = some ms ∧ ns = i :: ms := by
  cases d with
  | int i =>
    have h : (intsD r).map (i :: ·) = some ns := h
    cases q : intsD r with
    | none => rw [q] at h; cases h
    | some ms =>
      rw [q] at h
      exact ⟨i, ms, rfl, rfl, (Option.some.inj h).symm⟩
  | _ => cases h
theorem intsD_v {W : Wd} : ∀ {xs : List D} {vs : List V} {ns : List Int}, Reps mg W vs xs → intsD xs = some ns → vs = ns.map V.int := by
  intro xs
  induction xs with
  | nil =>
    intro vs ns r h
    cases h
    cases r
    rfl
  | cons d r' ih =>
    intro vs ns r h
    obtain ⟨i, ms, rfl, h1, rfl⟩ := intsD_inv h
    cases r with
    | cons r rs =>
      rw [r.intI, ih rs h1]
      rfl
/-! ### x, y = [..], e -/
end
end FP
/-! FP31: class facts put together; special methods by their bodies. -/
namespace FP
open PySem L2
variable [Tabl]
section
variable {mg : Gm}
theorem kit_no {n : String} {C : Addr} (ic : PySem.W.isClsIn mg.K C = true) (ty : PySem.W.typeIn mg.K (.ref C) = some (.type "type")) (h : PySem.W.subIn mg.K (.type n) (.ref C) = some false) : PySem.W.kitOne mg.K (.type n) (.ref C) = some false := by
  have e : (Value.type n == Value.ref C) = false := rfl
  unfold PySem.W.kitOne
  rw [e, if_neg Bool.false_ne_true]
  show (if ((PySem.W.clsIn mg.K C).isSome && PySem.W.typeIn mg.K (.ref C) == some (.type "type")) = true then PySem.W.subIn mg.K (.type n) (.ref C) else none) = _
  have ic : (PySem.W.clsIn mg.K C).isSome = true := ic
  rw [ic, ty, h]
  rfl
theorem isi_mk {c : Str} {C : Addr} (F : ClsF mg c C) (ic : PySem.W.isClsIn mg.K C = true) (ty : PySem.W.typeIn mg.K (.ref C) = some (.type "type")) (h0 : PySem.W.subIn mg.K (.type "NoneType") (.ref C) = some false) (h1 : PySem.W.subIn mg.K (.type "bool") (.ref C) = some false) (h2 : PySem.W.subIn mg.K (.type "int") (.ref C) = some false) (h3 : PySem.W.subIn mg.K (.type "str") (.ref C) = some false)
    (h4 : PySem.W.subIn mg.K (.type "tuple") (.ref C) = some false) (h5 : PySem.W.subIn mg.K (.type "list") (.ref C) = some false) (h6 : PySem.W.subIn mg.K (.type "dict") (.ref C) = some false) : IsiF mg C [c] (fun _ => true) := by
  refine ⟨fun n hn => kit_no ic ty ?_, fun x hx => ?_⟩
  · simp only [List.mem_cons, List.not_mem_nil, or_false] at hn
    rcases hn with rfl | rfl | rfl | rfl | rfl | rfl | rfl <;> assumption
  · rw [List.mem_singleton.mp hx]
    exact ⟨C, F, if_pos (beq_self_eq_true _)⟩
theorem eqF_mk {c : Str} {C : Addr} (F : ClsF mg c C) (h0 : PySem.W.notFirst mg.K C (.type "NoneType") = true) (h1 : PySem.W.notFirst mg.K C (.type "bool") = true) (h2 : PySem.W.notFirst mg.K C (.type "int") = true) (h3 : PySem.W.notFirst mg.K C (.type "str") = true)
    (h4 : PySem.W.notFirst mg.K C (.type "tuple") = true) (h5 : PySem.W.notFirst mg.K C (.type "list") = true) (h6 : PySem.W.notFirst mg.K C (.type "dict") = true) (h7 : PySem.W.notFirst mg.K C (.ref C) = true) : EqF mg C [c] := by
  refine ⟨fun n hn => ?_, fun x hx => ?_⟩
  · simp only [List.mem_cons, List.not_mem_nil, or_false] at hn
    rcases hn with rfl | rfl | rfl | rfl | rfl | rfl | rfl <;> assumption
  · rw [List.mem_singleton.mp hx]
    exact ⟨C, F, h7⟩
theorem mkSpec {P : Program} {w : World} {base : Heap} {C : Addr} {m qual : Str} {st : Stmt} {N ps : List Str} {k : Nat} {f : List D → M D} (d : ∃ fa fd, (Meth mg.K C m fa ∧ PySem.W.fnIn mg.K fa = true) ∧ Fun mg.K m qual st fa fd) (S : FnScope N ps (defScope st))
    (hb : ∀ (kV doc pm : Value) (an : Option Addr) (cdv ct : Value) (us : List Value), us.length = ps.length → bindArgs (PySem.W.fnOf m qual (defArgs st) (defBody st) (defScope st) .none kV doc pm an cdv ct) ⟨us, []⟩ = pure (ps.zip us))
    (h : ∀ (fa : Addr) (cdv : Value) (A : Around) (outer : List PySem.Env) (s : Shared) (H : Hp) (E : XK), RmG k (A.deeper (PyProof.Rows.envOfC qual (defScope st) s.heap.objs.size fa cdv)) →
      ∃ g, DSs (fun _ : Unit => cxOf (L2.CX P w) P w mg.K mg.mg base N qual (defScope st) fa cdv A outer s H E) mg (fun cls d _ H' => E cls d H') (defBody st) g ∧
        ∀ ds Q Ex, ds.length = ps.length → f ds Q Ex → g ⟨fun _ => Q .non, fun d _ => Q d, fun _ => False, fun _ => False, fun x _ => Ex x⟩ (startD N.length ds)) :
    SpecOk P w mg base (k + 1) C m ps.length f := by
  obtain ⟨fa, fd, ⟨hm, hf⟩, F⟩ := d
  exact ⟨fa, fd, ps, hm.at_, hm.fn, hf, F.binds hb, rfl, def_ok F S (h fa)⟩
theorem FnG.imp {P : Program} {w : World} {K : PySem.W.Frag} {mg : Str → Option Value} {base : Heap} {k : Nat} {f : Addr} {fd : FuncData} {ps : List Str} {sp sp' : Sp} (F : FnG P w K mg base k f fd ps sp) (h : ∀ vs H Q E, sp' vs H Q E → sp vs H Q E) : FnG P w K mg base k f fd ps sp' :=
  ⟨fun vs H Q E hs => F.ln vs H Q E (h vs H Q E hs), fun A out z H ag us vs Q E m e0 bd rv hs => F.go A out z H ag us vs Q E m e0 bd rv (h vs H Q E hs)⟩
theorem spD_imp {n : Nat} {f f' : List D → M D} (h : ∀ ds Q E, f' ds Q E → f ds Q E) : ∀ vs H Q E, spD mg n f' vs H Q E → spD mg n f vs H Q E := by
  rintro vs H Q E ⟨W, ds, Qd, Ed, h1, h2, h3, h4, h5⟩
  exact ⟨W, ds, Qd, Ed, h1, h2, h3, h ds Qd Ed h4, h5⟩
theorem DefOk.mono {P : Program} {w : World} {base : Heap} {k k' n : Nat} {x : Str} {f f' : List D → M D} (F : DefOk P w mg base k x n f) (hk : k ≤ k') (h : ∀ ds Q E, f' ds Q E → f ds Q E) : DefOk P w mg base k' x n f' := by
  obtain ⟨fa, fd, ps, h1, h2, h3, h4, G⟩ := F.ex
  exact ⟨fa, fd, ps, h1, h2, h3, h4, (G.up hk).imp (spD_imp h)⟩
/-- nothing is caught -/
theorem CatF.nil {c : Value} {yes : Str → Bool} : CatF mg c [] yes := ⟨fun _ h => absurd h List.not_mem_nil⟩
end
end FP
/-! FP32: max(e, default=d) of whole numbers. -/
namespace FP
open PySem PyProof.Rows L2
end FP
/-! FP33: binary operators of own objects. -/
namespace FP
open PySem PyProof.Rows L2
end FP
/-! FP34: dicts walked (keys, values, items), d.get(k, x), dict(rows of pairs). -/
namespace FP
open PySem L2
end FP
/-! FP35: a list comprehension whose element raises. -/
namespace FP
open PySem L2
/-! ### the comprehension: what is wanted of an error, with the frame known -/
/-! ### the block's context, with a wish about errors -/
end FP
/-! FP36: the list comprehension whose element raises, by data. -/
namespace FP
open PySem L2
end FP
/-! FP37: a lambda without parameters is made: the heap behind it, told exactly. -/
namespace FP
open PySem L2 LamX
variable [Tabl]
/-- the heap behind the making: the same, or with one entry more in the table and a new code object -/
def Made (H : Hp) (P : Addr) (q : Str) (H1 : Hp) : Prop := H1 = H ∨ ∃ ps more c, H P = some (.tbl ps) ∧ H c = none ∧ H1 = upd (upd H P (.tbl (ps ++ more))) c (CodeO c q)
/-- the world is borne behind the making -/
theorem Made.step {W : Wd} {H H1 : Hp} {P : Addr} {q : Str} (hh : Holds W H) (mem : (P, q) ∈ Tabl.B) (m : Made H P q H1) (tabs : Tabs Tabl.B H1) : Step W H W H1 := by
  rcases m with rfl | ⟨ps, more, c, hP, nC, rfl⟩
  · exact Step.refl hh
  have tP : W.T P := (hh.tab _ mem).1
  have at' : ∀ b, b ≠ P → b ≠ c → upd (upd H P (.tbl (ps ++ more))) c (CodeO c q) b = H b := fun b h1 h2 => by rw [upd_ne h2, upd_ne h1]
  have atP : upd (upd H P (.tbl (ps ++ more))) c (CodeO c q) P = some (.tbl (ps ++ more)) := by rw [upd_ne (ne_of_none hP nC), upd_same]
  have nc : ∀ {b u}, H b = some u → b ≠ c := fun e => ne_of_none e nC
  have live : ∀ b o, H b = some o → ∃ o', upd (upd H P (.tbl (ps ++ more))) c (CodeO c q) b = some o' := fun b o e => by
    by_cases hb : b = P
    · rw [hb, atP]
      exact ⟨_, rfl⟩
    · rw [at' b hb (nc e)]
      exact ⟨o, e⟩
  have nP : ∀ b o, W.H b = some o → b ≠ P := fun b o e k => by
    rw [k, (hh.exm P tP).1] at e
    cases e
  refine ⟨Le.refl W, ⟨fun b o e => ?_, fun a t => ?_, fun a t => ?_, fun p hp => ⟨(hh.tab p hp).1, tabs p hp⟩, fun b qs e => ?_⟩, fun b o e nt => ?_, fun _ _ _ => rfl, fun _ t => .inl t, live⟩
  · rw [at' b (nP b o e) (nc (hh.same b o e))]
    exact hh.same b o e
  · obtain ⟨h1, o, h2⟩ := hh.exm a t
    exact ⟨h1, live a o h2⟩
  · obtain ⟨h1, x, y, z, h2⟩ := hh.tok a t
    have ne : a ≠ P := fun k => by
      rw [k, hP] at h2
      cases h2
    exact ⟨h1, x, y, z, by rw [at' a ne (nc h2)]; exact h2⟩
  · by_cases hb : b = P
    · exact ⟨q, by rw [hb]; exact mem⟩
    · by_cases hc : b = c
      · rw [hc, upd_same] at e
        exact absurd (Option.some.inj e) (codeO_ne _)
      · rw [at' b hb hc] at e
        exact hh.all b qs e
  · have ne : b ≠ P := fun k => nt (by rw [k]; exact tP)
    rw [at' b ne (nc e)]
    exact e
end FP
/-! FP38: x(lambda: e), where x calls what it got. -/
namespace FP
open PySem L2 LamX
variable [Tabl]
/-- the data of an environment alone -/
def Sl.only : Sl → Sl
  | .d x => .d x
  | _ => .no
abbrev dataE (ρ : Env) : Env := ρ.map Sl.only
theorem EnvR.data {mg : Gm} {B B' : Hp} {W W' : Wd} {H H' : Hp} {σ : St} {ρ : Env} (e : EnvR mg B W H σ ρ) (l : Le W W') : EnvR mg B' W' H' σ (dataE ρ) := by
  refine ⟨by simpa using e.len, fun i s h => ?_, fun i j xs ys o1 o2 a _ h1 _ _ _ m1 _ => ?_⟩
  · rw [List.getElem?_map] at h
    cases q : ρ[i]? with
    | none =>
      rw [q] at h
      cases h
    | some s0 =>
      rw [q] at h
      cases h
      obtain ⟨o, h1, h2⟩ := e.sl _ _ q
      refine ⟨o, h1, ?_⟩
      cases s0 with
      | d x =>
        obtain ⟨v, h3, h4⟩ := h2
        exact ⟨v, h3, h4.mono l⟩
      | _ => exact True.intro
  · rw [List.getElem?_map] at h1
    cases q : ρ[i]? with
    | none =>
      rw [q] at h1
      cases h1
    | some s0 =>
      rw [q] at h1
      cases h1
      cases s0 <;> cases m1
/-! ### what was got is called -/
/-! ### a def that calls what it got -/
end FP
/-! FP39: the end of a law whose defs make lambdas. -/
namespace FP
open PySem PySem.Spec PyProof.Rows L2 LamX
end FP
/-! FP40: dict(list of pairs); facts of operators and of exceptions. -/
namespace FP
open PySem L2
variable [Tabl]
section
variable {ι : Type} {Xs : ι → Cx} {mg : Gm} {Wx : WX} {pos : Pos}
/-- one of two readings of an operator -/
theorem OpOk.or {f : Value → Value → Sem Value} {rd rd' : RD2} (a : OpOk Xs mg f rd) (b : OpOk Xs mg f rd') : OpOk Xs mg f (fun x y Q => rd x y Q ∨ rd' x y Q) := by
  obtain ⟨r, a1, a2⟩ := a
  obtain ⟨r', b1, b2⟩ := b
  refine ⟨fun x y H Q => r x y H Q ∨ r' x y H Q, fun i pins s σ H x y v u Q I rx ry h => ?_, fun W H x y dx dy Q Q' hh rx ry h q => ?_⟩
  · rcases h with h | h
    · exact a1 i pins s σ H x y v u Q I rx ry h
    · exact b1 i pins s σ H x y v u Q I rx ry h
  · rcases h with h | h
    · exact .inl (a2 W H x y dx dy Q Q' hh rx ry h q)
    · exact .inr (b2 W H x y dx dy Q Q' hh rx ry h q)
/-! ### facts of operators -/
end
/-! ### facts of exceptions -/
abbrev veBm : List Value := [.type "ValueError", .type "Exception", .type "BaseException", .type "object"]
theorem veB : ExcBaseFacts "ValueError" "ValueError.__new__" "ValueError.__init__" veBm := PySem.F.excBase_ValueError
theorem InitOk.imp {P : Program} {w : World} {mg : Gm} {base : Heap} {k n : Nat} {c : Str} {C : Addr} {f f' : List D → ((List (Str × D)) → Prop) → (XD → Prop) → Prop} (G : InitOk P w mg base k c C n f) (h : ∀ ds Q E, f' ds Q E → f ds Q E) : InitOk P w mg base k c C n f' := by
  obtain ⟨fa, fd, ps, h1, h2, h3, F⟩ := G.ex
  refine ⟨fa, fd, ps, h1, h2, h3, F.imp ?_⟩
  rintro vs H Q E ⟨W, ds, us, H1, x, dx, Qd, Ed, g1, g2, g3, g4, g5, g6, g7, g8, g9, g10⟩
  exact ⟨W, ds, us, H1, x, dx, Qd, Ed, g1, g2, g3, g4, g5, g6, g7, g8, h _ _ _ g9, g10⟩
end FP
/-! FP41: displays of dicts. -/
namespace FP
open PySem L2
variable [Tabl]
section
variable {ι : Type} {Xs : ι → Cx} {mg : Gm} {Wx : WX} {pos : Pos}
abbrev DTP := Env → M (List (Key × D))
abbrev dPn : DTP := fun _ Q _ => Q []
end
end FP
/-! FP42: own exceptions with one field: made and raised; several except clauses, with and without a name; the field read. -/
namespace PySem
end PySem
namespace FP
open PySem L2
end FP
/-! FP43: try with several except clauses, with and without a name; the field of the error read. -/
namespace FP
open PySem PySem.Spec PyProof.Rows L2
/-- a clause: its class, its name's place, its suite's reading -/
structure Cl where
  c : Value
  i : Option Nat
  ts : Addr → Value → Option Addr → TS
def Cl.slots (k : Cl) (a : Addr) (σ : L2.St) : L2.St := match k.i with
  | none => σ
  | some i => σ.set i (some (.ref a))
variable [Tabl]
/-! ### by data -/
end FP
/-! FP44: zip of lists and tuples, in any mixture. -/
namespace FP
open PySem PySem.Spec PyProof.Rows L2
/-- a list or a tuple -/
inductive Sd where
  | l | t
def Sd.sq (K : PySem.W.Frag) (H : Hp) (a : Addr) (xs : List V) : Sd → Prop
  | .l => SqL K H a xs
  | .t => SqT K H a xs
def Sd.is (h : Heap) (a : Addr) (its : Array Value) : Sd → Prop
  | .l => h.IsList a its
  | .t => h.IsTuple a its
def Sd.it (h : Heap) (i a : Addr) (n : Nat) : Sd → Prop
  | .l => h.IsListIter i a n
  | .t => h.IsTupleIter i a n
def Sd.ob (a : Addr) : Sd → Obj
  | .l => { cls := .type "list_iterator", data := .fields #[.ref a, .int 0 0] }
  | .t => { cls := .type "tuple_iterator", data := .fields #[.ref a, .int 0 0] }
theorem Sd.draws {prog : Program} {w : World} {A : Around} (s : Sd) (hh : A.handled = none) (i a : Addr) (ne : a ≠ i) (its : Array Value) : Draws prog w A i [i, a] its.size (fun k v => its[k]? = some v) (fun k h => s.it h i a k ∧ s.is h a its) := by
  cases s with
  | l => exact .list hh i a ne its
  | t => exact .tuple hh i a ne its
theorem Sd.begins (s : Sd) (a : Addr) (its : Array Value) : Begins (.ref a) (s.ob a) (fun h => s.is h a its) := by
  cases s with
  | l => exact begins_list a its
  | t => exact begins_tuple a its
theorem Sd.first {h : Heap} {i a : Addr} {s : Sd} (e : h.get? i = some (s.ob a)) : s.it h i a 0 := by
  cases s with
  | l => exact ⟨_, e, rfl, rfl⟩
  | t => exact ⟨_, e, rfl, rfl⟩
theorem Sd.it_at {h h' : Heap} {i a : Addr} {n : Nat} {s : Sd} (x : s.it h i a n) (k : ∀ o, h.get? i = some o → h'.get? i = some o) : s.it h' i a n := by
  cases s with
  | l => exact (show h.IsListIter i a n from x).at k
  | t => exact (show h.IsTupleIter i a n from x).at k
theorem Sd.it_ob {h : Heap} {i a : Addr} {n : Nat} {s : Sd} (x : s.it h i a n) : ∃ o, h.get? i = some o ∧ ∀ v, o.data ≠ .cell v := by
  cases s with
  | l =>
    obtain ⟨o, e, _, d⟩ := (show h.IsListIter i a n from x)
    exact ⟨o, e, fun v q => by rw [d] at q; cases q⟩
  | t =>
    obtain ⟨o, e, _, d⟩ := (show h.IsTupleIter i a n from x)
    exact ⟨o, e, fun v q => by rw [d] at q; cases q⟩
theorem Sd.is_lt {h : Heap} {a : Addr} {its : Array Value} {s : Sd} (x : s.is h a its) : a < h.objs.size := by
  cases s with
  | l =>
    obtain ⟨o, e, _⟩ := (show h.IsList a its from x)
    exact Heap.lt_size e
  | t =>
    obtain ⟨o, e, _⟩ := (show h.IsTuple a its from x)
    exact Heap.lt_size e
theorem Sd.look {X : Cx} {pins : List (Addr × Obj)} {σ : L2.St} {H : Hp} {z : Shared} {a : Addr} {xs : List V} {s : Sd} (I : Inv X pins σ H z) (q : s.sq X.K H a xs) : ∃ its : List Value, Vals xs its ∧ s.is z.heap a its.toArray := by
  cases s with
  | l =>
    obtain ⟨its, rv, p, _⟩ := I.list q
    exact ⟨its, rv, p.isList⟩
  | t =>
    obtain ⟨its, rv, p, _⟩ := I.tuple q
    exact ⟨its, rv, p⟩
theorem Sd.inj {X : Cx} {pins : List (Addr × Obj)} {σ : L2.St} {H : Hp} {z : Shared} {a : Addr} {xs ys : List V} {s : Sd} (I : Inv X pins σ H z) (p : s.sq X.K H a xs) (q : s.sq X.K H a ys) : xs = ys := by
  cases s with
  | l => exact I.list_inj p q
  | t => exact I.tuple_inj p q
theorem sep_of {z TI TO i1 i2 a b : Addr} (D : ZipApart z TI TO i1 i2 a b) : ZipSep2 z TI TO i1 i2 [i1, a] [i2, b] where
  TIz := D.TIz
  TOz := D.TOz
  TITO := D.TITO
  TIi1 := D.TIi1
  mem1 := List.mem_cons_self
  zf1 := by simp [Ne.symm D.i1z, Ne.symm D.l1z]
  Tf1 := by simp [D.TOi1, Ne.symm D.l1TO]
  TIi2 := D.TIi2
  mem2 := List.mem_cons_self
  zf2 := by simp [Ne.symm D.i2z, Ne.symm D.l2z]
  Tf2 := by simp [D.TOi2, Ne.symm D.l2TO]
  sep1_2 := by simp [D.i12, Ne.symm D.l2i1]
  sep2_1 := by simp [Ne.symm D.i12, Ne.symm D.l1i2]
theorem five {c z TI TO i1 i2 : Addr} {P : Addr → Prop} (hz : P z) (h1 : P TI) (h2 : P TO) (h3 : P i1) (h4 : P i2) (h : c ∈ [z, TI, TO, i1, i2]) : P c := by
  rcases List.mem_cons.mp h with e | h
  · rw [e]; exact hz
  rcases List.mem_cons.mp h with e | h
  · rw [e]; exact h1
  rcases List.mem_cons.mp h with e | h
  · rw [e]; exact h2
  rcases List.mem_cons.mp h with e | h
  · rw [e]; exact h3
  · rw [List.mem_singleton.mp h]; exact h4
/-- zip(a, b) is made -/
theorem zip_made {X : Cx} {pins : List (Addr × Obj)} {σ : L2.St} {H : Hp} {s : Shared} {s1 s2 : Sd} {a b : Addr} {xs ys : List V} {Q E : Value → Shared → Prop} (I : Inv X pins σ H s) (hqx : s1.sq X.K H a xs) (hqy : s2.sq X.K H b ys)
    (h : ∀ z TI TO i1 i2 s', ZipApart z TI TO i1 i2 a b → Inv X pins σ H s' → IsZip s'.heap z TI TO .none → IsTupOf2 s'.heap TI (.ref i1) (.ref i2) → IsTupOf2 s'.heap TO .none .none → s1.it s'.heap i1 a 0 → s2.it s'.heap i2 b 0 → (∀ c ∈ [z, TI, TO, i1, i2], FpOk X pins H c) → Q (.ref z) s') :
    wpAny (model X.prog X.w) X.A (call (.type "zip") [.ref a, .ref b]) Q E s := by
  obtain ⟨its, rv, p⟩ := Sd.look I hqx
  obtain ⟨its2, rv2, p2⟩ := Sd.look I hqy
  refine zip_begins2 (s1.begins a its.toArray) (s2.begins b its2.toArray) p p2 fun h' hz hTI hTO g1 g2 hsz hk => ?_
  have I2 : Inv X pins σ H { s with heap := h' } := I.kept (t' := s.toks) hk
  refine h _ _ _ _ _ _ (PySem.W.ktu_apart s.heap.objs.size a b (Sd.is_lt p) (Sd.is_lt p2)) I2 hz hTI hTO (Sd.first g1) (Sd.first g2) fun c hc => ?_
  have le : s.heap.objs.size ≤ c := five (P := fun c => s.heap.objs.size ≤ c) (Nat.le_add_right _ _) (Nat.le_add_right _ _) (Nat.le_add_right _ _) (Nat.le_refl _) (Nat.le_add_right _ _) hc
  exact I.fpOk le (I.hok.fresh le)
variable [Tabl]
section
variable {ι : Type} {Xs : ι → Cx} {mg : Gm} {Wx : WX} {pos : Pos}
def seqD : D → Option (List D)
  | .lst xs => some xs
  | .fz xs => some xs
  | .tup xs => some xs
  | _ => none
def pairD (x y : D) : D := .tup [x, y]
def zipD (xs ys : List D) : List D := List.zipWith pairD xs ys
theorem zipD_get (xs ys : List D) (i : Nat) : (zipD xs ys)[i]? = match xs[i]?, ys[i]? with
    | some x, some y => some (pairD x y)
    | _, _ => none := by
  unfold zipD
  rw [List.getElem?_zipWith]
  cases xs[i]? <;> cases ys[i]? <;> rfl
theorem zipD_len (xs ys : List D) : (zipD xs ys).length = min xs.length ys.length := List.length_zipWith
theorem seq_side {W : Wd} {v : V} {d : D} {ds : List D} (r : Rep mg W v d) (h : seqD d = some ds) : ∃ a vs s, v = .ref a ∧ Reps mg W vs ds ∧ ∀ W1 H1, Le W W1 → Holds W1 H1 → Sd.sq mg.K H1 a vs s := by
  cases r with
  | lst ha rs =>
    cases h
    exact ⟨_, _, .l, rfl, rs, fun W1 H1 l hh => SqL.of (hh.same _ _ (l.h _ _ ha))⟩
  | fz ha rs =>
    cases h
    exact ⟨_, _, .l, rfl, rs, fun W1 H1 l hh => hh.same.seq (l.h.seq ha)⟩
  | tup ha rs =>
    cases h
    exact ⟨_, _, .t, rfl, rs, fun W1 H1 l hh => SqT.of (hh.same _ _ (l.h _ _ ha))⟩
  | _ => cases h
end
end FP
/-! FP45: list(zip(a, b)), a and b lists or tuples. -/
namespace PySem.ZipL
open PySem PySem.W PySem.Calls PyProof.Rows
theorem no_len : typeLookup (.type "zip") "__len__" = pure none := by rw [typeLookup_type, builtinLookup_eq_fast]; kernel_rfl
theorem no_hint : typeLookup (.type "zip") "__length_hint__" = pure none := by rw [typeLookup_type, builtinLookup_eq_fast]; kernel_rfl
section
variable {prog : Program} {w : World} {A : Around} {E : Value → Shared → Prop} {s : Shared} {z TI TO T i1 i2 : Addr} {fp1 fp2 : List Addr} {n1 n2 i : Nat} {P1 P2 : Nat → Value → Prop} {St1 St2 : Nat → Heap → Prop} {f : Bool} {oT : Obj}
/-- the next pair, the first one held -/
theorem held_item {Q : Value → Shared → Prop} (S : ZipSep2 z TI TO i1 i2 fp1 fp2) (D1 : Draws prog w A i1 fp1 n1 P1 St1) (D2 : Draws prog w A i2 fp2 n2 P2 St2) (hz : IsZipHeld s.heap z TI TO T f) (hT : s.heap.get? T = some oT) (hTI : IsTupOf2 s.heap TI (.ref i1) (.ref i2))
    (st1 : St1 i s.heap) (st2 : St2 i s.heap) (l1 : i < n1) (l2 : i < n2)
    (hQ : ∀ x1 x2 h' tk, P1 i x1 → P2 i x2 → IsZipHeld h' z TI TO T true → St1 (i + 1) h' → St2 (i + 1) h' → IsTupOf2 h' s.heap.objs.size x1 x2 → h'.objs.size = s.heap.objs.size + 1 → (∀ c o, c ≠ z → c ≠ i1 → c ≠ i2 → s.heap.get? c = some o → h'.get? c = some o) →
      Q (.ref s.heap.objs.size) { s with heap := h', toks := tk }) :
    wpAny (model prog w) A (Builtin.«zip.__next__» ⟨[.ref z], []⟩) (fun fin s' => ∃ v, fin = .done (.ret v) ∧ Q v s') E s := by
  obtain ⟨hp, g, d, tk, os⟩ := s
  show wpAny _ _ (field (.ref z) 2 >>= _) _ _ _
  refine wpAny_bind (wpAny_field hz rfl (x := .bool false) rfl ?_)
  show wpAny _ _ (field (.ref z) 3 >>= _) _ _ _
  refine wpAny_bind (wpAny_field hz rfl (x := .ref TI) rfl (wpAny_bind (wpAny_seqItems hTI rfl ?_)))
  show wpAny _ _ (Builtin.SmallTypes.ownedTupleIsFree (.ref z) >>= _) _ _ _
  refine wpAny_bind (wpAny_tupleHeld_zip hz hT fun q1 hz1 k1 => ?_)
  simp only [Bool.false_eq_true, if_false]
  refine wpAny_bind ?_
  rw [← Array.forIn_toList]
  simp only [List.forIn_cons, List.forIn_nil]
  have k1' : Heap.SameBut z hp q1 := k1
  refine wpAny_bind (wpAny_bind (wpAny_holding ?_))
  show wpAny _ _ (Builtin.SmallTypes.nextOf (.ref i1) >>= _) _ _ _
  refine wpAny_bind (D1.item i _ _ _ l1 (D1.over st1 k1' S.zf1) fun x1 q2 t2 p1 st1' k2 => wpAny_pure (wpAny_pure ?_))
  have k2' : Heap.SameBut i1 q1 q2 := k2
  refine wpAny_bind (wpAny_bind (wpAny_holding ?_))
  show wpAny _ _ (Builtin.SmallTypes.nextOf (.ref i2) >>= _) _ _ _
  refine wpAny_bind (D2.item i _ _ _ l2 (D2.over (D2.over st2 k1' S.zf2) k2' S.sep1_2) fun x2 q3 t3 p2 st2' k3 => wpAny_pure (wpAny_pure (wpAny_pure ?_)))
  have k3' : Heap.SameBut i2 q2 q3 := k3
  show wpAny _ _ (newTuple [x1, x2] >>= _) _ _ _
  refine wpAny_bind (wpAny_newTuple (wpAny_pure ⟨_, rfl, ?_⟩))
  have sz : q3.objs.size = hp.objs.size := by rw [k3'.1, k2'.1, k1'.1]
  have hz3 : IsZipHeld q3 z TI TO T true := k3'.extBut _ _ S.zi2 (k2'.extBut _ _ S.zi1 hz1)
  have up : ∀ c o, q3.get? c = some o → (q3.push { cls := .type "tuple", data := .seq #[x1, x2] }).get? c = some o := fun c o e => Heap.get?_push_of_some _ e
  have new : IsTupOf2 (q3.push { cls := .type "tuple", data := .seq #[x1, x2] }) q3.objs.size x1 x2 := Heap.get?_push_size _ rfl
  have szn : (q3.push { cls := .type "tuple", data := .seq #[x1, x2] }).objs.size = q3.objs.size + 1 := Heap.size_push ..
  show Q (.ref q3.objs.size) _
  rw [sz] at new szn ⊢
  exact hQ x1 x2 _ _ p1 p2 (up _ _ hz3) (D1.frame _ _ _ (D1.over st1' k3' S.sep2_1) fun b _ o e => up b o e) (D2.frame _ _ _ st2' fun b _ o e => up b o e) new szn fun c o c1 c2 c3 e => up c o (k3'.extBut _ _ c3 (k2'.extBut _ _ c2 (k1'.extBut _ _ c1 e)))
/-- the end, the first pair held -/
theorem held_end {Q : Fin → Shared → Prop} (S : ZipSep2 z TI TO i1 i2 fp1 fp2) (D1 : Draws prog w A i1 fp1 n1 P1 St1) (D2 : Draws prog w A i2 fp2 n2 P2 St2) (hz : IsZipHeld s.heap z TI TO T f) (hT : s.heap.get? T = some oT) (hTI : IsTupOf2 s.heap TI (.ref i1) (.ref i2))
    (st1 : St1 i s.heap) (st2 : St2 i s.heap) (l1 : i ≤ n1) (l2 : i ≤ n2) (hend : i = n1 ∨ i = n2)
    (hE : ∀ h' tk e, (∀ c o, c ≠ z → c ≠ i1 → c ≠ i2 → s.heap.get? c = some o → h'.get? c = some o) → (∃ o, h'.get? e = some o ∧ o.cls = .type "StopIteration") → E (.ref e) { s with heap := h', toks := tk }) :
    wpAny (model prog w) A (Builtin.«zip.__next__» ⟨[.ref z], []⟩) Q E s := by
  obtain ⟨hp, g, d, tk, os⟩ := s
  show wpAny _ _ (field (.ref z) 2 >>= _) _ _ _
  refine wpAny_bind (wpAny_field hz rfl (x := .bool false) rfl ?_)
  show wpAny _ _ (field (.ref z) 3 >>= _) _ _ _
  refine wpAny_bind (wpAny_field hz rfl (x := .ref TI) rfl (wpAny_bind (wpAny_seqItems hTI rfl ?_)))
  show wpAny _ _ (Builtin.SmallTypes.ownedTupleIsFree (.ref z) >>= _) _ _ _
  refine wpAny_bind (wpAny_tupleHeld_zip hz hT fun q1 hz1 k1 => ?_)
  simp only [Bool.false_eq_true, if_false]
  refine wpAny_bind ?_
  rw [← Array.forIn_toList]
  simp only [List.forIn_cons, List.forIn_nil]
  have k1' : Heap.SameBut z hp q1 := k1
  refine wpAny_bind (wpAny_bind (wpAny_holding ?_))
  show wpAny _ _ (Builtin.SmallTypes.nextOf (.ref i1) >>= _) _ _ _
  by_cases h1 : i = n1
  · subst h1
    refine wpAny_bind (D1.done _ _ _ (D1.over st1 k1' S.zf1) fun q2 e k2 he => ?_)
    have k2' : Heap.ExtBut i1 q1 q2 := k2
    exact hE q2 _ e (fun c o c1 c2 _ x => k2' _ _ c2 (k1'.extBut _ _ c1 x)) he
  · have h2 : i = n2 := hend.resolve_left h1
    subst h2
    refine wpAny_bind (D1.item i _ _ _ (by omega) (D1.over st1 k1' S.zf1) fun x1 q2 t2 p1 st1' k2 => wpAny_pure (wpAny_pure ?_))
    have k2' : Heap.SameBut i1 q1 q2 := k2
    refine wpAny_bind (wpAny_bind (wpAny_holding ?_))
    show wpAny _ _ (Builtin.SmallTypes.nextOf (.ref i2) >>= _) _ _ _
    refine wpAny_bind (D2.done _ _ _ (D2.over (D2.over st2 k1' S.zf2) k2' S.sep1_2) fun q3 e k3 he => ?_)
    have k3' : Heap.ExtBut i2 q2 q3 := k3
    exact hE q3 _ e (fun c o c1 c2 c3 x => k3' _ _ c3 (k2'.extBut _ _ c2 (k1'.extBut _ _ c1 x))) he
theorem next_held {Q : Option Value → Shared → Prop} (S : ZipSep2 z TI TO i1 i2 fp1 fp2) (D1 : Draws prog w A.in1 i1 fp1 n1 P1 St1) (D2 : Draws prog w A.in1 i2 fp2 n2 P2 St2) (hz : IsZipHeld s.heap z TI TO T f) (hT : s.heap.get? T = some oT) (hTI : IsTupOf2 s.heap TI (.ref i1) (.ref i2))
    (st1 : St1 i s.heap) (st2 : St2 i s.heap) (l1 : i < n1) (l2 : i < n2)
    (hQ : ∀ x1 x2 h' tk, P1 i x1 → P2 i x2 → IsZipHeld h' z TI TO T true → St1 (i + 1) h' → St2 (i + 1) h' → IsTupOf2 h' s.heap.objs.size x1 x2 → h'.objs.size = s.heap.objs.size + 1 → (∀ c o, c ≠ z → c ≠ i1 → c ≠ i2 → s.heap.get? c = some o → h'.get? c = some o) →
      Q (some (.ref s.heap.objs.size)) { s with heap := h', toks := tk }) : wpAny (model prog w) A (pyNext (.ref z)) Q E s := by
  have hTy : s.TypeIs (.ref z) "zip" := ⟨_, hz, rfl⟩
  unfold pyNext
  refine wpAny_bind (wpAny_attempt (wpAny_callSpecial?_slot (name := Str.ofString "__next__") hTy F.slot_zip_next (wpAny_call_entry F.slot_zip_next hTy F.entry_zip_next ?_ (F.args_zip_next_1 _))))
  exact held_item S D1 D2 hz hT hTI st1 st2 l1 l2 fun x1 x2 h' tk a1 a2 a3 a4 a5 a6 a7 a8 => wpAny_pure (hQ x1 x2 h' tk a1 a2 a3 a4 a5 a6 a7 a8)
theorem done_held {Q : Option Value → Shared → Prop} (S : ZipSep2 z TI TO i1 i2 fp1 fp2) (D1 : Draws prog w A.in1 i1 fp1 n1 P1 St1) (D2 : Draws prog w A.in1 i2 fp2 n2 P2 St2) (hz : IsZipHeld s.heap z TI TO T f) (hT : s.heap.get? T = some oT) (hTI : IsTupOf2 s.heap TI (.ref i1) (.ref i2))
    (st1 : St1 i s.heap) (st2 : St2 i s.heap) (l1 : i ≤ n1) (l2 : i ≤ n2) (hend : i = n1 ∨ i = n2) (hQ : ∀ h' tk, (∀ c o, c ≠ z → c ≠ i1 → c ≠ i2 → s.heap.get? c = some o → h'.get? c = some o) → Q none { s with heap := h', toks := tk }) : wpAny (model prog w) A (pyNext (.ref z)) Q E s := by
  have hTy : s.TypeIs (.ref z) "zip" := ⟨_, hz, rfl⟩
  unfold pyNext
  refine wpAny_bind (wpAny_attempt (wpAny_callSpecial?_slot (name := Str.ofString "__next__") hTy F.slot_zip_next (wpAny_call_entry F.slot_zip_next hTy F.entry_zip_next ?_ (F.args_zip_next_1 _))))
  refine held_end S D1 D2 hz hT hTI st1 st2 l1 l2 hend fun h' tk e k he => ?_
  obtain ⟨o, ho, hc⟩ := he
  exact wpAny_bind (wpAny_isInstance (T := "StopIteration") (b := true) ⟨o, ho, hc⟩ isSubtype_stop (wpAny_pure (hQ _ _ k)))
end
/-- the loop that draws from z into the list at S, whatever stands between -/
theorem loop {prog : Program} {w : World} {A : Around} {R : Result → Shared → Prop} {S z : Addr} {res : Value} {n : Nat} (J : Nat → Shared → Prop) (M : Nat → Value → Shared → Prop) (Z : Shared → Prop)
    (item : ∀ i s (Q : Option Value → Shared → Prop) (E : Value → Shared → Prop), i < n → J i s → (∀ v s1, M i v s1 → Q (some v) s1) → wpAny (model prog w) A.in1 (pyNext (.ref z)) Q E s)
    (done : ∀ s (Q : Option Value → Shared → Prop) (E : Value → Shared → Prop), J n s → (∀ s1, Z s1 → Q none s1) → wpAny (model prog w) A.in1 (pyNext (.ref z)) Q E s)
    (push : ∀ i v s, i < n → M i v s → ∃ acc c, s.heap.get? S = some { cls := .type "list", data := .seq acc c } ∧ acc.size < sizeLine ∧ J (i + 1) { s with heap := s.heap.update S (Obj.mapSeq (·.push v)) })
    (fin : ∀ s, Z s → R (.ok (.ret res)) s) : ∀ (k i : Nat) (s : Shared), n - i = k → i ≤ n → J i s → codeAny (model prog w) A (.builtin "list.extend.loop" ⟨[.ref S, .ref z, res], []⟩) R s := by
  intro k
  induction k with
  | zero =>
    intro i s hk hi hj
    obtain rfl : i = n := by omega
    refine codeAny_builtin F.entry_extend_loop ?_
    rw [Around.under_plainId F.plain_extend_loop _]
    show wpAny _ A.in1 (pyNext (.ref z) >>= _) _ _ s
    exact wpAny_bind (done s _ _ hj fun s1 h1 => wpAny_pure (fin s1 h1))
  | succ k ih =>
    intro i s hk hi hj
    have hlt : i < n := by omega
    refine codeAny_builtin F.entry_extend_loop ?_
    rw [Around.under_plainId F.plain_extend_loop _]
    show wpAny _ A.in1 (pyNext (.ref z) >>= _) _ _ s
    refine wpAny_bind (item i s _ _ hlt hj fun v s1 h1 => ?_)
    obtain ⟨acc, c, e, sz, hj1⟩ := push i v s1 hlt h1
    show wpAny _ A.in1 (updateSeq S (·.push v) >>= _) _ _ _
    refine wpAny_bind (wpAny_updateSeq e rfl (wpAny_pure ⟨plainId_quiet F.plain_extend_loop _, ih (i + 1) _ (by omega) hlt hj1⟩) (Nat.le_of_lt sz) ?_)
    show (acc.push v).size ≤ sizeLine + 1
    rw [Array.size_push]
    omega
end PySem.ZipL
/-! FP46: list(zip(a, b)) by data. -/
namespace FP
open PySem PySem.Spec PyProof.Rows L2
/-- what is asked behind each pair: the list's items so far, the heap -/
structure LzW (K : PySem.W.Frag) (S a b : Addr) (s1 s2 : Sd) (xs ys : List V) (H : Hp) (Q : Hp → Prop) where
  Wk : Nat → List V → Hp → Prop
  zero : Wk 0 [] (upd H S (.lst []))
  look : ∀ i us Hk, Wk i us Hk → Hk S = some (.lst us) ∧ us.length = i ∧ s1.sq K Hk a xs ∧ s2.sq K Hk b ys
  step : ∀ i us Hk x y T, i < min xs.length ys.length → Wk i us Hk → xs[i]? = some x → ys[i]? = some y → Hk T = none → Wk (i + 1) (us ++ [.ref T]) (upd (upd Hk T (.tup [x, y])) S (.lst (us ++ [.ref T])))
  fin : ∀ us Hk, Wk (min xs.length ys.length) us Hk → Q Hk
theorem FpOk.with {X : Cx} {pins : List (Addr × Obj)} {H H' : Hp} {c : Addr} (f : FpOk X pins H c) (n : H' c = none) : FpOk X pins H' c := ⟨n, f.2⟩
/-- where the zip stands: not yet drawn from; or its first pair held -/
def ZAt (h : Heap) (z TI TO i1 i2 S : Addr) (i : Nat) : Prop := (i = 0 ∧ IsZip h z TI TO .none ∧ ∃ x y, IsTupOf2 h TO x y) ∨ (0 < i ∧ ∃ T f oT, IsZipHeld h z TI TO T f ∧ h.get? T = some oT ∧ T ≠ z ∧ T ≠ i1 ∧ T ≠ i2 ∧ T ≠ S)
theorem list_zip {X : Cx} {pins : List (Addr × Obj)} {σ : L2.St} {H : Hp} {s : Shared} {s1 s2 : Sd} {a b z TI TO i1 i2 : Addr} {xs ys : List V} {Q : VK} {E : Value → Shared → Prop} (hc : X.calm = true) (D : ZipApart z TI TO i1 i2 a b) (I : Inv X pins σ H s) (hqx : s1.sq X.K H a xs) (hqy : s2.sq X.K H b ys)
    (hz : IsZip s.heap z TI TO .none) (hTI : IsTupOf2 s.heap TI (.ref i1) (.ref i2)) (hTO : IsTupOf2 s.heap TO .none .none) (h1 : s1.it s.heap i1 a 0) (h2 : s2.it s.heap i2 b 0) (fp : ∀ c ∈ [z, TI, TO, i1, i2], FpOk X pins H c) (hn : min xs.length ys.length ≤ sizeLine)
    (w : ∀ S, H S = none → Nonempty (LzW X.K S a b s1 s2 xs ys H (Q (.ref S)))) :
    wpAny (model X.prog X.w) X.A (call (.type "list") [.ref z]) (EP X pins σ Q) E s := by
  have hh : X.A.handled = none := I.ok.hd hc
  have hS0 := I.fresh
  obtain ⟨W⟩ := w _ hS0
  have zlt : z < s.heap.objs.size := Heap.lt_size hz
  refine callType_codes (Q₁ := fun obj z1 => obj = .ref s.heap.objs.size ∧ z1 = { s with heap := s.heap.push { cls := .type "list", data := .seq #[] } }) F.called_list (F.typeCall_list_1 _) F.entry_list_init (code_list_new _ ⟨rfl, rfl⟩) ?_
  rintro obj z1 ⟨rfl, rfl⟩
  generalize hS : s.heap.objs.size = S at *
  have J0 : Inv X pins σ (upd H S (.lst [])) { s with heap := s.heap.push { cls := .type "list", data := .seq #[] } } := by
    have q := I.lnew (its := []) (ys := []) (t' := s.toks) .nil (Nat.zero_le _)
    rw [hS] at q
    exact q
  have g0 : (s.heap.push { cls := .type "list", data := .seq #[] }).get? S = some { cls := .type "list", data := .seq #[] } := by rw [← hS]; exact Heap.get?_push_size _ rfl
  have nS : ∀ c o, s.heap.get? c = some o → c ≠ S := fun c o e => Nat.ne_of_lt (by rw [← hS]; exact Heap.lt_size e)
  refine ⟨⟨_, g0, rfl⟩, F.args_list_init_2 _ _, ?_⟩
  show wpAny _ X.A.in1.in1 (do let old ← Builtin.List.listItems (.ref S); Builtin.List.listUpdate (.ref S) (fun _ => #[]); letGo old.toList.reverse; Builtin.List.listExtendWith (.ref S) (.ref z) .none) _ _ _
  refine wpAny_bind ?_
  unfold Builtin.List.listItems
  refine wpAny_bind (wpAny_seqItems g0 rfl (wpAny_pure ?_))
  show wpAny _ X.A.in1.in1 (updateSeq S (fun _ => #[]) >>= fun _ => letGo (#[] : Array Value).toList.reverse >>= fun _ => Builtin.List.listExtendWith (.ref S) (.ref z) .none) _ _ _
  refine wpAny_bind (wpAny_updateSeq g0 rfl (wpAny_bind (wpAny_letGo ?_)))
  have g1 := Heap.get?_update_self (Obj.mapSeq (fun _ => (#[] : Array Value))) g0 rfl
  have J1 := J0.lset (its := []) (its' := []) (ys := []) (f := fun _ => #[]) (t' := s.toks) upd_same g0 rfl .nil (Nat.zero_le _)
  have old : ∀ (h : Heap) (f : Obj → Obj), (∀ c o, s.heap.get? c = some o → h.get? c = some o) → ∀ c o, s.heap.get? c = some o → (h.update S f).get? c = some o := fun h f q c o e => (Heap.get?_update_other _ _ (Ne.symm (nS c o e))).trans (q c o e)
  have k0 : ∀ c o, s.heap.get? c = some o → (s.heap.push { cls := .type "list", data := .seq #[] }).get? c = some o := fun c o e => Heap.get?_push_of_some _ e
  have k1 := old _ (Obj.mapSeq (fun _ => (#[] : Array Value))) k0
  unfold Builtin.List.listExtendWith
  refine wpAny_bind (wpAny_typeOf (T := "zip") ⟨_, k1 _ _ hz, rfl⟩ ?_)
  have e1 : Builtin.List.listSameRef (.ref S) (.ref z) = false := by simp [Builtin.List.listSameRef, Ne.symm (nS _ _ hz)]
  have e2 : (Value.type "zip" == Value.type "list") = false := by decide
  have e3 : (Value.type "zip" == Value.type "tuple") = false := by decide
  simp only [e1, e2, e3, Bool.or_false, Bool.false_eq_true, if_false]
  refine wpAny_bind (wpAny_pyIter_zip (s := { s with heap := _ }) (k1 _ _ hz) (wpAny_bind (wpAny_holding ?_)))
  unfold Builtin.List.listLengthHint
  refine wpAny_bind (wpAny_specialOf (T := "zip") ⟨_, k1 _ _ hz, rfl⟩ PySem.ZipL.no_len ?_)
  show wpAny _ X.A.in1.in1 (specialOf (Value.ref z) (Str.ofString "__length_hint__") >>= _) _ _ _
  refine wpAny_bind (wpAny_specialOf (T := "zip") ⟨_, k1 _ _ hz, rfl⟩ PySem.ZipL.no_hint ?_)
  refine wpAny_pure ?_
  show wpAny _ X.A.in1.in1 (rule "list.extend.makes-room" >>= fun _ => Builtin.List.listTouch (.ref S) >>= fun _ => again (.builtin "list.extend.loop" ⟨[.ref S, .ref z, .none], []⟩)) _ _ _
  refine wpAny_bind (wpAny_rule (wpAny_bind ?_))
  show wpAny _ X.A.in1.in1 (updateSeq S (·.push .none) >>= fun _ => updateSeq S (·.pop)) _ _ _
  refine wpAny_bind (wpAny_updateSeq g1 rfl ?_)
  have g2 := Heap.get?_update_self (Obj.mapSeq (·.push Value.none)) g1 rfl
  refine wpAny_updateSeq (hz := by seq_fits) g2 rfl ?_
  have g3 := Heap.get?_update_self (Obj.mapSeq (·.pop)) g2 rfl
  have k2 := old _ (Obj.mapSeq (·.push Value.none)) k1
  have k3 := old _ (Obj.mapSeq (·.pop)) k2
  generalize hh3 : ((((s.heap.push { cls := .type "list", data := .seq #[] }).update S (Obj.mapSeq (fun _ => (#[] : Array Value)))).update S (Obj.mapSeq (·.push Value.none))).update S (Obj.mapSeq (·.pop))) = h3 at k3 g3
  have eu : upd (upd H S (.lst [])) S (.lst []) = upd H S (.lst []) := by
    funext c
    by_cases hcS : c = S
    · rw [hcS, upd_same, upd_same]
    · rw [upd_ne hcS]
  have J3 : Inv X pins σ (upd H S (.lst [])) { s with heap := h3 } := by
    have q := J1.write (h' := h3) (x := S) (e := S) (o := .lst []) (t' := s.toks) (by rw [upd_same]; exact True.intro) (.inl rfl) (fun c u hcS hu => by
      rw [← hh3]
      exact (Heap.get?_update_other _ _ (Ne.symm hcS)).trans ((Heap.get?_update_other _ _ (Ne.symm hcS)).trans hu)) ⟨_, g3⟩ ⟨Nat.zero_le _, [], _, .nil, g3⟩
    rw [eu, eu] at q
    exact q
  refine wpAny_pure ⟨plainId_quiet F.plain_extend_loop _, ?_⟩
  have five0 : ∀ c ∈ [z, TI, TO, i1, i2], c ≠ S := fun c hcm => five (P := fun c => c ≠ S) (nS _ _ hz) (nS _ _ hTI) (nS _ _ hTO) (by obtain ⟨o, y, _⟩ := Sd.it_ob h1; exact nS _ _ y) (by obtain ⟨o, y, _⟩ := Sd.it_ob h2; exact nS _ _ y) hcm
  refine PySem.ZipL.loop (n := min xs.length ys.length) (S := S) (z := z) (A := X.A.in1)
    (R := wants (fun r s₂ => r = Value.none ∧ EP X pins σ Q (Value.ref S) s₂) E) (res := .none) (w := X.w) (prog := X.prog)
    (fun i t => ∃ us Hk, Inv X pins σ Hk t ∧ W.Wk i us Hk ∧ ZAt t.heap z TI TO i1 i2 S i ∧ IsTupOf2 t.heap TI (.ref i1) (.ref i2) ∧ s1.it t.heap i1 a i ∧ s2.it t.heap i2 b i ∧ (∀ c ∈ [z, TI, TO, i1, i2], FpOk X pins Hk c) ∧ TO < t.heap.objs.size)
    (fun i v t => ∃ us Hk x y T, v = .ref T ∧ Inv X pins σ (upd Hk T (.tup [x, y])) t ∧ W.Wk i us Hk ∧ xs[i]? = some x ∧ ys[i]? = some y ∧ Hk T = none ∧ (∃ T f oT, IsZipHeld t.heap z TI TO T f ∧ t.heap.get? T = some oT ∧ T ≠ z ∧ T ≠ i1 ∧ T ≠ i2 ∧ T ≠ S) ∧ IsTupOf2 t.heap TI (.ref i1) (.ref i2) ∧ s1.it t.heap i1 a (i + 1) ∧ s2.it t.heap i2 b (i + 1) ∧ (∀ c ∈ [z, TI, TO, i1, i2], FpOk X pins (upd Hk T (.tup [x, y])) c) ∧ TO < t.heap.objs.size)
    (fun t => ∃ us Hk, Inv X pins σ Hk t ∧ W.Wk (min xs.length ys.length) us Hk) ?item ?done ?push ?fin (min xs.length ys.length) 0 _ (Nat.sub_zero _) (Nat.zero_le _) ?start
  case start =>
    refine ⟨[], _, J3, W.zero, .inl ⟨rfl, k3 _ _ hz, _, _, k3 _ _ hTO⟩, k3 _ _ hTI, Sd.it_at h1 fun o e => k3 _ _ e, Sd.it_at h2 fun o e => k3 _ _ e, fun c hcm => FpOk.with (fp c hcm) (by rw [upd_ne (five0 c hcm)]; exact (fp c hcm).1), Heap.lt_size (k3 _ _ hTO)⟩
  case fin =>
    rintro t ⟨us, Hk, J, k⟩
    exact ⟨rfl, .ref S, Hk, J, rfl, W.fin us Hk k⟩
  case item =>
    rintro i t Q1 E1 hi ⟨us, Hk, J, k, za, t1, t2, t3, f5, tl⟩ hq
    obtain ⟨lS, lu, qx, qy⟩ := W.look i us Hk k
    obtain ⟨its, rv, p⟩ := Sd.look J qx
    obtain ⟨its2, rv2, p2⟩ := Sd.look J qy
    have hx : xs[i]? = some xs[i] := List.getElem?_eq_getElem (by omega)
    have hy : ys[i]? = some ys[i] := List.getElem?_eq_getElem (by omega)
    obtain ⟨u, hu, ru⟩ := rv.get hx
    obtain ⟨u2, hu2, ru2⟩ := rv2.get hy
    have lt1 : i < its.toArray.size := by simpa using (List.getElem?_eq_some_iff.mp hu).1
    have lt2 : i < its2.toArray.size := by simpa using (List.getElem?_eq_some_iff.mp hu2).1
    have SL := (J.lstM lS).2
    obtain ⟨lits, ln, _, _, lget⟩ := SL
    have Slt : S < t.heap.objs.size := Heap.lt_size lget
    have d1 := s1.draws (prog := X.prog) (w := X.w) (A := X.A.in1.in1.in1) hh i1 a D.l1i1 its.toArray
    have d2 := s2.draws (prog := X.prog) (w := X.w) (A := X.A.in1.in1.in1) hh i2 b D.l2i2 its2.toArray
    have it1lt : i1 < t.heap.objs.size := by obtain ⟨o, y, _⟩ := Sd.it_ob t2; exact Heap.lt_size y
    have it2lt : i2 < t.heap.objs.size := by obtain ⟨o, y, _⟩ := Sd.it_ob t3; exact Heap.lt_size y
    have newT : ∀ {h' : Heap} {tk : Nat} {v1 v2 : Value} {x y : V}, RelV x v1 → RelV y v2 → IsTupOf2 h' t.heap.objs.size v1 v2 → (∀ c o, c ∉ [z, TI, TO, i1, i2] → t.heap.get? c = some o → h'.get? c = some o) → Inv X pins σ (upd Hk t.heap.objs.size (.tup [x, y])) { t with heap := h', toks := tk } := fun {h' tk v1 v2 x y} r1 r2 g kp =>
      J.turnedNew (t' := tk) (ch := [z, TI, TO, i1, i2]) kp f5 (Nat.le_refl _) ⟨by show 2 ≤ sizeLine; decide, [v1, v2], .cons r1 (.cons r2 .nil), ⟨_, g, rfl, _, rfl⟩⟩
    have f6 : ∀ {x y : V} (c), c ∈ [z, TI, TO, i1, i2] → c < t.heap.objs.size → FpOk X pins (upd Hk t.heap.objs.size (.tup [x, y])) c := fun {x y} c hcm lt => FpOk.with (f5 c hcm) (by rw [upd_ne (Nat.ne_of_lt lt)]; exact (f5 c hcm).1)
    have TIlt : TI < t.heap.objs.size := Heap.lt_size t1
    rcases za with ⟨rfl, hz0, x0, y0, hT0⟩ | ⟨hpos, T, f, oT, hz0, hT⟩
    · have zl : z < t.heap.objs.size := Heap.lt_size hz0
      have Tl : TO < t.heap.objs.size := Heap.lt_size hT0
      refine wpAny_pyNext_zipD2_item (sep_of D) d1 d2 hz0 t1 hT0 ⟨t2, p⟩ ⟨t3, p2⟩ lt1 lt2 fun v1 v2 h' tk q1 q2 z' TO' st1 st2 hT hsz hk => ?_
      obtain rfl : u = v1 := by simpa [hu] using q1
      obtain rfl : u2 = v2 := by simpa [hu2] using q2
      refine hq _ _ ⟨us, Hk, _, _, t.heap.objs.size, rfl, newT ru ru2 hT (fun c o hb q => hk c o (fun q' => hb (by simp [q'])) (fun q' => hb (by simp [q'])) (fun q' => hb (by simp [q'])) (fun q' => hb (by simp [q'])) q), k, hx, hy, J.fresh, ⟨t.heap.objs.size, false, _, z', hT, Nat.ne_of_gt zl, Nat.ne_of_gt it1lt, Nat.ne_of_gt it2lt, Nat.ne_of_gt Slt⟩, hk _ _ D.TIz D.TITO D.TIi1 D.TIi2 t1, st1.1, st2.1, fun c hcm => f6 c hcm (five (P := fun c => c < t.heap.objs.size) zl TIlt Tl it1lt it2lt hcm), by rw [hsz]; exact Nat.lt_succ_of_lt Tl⟩
    · have zl : z < t.heap.objs.size := Heap.lt_size hz0
      refine PySem.ZipL.next_held (sep_of D) d1 d2 hz0 hT.1 t1 ⟨t2, p⟩ ⟨t3, p2⟩ lt1 lt2 fun v1 v2 h' tk q1 q2 z' st1 st2 hN hsz hk => ?_
      obtain rfl : u = v1 := by simpa [hu] using q1
      obtain rfl : u2 = v2 := by simpa [hu2] using q2
      have TOlt : TO < t.heap.objs.size := tl
      refine hq _ _ ⟨us, Hk, _, _, t.heap.objs.size, rfl, newT ru ru2 hN (fun c o hb q => hk c o (fun q' => hb (by simp [q'])) (fun q' => hb (by simp [q'])) (fun q' => hb (by simp [q'])) q), k, hx, hy, J.fresh, ⟨T, true, oT, z', hk _ _ hT.2.1 hT.2.2.1 hT.2.2.2.1 hT.1, hT.2⟩, hk _ _ D.TIz D.TIi1 D.TIi2 t1, st1.1, st2.1, fun c hcm => f6 c hcm (five (P := fun c => c < t.heap.objs.size) zl TIlt TOlt it1lt it2lt hcm), by rw [hsz]; exact Nat.lt_succ_of_lt TOlt⟩
  case done =>
    rintro t Q1 E1 ⟨us, Hk, J, k, za, t1, t2, t3, f5, tl⟩ hq
    obtain ⟨lS, lu, qx, qy⟩ := W.look _ us Hk k
    obtain ⟨its, rv, p⟩ := Sd.look J qx
    obtain ⟨its2, rv2, p2⟩ := Sd.look J qy
    have m1 : its.toArray.size = xs.length := by simpa using rv.length.symm
    have m2 : its2.toArray.size = ys.length := by simpa using rv2.length.symm
    have d1 := s1.draws (prog := X.prog) (w := X.w) (A := X.A.in1.in1.in1) hh i1 a D.l1i1 its.toArray
    have d2 := s2.draws (prog := X.prog) (w := X.w) (A := X.A.in1.in1.in1) hh i2 b D.l2i2 its2.toArray
    have le1 : min xs.length ys.length ≤ its.toArray.size := by rw [m1]; omega
    have le2 : min xs.length ys.length ≤ its2.toArray.size := by rw [m2]; omega
    have or1 : min xs.length ys.length = its.toArray.size ∨ min xs.length ys.length = its2.toArray.size := by rw [m1, m2]; omega
    rcases za with ⟨e0, hz0, x0, y0, hT0⟩ | ⟨hpos, T, f, oT, hz0, hT⟩
    · refine wpAny_pyNext_zipD2_end (sep_of D) d1 d2 hz0 t1 hT0 ⟨t2, p⟩ ⟨t3, p2⟩ le1 le2 or1 fun h' tk hk => hq _ ⟨us, Hk, ?_, k⟩
      exact J.turnedL (t' := tk) (ch := [z, TI, TO, i1, i2]) (fun c o hb q => hk c o (fun q' => hb (by simp [q'])) (fun q' => hb (by simp [q'])) (fun q' => hb (by simp [q'])) (fun q' => hb (by simp [q'])) q) f5
    · refine PySem.ZipL.done_held (sep_of D) d1 d2 hz0 hT.1 t1 ⟨t2, p⟩ ⟨t3, p2⟩ le1 le2 or1 fun h' tk hk => hq _ ⟨us, Hk, ?_, k⟩
      exact J.turnedL (t' := tk) (ch := [z, TI, TO, i1, i2]) (fun c o hb q => hk c o (fun q' => hb (by simp [q'])) (fun q' => hb (by simp [q'])) (fun q' => hb (by simp [q'])) q) f5
  case push =>
    rintro i v t hi ⟨us, Hk, x, y, T, rfl, J, k, hx, hy, hT, ⟨T0, f, oT, hz0, hT0⟩, t1, t2, t3, f5, tl⟩
    obtain ⟨lS, lu, qx, qy⟩ := W.look _ us Hk k
    have ST : S ≠ T := fun q => by
      rw [q, hT] at lS
      cases lS
    have lS2 : upd Hk T (.tup [x, y]) S = some (.lst us) := by rw [upd_ne ST]; exact lS
    obtain ⟨lz, its, ln, rv, le, lget⟩ := J.lstM lS2
    have zS : ∀ c ∈ [z, TI, TO, i1, i2], c ≠ S := five0
    have ln2 : its.length = i := by rw [← le, lu]
    refine ⟨its.toArray, ln, lget, by rw [List.size_toArray]; omega, us ++ [.ref T], _, J.lset (its' := its ++ [.ref T]) (f := fun a => a.push (.ref T)) (t' := t.toks) lS2 lget (by simp) (rv.append (.cons (show L2.RelV (.ref T) (.ref T) from rfl) .nil)) (by rw [List.length_append, List.length_singleton]; omega), W.step i us Hk x y T hi k hx hy hT, ?_⟩
    have up : ∀ c o, c ≠ S → t.heap.get? c = some o → (t.heap.update S (Obj.mapSeq fun a => a.push (.ref T))).get? c = some o := fun c o hb q => (Heap.get?_update_other _ _ (Ne.symm hb)).trans q
    refine ⟨.inr ⟨Nat.succ_pos _, T0, f, oT, up _ _ (zS z (by simp)) hz0, up _ _ hT0.2.2.2.2 hT0.1, hT0.2⟩, up _ _ (zS TI (by simp)) t1, Sd.it_at t2 fun o q => up _ _ (zS i1 (by simp)) q, Sd.it_at t3 fun o q => up _ _ (zS i2 (by simp)) q, fun c hcm => FpOk.with (f5 c hcm) ?_, ?_⟩
    · rw [upd_ne (zS c hcm)]
      exact (f5 c hcm).1
    · show TO < (t.heap.update S _).objs.size
      rw [Heap.size_update]
      exact tl
variable [Tabl]
/-- list(zip(e, e2)) -/
def tLz (K : PySem.W.Frag) (ta : TA) : TE := fun σ H Q => ta σ H fun vs H1 => ∃ s1 s2 a b xs ys, vs = [.ref a, .ref b] ∧ Sd.sq K H1 a xs s1 ∧ Sd.sq K H1 b ys s2 ∧ min xs.length ys.length ≤ sizeLine ∧ ∀ S, H1 S = none → Nonempty (LzW K S a b s1 s2 xs ys H1 (Q (.ref S)))
theorem pe_lz {X : Cx} {e e2 : Expr} {ta : TA} {p p2 q pos : Pos} (hc : X.calm = true) (hg : Gl X "list") (hm : X.mg "list" = none) (hg2 : Gl X "zip") (hm2 : X.mg "zip" = none) (ha : PA X [e, e2] ta)
    (hs : starEach [e, e2] X.env = (false, eval e X.env) :: starEach [e2] X.env) (hpl : (backTo q (starEach [e2] X.env)).any (·.1) = false) : PE X (.Call (.Name "list" p) [.Call (.Name "zip" p2) [e, e2] [] q] [] pos) (tLz X.K ta) := by
  constructor
  intro pins s σ H Q I h
  refine Call_ (ld_blt I hg hm FP.boot_list ?_)
  refine PyProof.Rows.callWith_type1 (PyProof.Rows.args_cons ?_ rfl) rfl rfl
  refine Call_ (ld_blt I hg2 hm2 PyProof.Rows.boot_zip ?_)
  refine PyProof.Rows.callWith_type1 (thn (ha.run q pins _ σ H _ (I.tok _) h) fun us z1 ⟨vs, H1, I1, r1, q1⟩ => ?_) hs hpl
  obtain ⟨k1, k2, a, b, xs, ys, rfl, hqx, hqy, hn, w⟩ := q1
  cases r1 with
  | cons r rr =>
    cases rr with
    | cons r' rr =>
      cases rr
      cases r
      cases r'
      refine zip_made I1 hqx hqy fun z TI TO i1 i2 s' D I2 hz hTI hTO g1 g2 fp => ?_
      refine PyProof.Rows.args_nil (list_zip hc D I2 hqx hqy hz hTI hTO g1 g2 fp hn w)
section
variable {ι : Type} {Xs : ι → Cx} {mg : Gm} {Wx : WX} {pos : Pos}
abbrev dLz (g : DTA) : DTE := fun ρ Q E => g ρ (fun ds => match ds with
  | [x, y] => ∃ xs ys, seqD x = some xs ∧ seqD y = some ys ∧ (zipD xs ys).length ≤ sizeLine ∧ Q (.lst (zipD xs ys))
  | _ => False) E
theorem zipD_take {xs ys : List D} {i : Nat} {x y : D} (hx : xs[i]? = some x) (hy : ys[i]? = some y) : (zipD xs ys).take (i + 1) = (zipD xs ys).take i ++ [pairD x y] := by
  rw [List.take_add_one, zipD_get, hx, hy] <;> rfl
theorem de_lz {a b : Expr} {p p2 q : Pos} {g : DTA} (hm : mg.mg "list" = none) (hm2 : mg.mg "zip" = none) (h : DA Xs mg Wx [a, b] g) (hM : ∀ j, (Xs j).mg = mg.mg := by intro _; rfl) (hK : ∀ j, (Xs j).K = mg.K := by intro _; rfl) (hc : ∀ j, (Xs j).calm = true := by intro _; rfl) (hg : ∀ j, Gl (Xs j) "list" := by intro _; rfl) (hg2 : ∀ j, Gl (Xs j) "zip" := by intro _; rfl)
    (hs : ∀ j, starEach [a, b] (Xs j).env = (false, eval a (Xs j).env) :: starEach [b] (Xs j).env := by intro _; rfl) (hpl : ∀ j, (backTo q (starEach [b] (Xs j).env)).any (·.1) = false := by intro _; rfl) :
    DE Xs mg Wx (.Call (.Name "list" p) [.Call (.Name "zip" p2) [a, b] [] q] [] pos) (dLz g) := by
  obtain ⟨t, h1, h2⟩ := h
  refine ⟨tLz mg.K t, fun j => by
    have z := pe_lz (p := p) (p2 := p2) (q := q) (pos := pos) (hc j) (hg j) (by rw [hM j]; exact hm) (hg2 j) (by rw [hM j]; exact hm2) (h1 j) (hs j) (hpl j)
    rw [hK j] at z
    exact z, fun B ρ Q E hf W σ H Q' hh e x q => ?_⟩
  refine h2 B ρ _ E hf W σ H _ hh e x fun W1 H1 vs ds s1 r1 k1 => ?_
  split at k1
  · rename_i dx dy
    obtain ⟨xs, ys, ex, ey, hsz, k1⟩ := k1
    cases r1 with
    | cons rx r1 =>
      cases r1 with
      | cons ry r1 =>
        cases r1
        obtain ⟨a, us, sa, rfl, ra, qa⟩ := seq_side rx ex
        obtain ⟨b, ws, sb, rfl, rb, qb⟩ := seq_side ry ey
        have la := ra.length
        have lb := rb.length
        refine ⟨sa, sb, a, b, us, ws, rfl, qa _ _ (Le.refl _) s1.holds, qb _ _ (Le.refl _) s1.holds, by rw [la, lb, ← zipD_len]; exact hsz, fun S hS => ⟨?_⟩⟩
        exact {
          Wk := fun i vs Hk => ∃ W', Step W1 H1 W' Hk ∧ Hk S = some (.lst vs) ∧ W'.H S = none ∧ ¬ W'.T S ∧ Reps mg W' vs ((zipD xs ys).take i) ∧ vs.length = i
          zero := ⟨W1, Step.lay s1.holds hS, upd_same, s1.holds.same.free hS, s1.holds.nT hS, .nil, rfl⟩
          look := fun i vs Hk ⟨W', st, e1, _, _, _, l⟩ => ⟨e1, l, qa _ _ st.le st.holds, qb _ _ st.le st.holds⟩
          step := fun i vs Hk v1 v2 T hi ⟨W', st, e1, nw, nt, rs, l⟩ hx hy hT => by
            obtain ⟨d1, y1, r1⟩ := ra.getV hx
            obtain ⟨d2, y2, r2⟩ := rb.getV hy
            have ST : S ≠ T := fun z => by
              rw [z, hT] at e1
              cases e1
            have sA := Step.alloc (o := .tup [v1, v2]) st.holds hT
            have rT : Rep mg (W'.put T (.tup [v1, v2])) (.ref T) (pairD d1 d2) := Rep.newTup (.cons (r1.mono st.le) (.cons (r2.mono st.le) .nil)) (st.holds.same.free hT)
            obtain ⟨g1, g2, g3⟩ := sA.mine e1 nw nt
            refine ⟨W'.put T (.tup [v1, v2]), (st.trans sA).own hS g1 g2 g3, upd_same, g2, g3, ?_, by rw [List.length_append, List.length_singleton, l]⟩
            rw [zipD_take y1 y2]
            exact (rs.mono sA.le).snoc rT
          fin := fun vs Hk ⟨W', st, e1, nw, nt, rs, l⟩ => by
            have sT := st.taken hS e1 nw nt
            refine q _ _ _ _ (s1.trans sT) (.lst (vs := vs) (show upd W'.H S (.lst vs) S = _ from upd_same) ?_) k1
            have er : (zipD xs ys).take (min us.length ws.length) = zipD xs ys := List.take_of_length_le (by rw [zipD_len, la, lb]; exact Nat.le_refl _)
            rw [er] at rs
            exact rs.mono (Wd.put_le nw) }
  · exact k1.elim
end
end FP
/-! FP47: facts of own exceptions, by their built-in bases. -/
namespace FP
open PySem L2
variable [Tabl]
/-! ### the end of a law: facts by the written part -/
theorem cat_of {K : PySem.W.Frag} {mg : Str → Option Value} {x : Str} {C : Addr} (h1 : mg x = some (.ref C)) (h2 : PySem.W.isClsIn K C = true) (h3 : PySem.W.typeIn K (.ref C) = some (.type "type")) (h4 : PySem.W.subIn K (.ref C) (.type "BaseException") = some true) (h5 : PySem.W.subIn K (.ref C) (.ref C) = some true) : CatF ⟨mg, K⟩ (.ref C) [x] (fun _ => true) := ⟨fun y hy => by
  rw [List.mem_singleton] at hy
  subst hy
  refine ⟨C, h1, ?_⟩
  show PySem.W.exmOne K (.ref C) (.ref C) = some true
  unfold PySem.W.exmOne PySem.W.kitCls
  unfold PySem.W.isClsIn at h2
  simp [h2, h3, h4, h5]⟩
theorem CatF.none {mg : Gm} {c : Value} {yes : Str → Bool} : CatF mg c [] yes := ⟨fun _ h => absurd h List.not_mem_nil⟩
theorem CatF.cons {mg : Gm} {c : Value} {cs : List Str} {yes : Str → Bool} {x : Str} {C : Addr} {b : Bool} (h1 : mg.mg x = some (.ref C)) (h2 : PySem.W.exmOne mg.K (.ref C) c = some b) (h3 : yes x = b) (r : CatF mg c cs yes) : CatF mg c (x :: cs) yes := ⟨fun y hy => by
  rcases List.mem_cons.mp hy with e | hy
  · subst e
    exact ⟨C, h1, by rw [h2, h3]⟩
  · exact r.cl y hy⟩
theorem exm_sub {K : PySem.W.Frag} {C C' : Addr} {b : Bool} (h2 : PySem.W.isClsIn K C' = true) (h3 : PySem.W.typeIn K (.ref C') = some (.type "type")) (h4 : PySem.W.subIn K (.ref C') (.type "BaseException") = some true) (h5 : PySem.W.subIn K (.ref C) (.ref C') = some b) : PySem.W.exmOne K (.ref C) (.ref C') = some b := by
  unfold PySem.W.exmOne PySem.W.kitCls
  unfold PySem.W.isClsIn at h2
  simp [h2, h3, h4, h5]
end FP
/-! FP48: list(d.items()). -/
namespace FP
open PySem PySem.Spec PyProof.Rows L2
end FP
/-! FP49: text.count(text). -/
namespace FP
open PySem PySem.Spec PyProof.Rows L2
end FP
/-! FP50: isinstance with a built-in class, of data that may be an object of the text. -/
namespace FP
open PySem PySem.Spec PyProof.Rows L2
variable [Tabl]
structure IsbF (mg : Gm) (T : String) (cs : List Str) : Prop where
  cl : ∀ c ∈ cs, ∃ C, ClsF mg c C ∧ PySem.W.kitOne mg.K (.ref C) (.type T) = some false
theorem isb_nil {mg : Gm} {T : String} : IsbF mg T [] := ⟨fun _ h => (List.not_mem_nil h).elim⟩
theorem isb_cons {mg : Gm} {T : String} {c : Str} {C : Addr} {cs : List Str} (F : ClsF mg c C) (km : PySem.W.kitMeta T = true) (h : PySem.W.subIn mg.K (.ref C) (.type T) = some false) (r : IsbF mg T cs) : IsbF mg T (c :: cs) := by
  refine ⟨fun x hx => ?_⟩
  rcases List.mem_cons.mp hx with rfl | q
  · refine ⟨C, F, ?_⟩
    unfold PySem.W.kitOne
    have e : ((Value.ref C) == (Value.type T)) = false := rfl
    rw [e, if_neg Bool.false_ne_true]
    show (if PySem.W.kitMeta T = true then PySem.W.subIn mg.K (.ref C) (.type T) else none) = _
    rw [if_pos km, h]
  · exact r.cl x q
def isiC (n : String) (cs : List Str) (x : D) (Q : D → Prop) : Prop := match x with
  | .ins c _ => c ∈ cs ∧ Q (.bl false)
  | _ => match tyName x with
    | some m => ∃ b, kitB m n = some b ∧ Q (.bl b)
    | none => False
abbrev dIsiC (n : String) (cs : List Str) (f : DTE) : DTE := fun ρ Q E => f ρ (fun x => isiC n cs x Q) E
section
variable {ι : Type} {Xs : ι → Cx} {mg : Gm} {Wx : WX} {pos : Pos}
theorem de_isiC {e : Expr} {f : DTE} {T : Str} {n : String} {cs : List Str} {p p2 : Pos} (h : DE Xs mg Wx e f) (hm : mg.mg "isinstance" = none) (hmT : mg.mg T = none) (K : IsbF mg n cs) (hT : bootBuiltins T = some (.type n)) (hv : bootBuiltins "isinstance" = some (.builtin "isinstance"))
    (hK : ∀ j, (Xs j).K = mg.K := by intro _; rfl) (hM : ∀ j, (Xs j).mg = mg.mg := by intro _; rfl) (hg : ∀ j, Gl (Xs j) "isinstance" := by intro _; rfl) (hgT : ∀ j, Gl (Xs j) T := by intro _; rfl) (hn : T ≠ "__name__" := by decide) (hd : (T == ("__debug__" : Str)) = false := by decide)
    (he : ∀ j, starEach [e, .Name T p2] (Xs j).env = (false, eval e (Xs j).env) :: starEach [.Name T p2] (Xs j).env := by intro _; rfl) (he2 : ∀ j, starEach [.Name T p2] (Xs j).env = [(false, eval (.Name T p2) (Xs j).env)] := by intro _; rfl)
    (hpl : ∀ j, (backTo pos (starEach [.Name T p2] (Xs j).env)).any (·.1) = false := by intro _; rfl) : DE Xs mg Wx (.Call (.Name "isinstance" p) [e, .Name T p2] [] pos) (dIsiC n cs f) := by
  obtain ⟨t, h1, h2⟩ := h
  refine ⟨tCB (rIsi mg.K) (tCons t (tCons (tC (.ty n)) tNil)), fun j => ?_, ?_⟩
  · exact pe_callB (call_isiK2 (hK j)) (hg j) (by rw [hM j]; exact hm) hv (pa_cons (h1 j) (pa_cons (pe_bltn (v := .ty n) (hgT j) (by rw [hM j]; exact hmT) hT rfl hn hd) pa_nil (he2 j)) (he j)) (by decide) (by decide) (he j) (hpl j)
  · intro B ρ Q E hf W σ H Q' hh e x q
    refine h2 B ρ _ E hf W σ H _ hh e x fun W1 H1 v d s1 r1 k1 => ?_
    have k2 : isiC n cs d Q := k1
    unfold isiC at k2
    split at k2
    · rename_i c fs
      obtain ⟨hc, hq⟩ := k2
      obtain ⟨C', F, hy⟩ := K.cl _ hc
      cases r1 with
      | @ins a C0 dx fs c ds hc ha hk rs =>
        have ec := F.eq hc
        subst ec
        exact ⟨_, .ty n, _, .type n, false, rfl, .ty n, .base (.ins (s1.holds.same _ _ ha) F.cl F.ha F.hn F.htk F.hm), hy, q W1 H1 _ _ s1 (.bl false) hq⟩
    · split at k2
      · rename_i m hm
        obtain ⟨b, hb, hq⟩ := k2
        exact ⟨v, .ty n, .type m, .type n, b, rfl, .ty n, tyName_v s1.holds r1 hm, kit_ty hb, q W1 H1 _ _ s1 (.bl b) hq⟩
      · exact k2.elim
end
end FP
/-! FP51: a text times a whole number. -/
namespace FP
open PySem PySem.Spec PyProof.Rows L2
end FP
/-! FP52: x != o, where x is no object of the text and o is one. -/
namespace FP
open PySem PySem.Spec PyProof.Rows PySem.W
section
variable {prog : Program} {w : World}
theorem none_ne_own (x : Addr) : Gives (Builtin.«NoneType.__ne__» ⟨[.none, .ref x], []⟩) (.val (Value.notImplemented)) :=
  .of_wp fun M A E s Q h => by obtain ⟨hp, g, d, tk, os⟩ := s; wp_walk; exact ⟨_, rfl, h⟩
theorem str_ne_own (a : Str) (u : Tok) (x C dx : Addr) :
    MeetsIn prog w (Builtin.«str.__ne__» ⟨[.str a u, .ref x], []⟩) (fun _ R s => s.heap.get? x = some (PySem.W.instObj C dx) ∧ R (.ok (.ret .notImplemented)) s) :=
  .of_wp fun A R s h => by obtain ⟨hp, g, d, tk, os⟩ := s; obtain ⟨hl, h⟩ := h; unfold PySem.W.instObj at hl; wp_walk using wpAny_loadPart' hl, wpAny_load hl; exact ⟨_, rfl, h⟩
theorem int_ne_own (a : Int) (u : Tok) (x C dx : Addr) :
    MeetsIn prog w (Builtin.«int.__ne__» ⟨[.int a u, .ref x], []⟩) (fun _ R s => s.heap.get? x = some (PySem.W.instObj C dx) ∧ R (.ok (.ret .notImplemented)) s) :=
  .of_wp fun A R s h => by obtain ⟨hp, g, d, tk, os⟩ := s; obtain ⟨hl, h⟩ := h; unfold PySem.W.instObj at hl; wp_walk using wpAny_loadPart' hl, wpAny_load hl; exact ⟨_, rfl, h⟩
theorem list_ne_own (l x C dx : Addr) (items : Array Value) (n : Nat) (dd : Option Addr) (sl : Array (Option Value)) :
    MeetsIn prog w (Builtin.«list.__ne__» ⟨[.ref l, .ref x], []⟩) (fun _ R s => s.heap.get? l = some { cls := .type "list", dict := dd, data := .seq items n, slots := sl } ∧ s.heap.get? x = some (PySem.W.instObj C dx) ∧ Looks (model prog w) s.heap (isSubtype (.ref C) (.type "list")) false ∧ R (.ok (.ret .notImplemented)) s) :=
  .of_wp fun A R s h => by obtain ⟨hp, g, d, tk, os⟩ := s; obtain ⟨hl, hx, hs, h⟩ := h; unfold PySem.W.instObj at hx; wp_walk using wpAny_loadPart' hl, wpAny_loadPart' hx, hs.here; exact ⟨_, rfl, h⟩
theorem tuple_ne_own (l x C dx : Addr) (items : Array Value) (n : Nat) (dd : Option Addr) (sl : Array (Option Value)) :
    MeetsIn prog w (Builtin.«tuple.__ne__» ⟨[.ref l, .ref x], []⟩) (fun _ R s => s.heap.get? l = some { cls := .type "tuple", dict := dd, data := .seq items n, slots := sl } ∧ s.heap.get? x = some (PySem.W.instObj C dx) ∧ Looks (model prog w) s.heap (isSubtype (.ref C) (.type "tuple")) false ∧ R (.ok (.ret .notImplemented)) s) :=
  .of_wp fun A R s h => by obtain ⟨hp, g, d, tk, os⟩ := s; obtain ⟨hl, hx, hs, h⟩ := h; unfold PySem.W.instObj at hx; wp_walk using wpAny_loadPart' hl, wpAny_loadPart' hx, hs.here; exact ⟨_, rfl, h⟩
theorem dict_ne_own (l x C dx : Addr) (o : Obj) :
    MeetsIn prog w (Builtin.«dict.__ne__» ⟨[.ref l, .ref x], []⟩) (fun _ R s => s.heap.get? l = some o ∧ o.cls = .type "dict" ∧ s.heap.get? x = some (PySem.W.instObj C dx) ∧ Looks (model prog w) s.heap (isSubtype (.ref C) (.type "dict")) false ∧ R (.ok (.ret .notImplemented)) s) :=
  .of_wp fun A R s h => by obtain ⟨hp, g, d, tk, os⟩ := s; obtain ⟨hl, hc, hx, hs, h⟩ := h; obtain ⟨cls, dd, data, sl⟩ := o; simp only at hc; subst hc; unfold PySem.W.instObj at hx; wp_walk using wpAny_loadPart' hl, wpAny_loadPart' hx, hs.here; exact ⟨_, rfl, h⟩
end
end FP
/-! FP53: the operator != with a value on the left that is no object of the text. -/
namespace FP
open PySem PySem.Spec PyProof.Rows PySem.W
variable [Tabl]
section
variable {prog : Program} {w : World}
/-- what stands in the way of an answer from the left side -/
def DecA (prog : Program) (w : World) (A : Around) (z : Shared) (v : Value) (x : Addr) (T : String) : Prop :=
  ∃ ida, Slot T (cmpInfo .NotEq).2.1 ida ∧ ∀ (E : Value → Shared → Prop) (Q' : Value → Shared → Prop), Q' .notImplemented z → wpAny (model prog w) A (call (.builtin ida) [v, .ref x]) Q' E z
theorem neL {A : Around} {E : Value → Shared → Prop} {s : Shared} {K : PySem.W.Frag} {x C f : Addr} {ox : Obj} {od : Option Obj} {a : Value} {Ta : String} {Q : Value → Shared → Prop} (hu : A.units + 1 < cLine) (X : K.In s.heap) (I : PySem.W.InstAt s.heap x ox C od)
    (ha : s.TypeIs a Ta) (hsub : PySem.W.subIn K (.ref C) (.type Ta) = some false) (hd : DecA prog w A s a x Ta) (hne : PySem.W.findIn K (.ref C) "__ne__" = some (some (.builtin "object.__ne__"))) (hm : PySem.W.mroIn K C (.type "object") = some true)
    (hs : PySem.W.findIn K (.ref C) "__eq__" = some (some (.ref f))) (hf : PySem.W.isFn K (.ref f) = true)
    (h : wpAny (model prog w) A.in1 (call (.ref f) [.ref x, a]) (fun v s' => ∃ c, v = .bool c ∧ Q (.bool (!c)) s') E s) : wpAny (model prog w) A (richCompare .NotEq a (.ref x)) Q E s := by
  have one : wpAny (model prog w) A (tryCompare (.ref x) (cmpInfo .NotEq).2.2 a) (fun r s' => ∃ v, r = some v ∧ Q v s') E s := by
    unfold tryCompare
    refine wpAny_bind (ifBoundS X I hne PySem.F.cmp_object.ne.bind (wpAny_call (codeAny_call_builtin PySem.F.cmp_object.ne.plain PySem.F.cmpEntry_ne (PySem.W.check_slot (i := "object.__ne__") (owner := "object") (n := "__ne__") PySem.F.cmpKind_ne PySem.F.cmpSplit_ne (I.type.andThen (PySem.W.looks_mroIn X hm)) (PySem.F.cmpArgs_ne _ _) ?_))))
    unfold Builtin.«object.__ne__»
    refine wpAny_bind (m := slotArgs "__ne__" 1 _) (wpAny_pure ?_)
    refine wpAny_bind (m := cRoomFor _ _) (wpAny_cRoomFor hu ?_)
    refine wpAny_bind (m := callSpecialIfBound? (.ref x) (Str.ofString "__eq__") _) (PySem.W.ifBound_K X I hs hf (wpAny_mono h (fun r s' hq => ?_) fun _ _ y => y))
    obtain ⟨c, rfl, hq⟩ := hq
    exact wpAny_bind (wpAny_truthy_bool (wpAny_pure (wpAny_pure ⟨_, rfl, hq⟩)))
  obtain ⟨ida, slot, hd⟩ := hd
  rcases hi : cmpInfo CmpOp.NotEq with ⟨sym, f1, r1⟩
  rw [hi] at slot one
  simp only [richCompare, hi, ha.oneThing_none]
  refine wpAny_holding (wpAny_bind (wpAny_cRoomFor (Nat.lt_of_succ_lt hu) ?_))
  refine wpAny_bind (wpAny_typeOf ha (wpAny_bind (I.type.here ?_)))
  have hne' : (Value.type Ta != Value.ref C) = true := rfl
  simp only [hne', if_true]
  refine wpAny_bind ((PySem.W.looks_subIn X hsub).here ?_)
  simp only [Bool.false_eq_true, if_false, Bool.not_false, if_true]
  refine wpAny_bind (m := tryCompare a _ (.ref x)) (wpAny_tryCompare_declines ha slot (hd _ _ ⟨rfl, ?_⟩))
  refine wpAny_bind (m := tryCompare (.ref x) _ a) (wpAny_mono one (fun r s' z => ?_) fun _ _ e => e)
  obtain ⟨v, rfl, hq⟩ := z
  exact wpAny_pure hq
end
open L2
/-- the kinds on the left side, by their types -/
inductive PlV (H : Hp) : V → String → Prop
  | non : PlV H .non "NoneType"
  | int (i : Int) : PlV H (.int i) "int"
  | str (z : Str) : PlV H (.str z) "str"
  | lst {a : Addr} {xs : List V} : H a = some (.lst xs) → PlV H (.ref a) "list"
  | tup {a : Addr} {xs : List V} : H a = some (.tup xs) → PlV H (.ref a) "tuple"
  | dct {a : Addr} {o : Obj} {kvs : List (Key × V)} : H a = some (.frz o (.dK kvs)) → PlV H (.ref a) "dict"
theorem dec_of {X : Cx} {pins : List (Addr × Obj)} {σ : L2.St} {H : Hp} {z : Shared} {x : V} {v : Value} {T : String} {a C dx : Addr} (I : Inv X pins σ H z) (rx : RelV x v) (hx : z.heap.get? a = some (PySem.W.instObj C dx)) (p : PlV H x T) (hs : PySem.W.Looks (model X.prog X.w) z.heap (isSubtype (.ref C) (.type T)) false) : z.TypeIs v T ∧ DecA X.prog X.w X.A z v a T := by
  cases p with
  | non =>
    cases rx
    exact ⟨rfl, _, F.slot_NoneType_ne, fun E Q' hq => call_gives F.slot_NoneType_ne rfl F.entry_NoneType_ne (F.args_NoneType_ne_2 _ _) (none_ne_own a) hq⟩
  | int i =>
    obtain ⟨t, rfl⟩ := rx
    exact ⟨typeIs_int _ _ _, _, F.slot_int_ne, fun E Q' hq => call_meetsIn F.slot_int_ne (typeIs_int _ _ _) F.entry_int_ne (F.args_int_ne_2 _ _) (int_ne_own i t a C dx) ⟨hx, hq⟩⟩
  | str i =>
    obtain ⟨t, rfl⟩ := rx
    exact ⟨typeIs_str _ _ _, _, F.slot_str_ne, fun E Q' hq => call_meetsIn F.slot_str_ne (typeIs_str _ _ _) F.entry_str_ne (F.args_str_ne_2 _ _) (str_ne_own i t a C dx) ⟨hx, hq⟩⟩
  | lst e =>
    cases rx
    obtain ⟨_, its, n, _, ho⟩ := (show ObjOk X.prog X.w H z.heap _ (.lst _) from I.hok _ _ e)
    exact ⟨⟨_, ho, rfl⟩, _, F.slot_list_ne, fun E Q' hq => call_meetsIn F.slot_list_ne ⟨_, ho, rfl⟩ F.entry_list_ne (F.args_list_ne_2 _ _) (list_ne_own _ a C dx _ _ _ _) ⟨ho, hx, hs, hq⟩⟩
  | tup e =>
    cases rx
    obtain ⟨_, its, _, ⟨cls, dd, data, sl⟩, ho, hc, n, hd⟩ := (show ObjOk X.prog X.w H z.heap _ (.tup _) from I.hok _ _ e)
    simp only at hc hd
    subst hc hd
    exact ⟨⟨_, ho, rfl⟩, _, F.slot_tuple_ne, fun E Q' hq => call_meetsIn F.slot_tuple_ne ⟨_, ho, rfl⟩ F.entry_tuple_ne (F.args_tuple_ne_2 _ _) (tuple_ne_own _ a C dx _ _ _ _) ⟨ho, hx, hs, hq⟩⟩
  | @dct b o kvs e =>
    cases rx
    obtain ⟨_, hy⟩ := (show ObjOk X.prog X.w H z.heap _ (.frz _ (.dK _)) from I.hok _ _ e)
    obtain ⟨_, _, vs, _, o', es, ep, h1, h2, _⟩ := hy
    exact ⟨⟨_, h1, h2.1⟩, _, F.slot_dict_ne, fun E Q' hq => call_meetsIn F.slot_dict_ne ⟨_, h1, h2.1⟩ F.entry_dict_ne (F.args_dict_ne_2 _ _) (dict_ne_own _ a C dx _) ⟨h1, h2.1, hx, hs, hq⟩⟩
structure NeLF (mg : Gm) (C : Addr) : Prop where
  no : ∀ T ∈ ["NoneType", "int", "str", "list", "tuple", "dict"], PySem.W.subIn mg.K (.ref C) (.type T) = some false
theorem neLF_mk {mg : Gm} {C : Addr} (h0 : PySem.W.subIn mg.K (.ref C) (.type "NoneType") = some false) (h1 : PySem.W.subIn mg.K (.ref C) (.type "int") = some false) (h2 : PySem.W.subIn mg.K (.ref C) (.type "str") = some false) (h3 : PySem.W.subIn mg.K (.ref C) (.type "list") = some false) (h4 : PySem.W.subIn mg.K (.ref C) (.type "tuple") = some false) (h5 : PySem.W.subIn mg.K (.ref C) (.type "dict") = some false) : NeLF mg C := by
  refine ⟨fun n hn => ?_⟩
  simp only [List.mem_cons, List.not_mem_nil, or_false] at hn
  rcases hn with rfl | rfl | rfl | rfl | rfl | rfl <;> assumption
def plD : D → Prop
  | .non => True
  | .int _ => True
  | .str _ => True
  | .lst _ => True
  | .tup _ => True
  | .dct _ => True
  | _ => False
theorem plD_v {mg : Gm} {W : Wd} {H : Hp} {x : V} {d : D} (hh : Holds W H) (r : Rep mg W x d) (h : plD d) : ∃ T, T ∈ ["NoneType", "int", "str", "list", "tuple", "dict"] ∧ PlV H x T := by
  cases r with
  | non => exact ⟨_, by decide, .non⟩
  | int i => exact ⟨_, by decide, .int i⟩
  | str z => exact ⟨_, by decide, .str z⟩
  | lst ha _ => exact ⟨_, by decide, .lst (hh.same _ _ ha)⟩
  | tup ha _ => exact ⟨_, by decide, .tup (hh.same _ _ ha)⟩
  | dct ha _ _ => exact ⟨_, by decide, .dct (hh.same _ _ ha)⟩
  | _ => exact h.elim
def rdNeL (c : Str) (f : List D → M D) : RD2 := fun x y Q => match y with
  | .ins c' fs => c' = c ∧ plD x ∧ f [.ins c' fs, x] (fun d => blc d fun b => Q (.bl (!b))) F0
  | _ => False
section
variable {ι : Type} {Xs : ι → Cx} {mg : Gm} {Wx : WX} {pos : Pos} {P : Program} {w : World} {base : Heap} {k : Nat} {C : Addr} {c : Str} {f : List D → M D}
theorem ok_neL (Fc : ClsF mg c C) (S : SpecOk P w mg base k C "__eq__" 2 f) (K : NeLF mg C) (hne : PySem.W.findIn mg.K (.ref C) "__ne__" = some (some (.builtin "object.__ne__"))) (hr : ∀ j, RmG (k + 1) (Xs j).A) (hP : HPs Xs P w mg base := by intro _; exact ⟨rfl, rfl, rfl, rfl, rfl⟩) : OpOk Xs mg (compareOp .NotEq) (rdNeL c f) := by
  obtain ⟨fa, fd, ps, h1, h2, h3, hb, hl, G⟩ := S.ex
  refine ⟨fun x y H Q => ∃ a dx fs T, y = .ref a ∧ H a = some (.ins C dx fs) ∧ T ∈ ["NoneType", "int", "str", "list", "tuple", "dict"] ∧ PlV H x T ∧ spD mg 2 f [.ref a, x] H (fun v H' => ∃ b, v = .bl b ∧ Q (.bl (!b)) H') E0, fun j => ?_, ?_⟩
  · obtain ⟨p1, p2, p3, p4, p5⟩ := hP j
    subst p1 p2 p5
    intro pins z σ H x y v u Q I rx ry h
    obtain ⟨a, dx, fs, T, rfl, ea, hT, hp, hs⟩ := h
    cases ry
    obtain ⟨mA, O, _⟩ := ins_get I.hok ea
    obtain ⟨od, J, _⟩ := O.look
    have kin := I.kIn
    rw [p3] at kin
    obtain ⟨t1, t2⟩ := dec_of I rx J.at_ hp (PySem.W.looks_subIn kin (K.no T hT))
    refine neL (by have := (hr j).r.un; omega) kin J t1 (K.no T hT) t2 hne Fc.hm h1 h2 ?_
    refine wpAny_mono (callAt0 (X := Xs j) (by rw [p3, p4]; exact G) (hr j).in1 rfl (by rw [p3]; exact hb) I (vs := [.ref a, x]) (.cons (show RelV (.ref _) (.ref _) from rfl) (.cons rx .nil)) hs) (fun r z' hv => ?_) fun _ _ q => q
    obtain ⟨y, H', I', ry, b, rfl, hq⟩ := hv
    cases ry
    exact ⟨b, rfl, .bl (!b), H', I', rfl, hq⟩
  · intro W H x y dx dy Q Q' hh rx ry h q
    obtain ⟨c', ds, rfl, h⟩ := insOf h
    obtain ⟨a, C', ax, fs, rfl, hc, ha, hk, rs⟩ := ry.insI
    obtain ⟨rfl, hy, h⟩ := h
    have ec := Fc.eq hc
    subst ec
    obtain ⟨T, hT, hp⟩ := plD_v hh rx hy
    refine ⟨a, ax, fs, T, rfl, hh.same _ _ ha, hT, hp, spD_of hh (.cons (.ins hc ha hk rs) (.cons rx .nil)) rfl h fun W' H' v d s' r' hd => ?_⟩
    cases r' with
    | bl b => exact ⟨b, rfl, q W' H' _ _ s' (.bl _) hd⟩
    | _ => exact hd.elim
end
end FP
/-! FP54: operators of own objects with several kinds on the right. -/
namespace FP
open PySem PySem.Spec PyProof.Rows L2
end FP
/-! FP55: repr, of the empty dict too. -/
namespace FP
open PySem PySem.Spec PyProof.Rows L2
end FP
/-! FP56: dicts of one's own: made, changed, asked, handed on. -/
namespace FP
open PySem L2
variable [Tabl]
section
variable {mg : Gm} {B : Hp} {W W' : Wd} {H H' : Hp} {σ : St} {ρ : Env}
/-- what is mine is handed to the world, and changed by it -/
theorem EnvR.give2 (e : EnvR mg B W H σ ρ) {i : Nat} {p : Addr} {u : HO} {s : Sl} {x : D} (hi : ρ[i]? = some s) (hs : σ[i]? = some (some (.ref p))) (m : p ∈ s.fp (some (.ref p))) (l : Le W (W.put p u)) (r : Rep mg (W.put p u) (.ref p) x) : EnvR mg B (W.put p u) (upd H p u) σ (ρ.set i (.d x)) := by
  refine ⟨by simpa using e.len, fun j sl hj => ?_, fun j k s1 s2 o1 o2 a hjk q1 q2 q3 q4 m1 m2 => ?_⟩
  · rcases get_set hj with ⟨rfl, rfl⟩ | ⟨nj, hj⟩
    · exact ⟨_, hs, _, rfl, r⟩
    · obtain ⟨o, g1, g2⟩ := e.sl j sl hj
      refine ⟨o, g1, g2.keep l fun a ha u' h5 h6 h7 => ?_⟩
      have ne : a ≠ p := fun q => e.dis i j s sl _ o p nj hi hj hs g1 m (by rw [← q]; exact ha)
      refine ⟨by rw [upd_ne ne]; exact h5, ?_, h7⟩
      show upd W.H p _ a = none
      rw [upd_ne ne]
      exact h6
  · rcases get_set q1 with ⟨_, z⟩ | ⟨n1, q1⟩
    · rw [← z] at m1
      cases m1
    · rcases get_set q2 with ⟨_, z⟩ | ⟨n2, q2⟩
      · rw [← z] at m2
        cases m2
      · exact e.dis j k s1 s2 o1 o2 a hjk q1 q2 q3 q4 m1 m2
end
section
variable {ι : Type} {Xs : ι → Cx} {mg : Gm} {Wx : WX} {pos : Pos}
/-! ### new dicts -/
/-! ### changes -/
/-! ### asked -/
/-! ### handed on -/
def tFrz0 (t : TS) : TS := fun D σ H => ∃ d u, H d = some u ∧ Mut (some u) ∧ ∀ od, t D σ (upd H d (.frz od u))
theorem ps_frz0 {X : Cx} {st : Stmt} {t : TS} (h : PS X st t) : PS X st (tFrz0 t) := by
  refine ⟨fun pins s σ H D I hw => ?_⟩
  obtain ⟨d, u, hd, mu, hw⟩ := hw
  obtain ⟨od, I1⟩ := I.lock hd mu
  exact h.run pins s σ _ D I1 (hw od)
/-- the own dict is handed on ahead of a statement -/
abbrev dFrzD (i : Nat) (f : DTS) : DTS := fun N ρ => match ρ[i]? with
  | some (.od kvs) => f N (ρ.set i (.d (.dct kvs)))
  | _ => False
theorem ds_frzD (i : Nat) {st : Stmt} {f : DTS} (h : DS Xs mg Wx st f) : DS Xs mg Wx st (dFrzD i f) := by
  obtain ⟨t, h1, h2⟩ := h
  refine ⟨tFrz0 t, fun j => ps_frz0 (h1 j), fun W0 B N ρ hf W σ H Ds s e n => ?_⟩
  unfold dFrzD at hf
  split at hf
  · rename_i kvs hx
    obtain ⟨o, g1, p, vs, g2, g3, g4, g5, g6, hk, r⟩ := e.sl i _ hx
    subst g2
    refine ⟨p, _, g3, True.intro, fun od => ?_⟩
    have s1 : Step W0 B W (upd H p (.frz od (.dK vs))) := s.own g6 g3 g4 g5
    have s2 := s1.taken g6 upd_same g4 g5
    exact h2 W0 B N _ hf _ σ _ Ds s2 (e.give2 hx g1 (List.mem_singleton.mpr rfl) (Wd.put_le g4) (Rep.newDct hk r g4)) n
  · exact hf.elim
end
end FP
/-! FP57: one statement, then the others, by the values of the first one (small goals). -/
namespace FP
open PySem L2
variable [Tabl]
section
variable {f : DTE} {g : DTS} {N : Nd} {ρ : Env} {i : Nat}
/-- the expression comes to a datum with P -/
abbrev EvP (f : DTE) (ρ : Env) (P : D → Prop) : Prop := ∀ (Q : D → Prop) (E : XD → Prop), (∀ d, P d → Q d) → f ρ Q E
/-- the expression comes to just this datum -/
abbrev Ev (f : DTE) (ρ : Env) (d : D) : Prop := ∀ (Q : D → Prop) (E : XD → Prop), Q d → f ρ Q E
theorem Ev.p {d : D} (h : Ev f ρ d) : EvP f ρ (fun x => x = d) := fun Q E q => h Q E (q d rfl)
theorem seq_p (P : D → Prop) (hf : EvP f ρ P) (hg : ∀ d, P d → g N (ρ.set i (.d d))) : dSeq (dSet i f) g N ρ := hf _ _ hg
theorem seq_v (d : D) (hf : Ev f ρ d) (hg : g N (ρ.set i (.d d))) : dSeq (dSet i f) g N ρ := hf _ _ hg
theorem ret_v (d : D) (hf : Ev f ρ d) (hq : N.rt d ρ) : dRet f N ρ := hf _ _ hq
/-- a test that comes to just this truth -/
abbrev EvT (f : DTT) (ρ : Env) (b : Bool) : Prop := ∀ (Q : Bool → Prop) (E : XD → Prop), Q b → f ρ Q E
end
end FP
/-! FP58: list(d), dict(d), sorted(d); own objects in f-strings. -/
namespace FP
open PySem L2
end FP
/-! FP59: o[i] of an own class that may raise. -/
namespace FP
open PySem L2
end FP
/-! FP60: defs with a default; C() of a class whose __init__ has one. -/
namespace FP
open PySem L2
variable [Tabl]
/-- a def as it stands, whatever its defaults -/
structure FunA (K : PySem.W.Frag) (x qual : Str) (st : Stmt) (f : Addr) (fd : FuncData) : Prop where
  ex : ∃ (oc : Value) (od : Option Addr) (dV kV doc pm : Value) (an : Option Addr) (cdv ct : Value) (osl : Array (Option Value)),
    fd = PySem.W.fnOf x qual (defArgs st) (defBody st) (defScope st) dV kV doc pm an cdv ct ∧ K.lookup f = some ⟨oc, od, .func fd, osl⟩ ∧ PySem.W.codeIn K cdv qual = true
  kp : PySem.W.keepIn K (.ref f) = true
abbrev FunDf (K : PySem.W.Frag) (x qual : Str) (st : Stmt) (dvs : List V) (f : Addr) (fd : FuncData) : Prop := FunD K x qual (defArgs st) (defBody st) (defScope st) dvs [] f fd
theorem FunDf.any {K : PySem.W.Frag} {x qual : Str} {st : Stmt} {dvs : List V} {f : Addr} {fd : FuncData} (F : FunDf K x qual st dvs f fd) : FunA K x qual st f fd := by
  obtain ⟨oc, od, dV, kV, doc, pm, an, cdv, ct, osl, h1, h2, h3, _, _⟩ := F.ex
  exact ⟨⟨oc, od, dV, kV, doc, pm, an, cdv, ct, osl, h1, h2, h3⟩, F.kp⟩
end FP
/-! FP61: displays with ** . -/
namespace FP
open PySem L2
end FP
/-! FP62: {**a, **b}, {**a, k: v}. -/
namespace FP
open PySem L2
end FP
/-! FP63: dicts of plain data compared. -/
namespace FP
open PySem L2
end FP
/-! FP64: more small steps. -/
namespace FP
open PySem L2
variable [Tabl]
section
variable {f f2 : DTE} {g : DTS} {N : Nd} {ρ : Env} {i j : Nat}
theorem seq_setF {c fl : Str} {a : Addr} {fs : List (Str × D)} (h : ρ[i]? = some (.ob c a fs)) (d : D) (hl : fs.length < 1000) (hf : Ev f ρ d) (hg : g N (ρ.set i (.ob c a (putD fl d fs)))) : dSeq (dSetF i c fl f) g N ρ := by
  show dSetF i c fl f _ ρ
  unfold dSetF
  refine hf _ _ ?_
  rw [h]
  exact ⟨rfl, hl, hg⟩
theorem end_setF {c fl : Str} {a : Addr} {fs : List (Str × D)} (h : ρ[i]? = some (.ob c a fs)) (d : D) (hl : fs.length < 1000) (hf : Ev f ρ d) (hn : N.nx (ρ.set i (.ob c a (putD fl d fs)))) : dSetF i c fl f N ρ := by
  unfold dSetF
  refine hf _ _ ?_
  rw [h]
  exact ⟨rfl, hl, hn⟩
theorem seq_expr (hf : ∀ (Q : D → Prop) (E : XD → Prop), (∀ d, Q d) → f ρ Q E) (hg : g N ρ) : dSeq (dDrop f) g N ρ := hf _ _ fun _ => hg
theorem frzD {kvs : List (Key × D)} {s : DTS} (h : ρ[i]? = some (.od kvs)) (hs : s N (ρ.set i (.d (.dct kvs)))) : dFrzD i s N ρ := by
  unfold dFrzD
  rw [h]
  exact hs
theorem seq_ifF {c : DTT} {f1 : DTS} (hc : EvT c ρ false) (h : g N ρ) : dSeq (dIfS c f1 dNext) g N ρ := hc _ _ h
theorem seq_ifT {c : DTT} {f1 f2 : DTS} (hc : EvT c ρ true) (h : dSeq f1 g N ρ) : dSeq (dIfS c f1 f2) g N ρ := hc _ _ h
theorem end_if {c : DTT} {f1 f2 : DTS} (b : Bool) (hc : EvT c ρ b) (h : bit b (f1 N ρ) (f2 N ρ)) : dIfS c f1 f2 N ρ := hc _ _ h
theorem seq_as {T : Tg} {ρ' : Env} (d : D) (hf : Ev f ρ d) (hp : T.put d ρ = some ρ') (hg : g N ρ') : dSeq (dAsg T f) g N ρ := hf _ _ ⟨ρ', hp, hg⟩
theorem seq_asP {T : Tg} (P : D → Prop) (hf : EvP f ρ P) (hg : ∀ d, P d → ∃ ρ', T.put d ρ = some ρ' ∧ g N ρ') : dSeq (dAsg T f) g N ρ := hf _ _ hg
theorem seq_for {w : DTI} {T : Tg} {b : DTS} (ds : List D) (hw : ∀ (Q : List D → Prop) (E : XD → Prop), Q ds → w ρ Q E) (h : forD T b { N with nx := g N } ds ρ) : dSeq (dFor w T b) g N ρ := hw _ _ h
/-! ### tests by their values -/
variable {c d : DTT} {b b2 : Bool}
theorem or_t (hc : EvT c ρ true) : EvT (dOr c d) ρ true := fun Q E q => hc _ _ q
theorem or_f (hc : EvT c ρ false) (hd : EvT d ρ b) : EvT (dOr c d) ρ b := fun Q E q => hc _ _ (hd _ _ q)
theorem and_v (hc : EvT c ρ b) (hd : b = true → EvT d ρ b2) : EvT (dAnd c d) ρ (b && b2) := fun Q E q => hc _ _ (by
  cases b with
  | true => exact hd rfl _ _ q
  | false => exact q)
theorem or_v (hc : EvT c ρ b) (hd : b = false → EvT d ρ b2) : EvT (dOr c d) ρ (b || b2) := fun Q E q => hc _ _ (by
  cases b with
  | false => exact hd rfl _ _ q
  | true => exact q)
theorem not_v (hc : EvT c ρ b) : EvT (dNot c) ρ (!b) := fun Q E q => hc _ _ q
theorem b_v (hf : Ev f ρ (.bl b)) : EvT (dB f) ρ b := fun Q E q => hf _ _ q
theorem Ev.eq {x y : D} (h : Ev f ρ x) (e : x = y) : Ev f ρ y := e ▸ h
theorem EvT.eq (h : EvT c ρ b) (e : b = b2) : EvT c ρ b2 := e ▸ h
end
end FP
/-! FP65: what expressions come to, put together by values. -/
namespace FP
open PySem L2
variable [Tabl]
section
variable {ρ : Env} {f g fa fb fk fv : DTE} {c d : D}
/-- the arguments come to just these data -/
abbrev EvA (g : DTA) (ρ : Env) (ds : List D) : Prop := ∀ (Q : List D → Prop) (E : XD → Prop), Q ds → g ρ Q E
/-- what is gone through comes to just these data -/
abbrev EvI (w : DTI) (ρ : Env) (ds : List D) : Prop := ∀ (Q : List D → Prop) (E : XD → Prop), Q ds → w ρ Q E
theorem a0 : EvA dNil ρ [] := fun Q E q => q
theorem a1 {ga : DTA} {ds : List D} (h : Ev f ρ d) (hg : EvA ga ρ ds) : EvA (dCons f ga) ρ (d :: ds) := fun Q E q => h _ _ (hg _ _ q)
theorem ev_fld {cl fl : Str} {fs : List (Str × D)} (h : Ev f ρ (.ins cl fs)) (e : fs.lookup fl = some d) : Ev (dFld cl fl f) ρ d := fun Q E q => h _ _ ⟨rfl, d, e, q⟩
theorem ev_op {rd : RD2} {x y : D} (ha : Ev fa ρ x) (hb : Ev fb ρ y) (h : ∀ Q : D → Prop, Q d → rd x y Q) : Ev (dOp rd fa fb) ρ d := fun Q E q => ha _ _ (hb _ _ (h _ q))
theorem ev_call {F : List D → M D} {n : Nat} {ga : DTA} {ds : List D} (ha : EvA ga ρ ds) (hn : ds.length = n) (h : ∀ (Q : D → Prop) (E : XD → Prop), Q d → F ds Q E) : Ev (dCall F n ga) ρ d := fun Q E q => ha _ _ ⟨hn, h _ _ q⟩
theorem ev_make {cl : Str} {F : List D → ((List (Str × D)) → Prop) → (XD → Prop) → Prop} {n : Nat} {ga : DTA} {ds : List D} {fs : List (Str × D)} (ha : EvA ga ρ ds) (hn : ds.length = n) (h : ∀ (Q : List (Str × D) → Prop) (E : XD → Prop), Q fs → F ds Q E) : Ev (dMake cl F n ga) ρ (.ins cl fs) := fun Q E q => ha _ _ ⟨hn, h _ _ q⟩
theorem ev_cb {rd : RDL} {ga : DTA} {ds : List D} (ha : EvA ga ρ ds) (h : ∀ Q : D → Prop, Q d → rd ds Q) : Ev (dCB rd ga) ρ d := fun Q E q => ha _ _ (h _ q)
theorem ev_meth {cl m : Str} {F : List D → M D} {n : Nat} {ga : DTA} {fs : List (Str × D)} {ds : List D} (ho : Ev f ρ (.ins cl fs)) (hm : fs.lookup m = none) (ha : EvA ga ρ ds) (hn : ds.length + 1 = n) (h : ∀ (Q : D → Prop) (E : XD → Prop), Q d → F (.ins cl fs :: ds) Q E) : Ev (dMeth cl F n m f ga) ρ d := fun Q E q => ho _ _ ⟨rfl, hm, ha _ _ ⟨hn, h _ _ q⟩⟩
theorem ev_andV {b1 b2 : Bool} (ha : Ev fa ρ (.bl b1)) (hb : b1 = true → Ev fb ρ (.bl b2)) : Ev (dAndV fa fb) ρ (.bl (b1 && b2)) := fun Q E q => ha _ _ (by
  cases b1 with
  | true => exact hb rfl _ _ q
  | false => exact q)
theorem lcD_F {α : Type} {body : D → (Option D → Prop) → Prop} (e g : α → D) (b : α → Bool) : ∀ (xs : List α) (Q : List D → Prop), (∀ x ∈ xs, ∀ k : Option D → Prop, k (if b x then some (g x) else none) → body (e x) k) → Q ((xs.filter b).map g) → lcD body (xs.map e) Q
  | [], Q, _, h => h
  | x :: xs, Q, hb, h => by
    refine hb x List.mem_cons_self _ ?_
    cases hx : b x with
    | true =>
      refine lcD_F e g b xs _ (fun y hy => hb y (List.mem_cons_of_mem _ hy)) ?_
      rw [List.filter_cons, hx] at h
      exact h
    | false =>
      refine lcD_F e g b xs _ (fun y hy => hb y (List.mem_cons_of_mem _ hy)) ?_
      rw [List.filter_cons, hx] at h
      exact h
theorem ev_lcF {α : Type} {w : DTI} {T : Tg} {ft : DTT} {vs : List Nat} {xs : List α} (e g : α → D) (b : α → Bool) (hw : EvI w ρ (xs.map e)) (hl : xs.length ≤ sizeLine) (hb : ∀ x ∈ xs, ∃ ρ2, T.put (e x) (wipeD ρ vs) = some ρ2 ∧ EvT ft ρ2 (b x) ∧ (b x = true → Ev f ρ2 (g x))) : Ev (dLc w T ft f vs) ρ (.lst ((xs.filter b).map g)) := fun Q E q => hw _ _ ⟨by rw [List.length_map]; exact hl, lcD_F e g b xs _ (fun x hx k hk => by
  obtain ⟨ρ2, h1, h2, h3⟩ := hb x hx
  refine ⟨ρ2, h1, h2 _ _ ?_⟩
  cases hc : b x with
  | true =>
    rw [hc] at hk
    exact h3 hc _ _ hk
  | false =>
    rw [hc] at hk
    exact hk) q⟩
theorem ev_lc {α : Type} {w : DTI} {T : Tg} {vs : List Nat} {xs : List α} (e g : α → D) (hw : EvI w ρ (xs.map e)) (hl : xs.length ≤ sizeLine) (hb : ∀ x ∈ xs, ∃ ρ2, T.put (e x) (wipeD ρ vs) = some ρ2 ∧ Ev f ρ2 (g x)) : Ev (dLc w T dYes f vs) ρ (.lst (xs.map g)) := by
  have h := ev_lcF (f := f) (ft := dYes) e g (fun _ => true) hw hl fun x hx => by
    obtain ⟨ρ2, h1, h2⟩ := hb x hx
    exact ⟨ρ2, h1, fun Q E q => q, fun _ => h2⟩
  rw [List.filter_eq_self.mpr fun _ _ => rfl] at h
  exact h
theorem ev_tup {ga : DTA} {ds : List D} (ha : EvA ga ρ ds) (hl : ds.length ≤ sizeLine) : Ev (dTup ga) ρ (.tup ds) := fun Q E q => ha _ _ ⟨hl, q⟩
theorem ev_lst {ga : DTA} {ds : List D} (ha : EvA ga ρ ds) (hl : ds.length ≤ sizeLine) : Ev (dLst ga) ρ (.lst ds) := fun Q E q => ha _ _ ⟨hl, q⟩
abbrev EvKV (g : DTP) (ρ : Env) (kvs : List (Key × D)) : Prop := ∀ (Q : List (Key × D) → Prop) (E : XD → Prop), Q kvs → g ρ Q E
theorem kv0 : EvKV dPn ρ [] := fun Q E q => q
end
end FP
/-! FP66: methods with a star parameter behind the first one. -/
namespace FP
open PySem L2
end FP
/-! FP67: list(d.values()). -/
namespace FP
open PySem PySem.Spec PyProof.Rows L2
end FP
/-! FP68: for i, x in enumerate(list or tuple). -/
namespace FP
open PySem PySem.Spec PyProof.Rows L2
theorem enum_new1 {v : Value} {o : Obj} {G : Heap → Prop} (B : Begins v o G) :
    Meets (Builtin.«enumerate.__new__» ⟨[.type "enumerate", v], []⟩) (fun _ R s => G s.heap ∧
      R (.ok (.ret (.ref (s.heap.push o).objs.size))) { s with heap := (s.heap.push o).push { cls := .type "enumerate", data := .fields #[.none, .bool false, .ref s.heap.objs.size, rawInt 0, .none, .none] } }) :=
  .of_wp fun prog w A R s h => by
    obtain ⟨hp, g, d, tk, os⟩ := s
    obtain ⟨h1, h⟩ := h
    have hsub := sub_enumerate
    have q1 : ∀ {A' : Around} {E : Value → Shared → Prop} {Q : Value → Shared → Prop}, Q (.ref hp.objs.size) ⟨hp.push o, g, d, tk, os⟩ → wpAny (model prog w) A' (pyIter v) Q E ⟨hp, g, d, tk, os⟩ :=
      fun q => B.iter prog w _ _ ⟨hp, g, d, tk, os⟩ _ h1 q
    wp_walk using q1
    refine wpAny_stack_any fun st => wpAny_pure ?_
    split
    · rename_i c _ _ _ _ _
      cases (c == Value.type "enumerate")
      · wp_walk using q1
        exact ⟨_, rfl, h⟩
      · wp_walk using q1
        exact ⟨_, rfl, h⟩
    · wp_walk using q1
      exact ⟨_, rfl, h⟩
theorem enum_made {prog : Program} {w : World} {A : Around} {E : Value → Shared → Prop} {s : Shared} {v : Value} {o : Obj} {G : Heap → Prop} {Q : Value → Shared → Prop} (B : Begins v o G) (h1 : G s.heap)
    (h : ∀ h', IsEnum h' (s.heap.objs.size + 1) s.heap.objs.size 0 .none → h'.get? s.heap.objs.size = some o → (∀ b o, s.heap.get? b = some o → h'.get? b = some o) → Q (.ref (s.heap.objs.size + 1)) { s with heap := h' }) :
    wpAny (model prog w) A (call (.type "enumerate") [v]) Q E s := by
  refine callType_new F.called_enumerate (by decide) (F.typeCall_enumerate_1 _) (F.newCall_enumerate_1 _) (fun obj => F.args_object_init_2 obj _) F.entry_enumerate_new (enum_new1 B) ⟨h1, ?_⟩
  have hz : (s.heap.push o).objs.size = s.heap.objs.size + 1 := Heap.size_push ..
  show _ ∧ _
  rw [hz]
  have he : IsEnum ((s.heap.push o).push { cls := .type "enumerate", data := .fields #[.none, .bool false, .ref s.heap.objs.size, rawInt 0, .none, .none] }) (s.heap.objs.size + 1) s.heap.objs.size 0 .none := by
    have e := Heap.get?_push_size (s.heap.push o) (o := { cls := .type "enumerate", data := .fields #[.none, .bool false, .ref s.heap.objs.size, rawInt 0, .none, .none] }) rfl
    rw [hz] at e
    exact e
  exact ⟨⟨_, he, rfl⟩, h _ he (Heap.get?_push_of_some _ (Heap.get?_push_size _ B.free)) fun b u x => Heap.get?_push_of_some _ (Heap.get?_push_of_some _ x)⟩
/-- what stands at a at each turn, with its number, in a new pair -/
def IteS (K : PySem.W.Frag) (s : Sd) (a : Addr) : It :=
  ⟨fun i H => ∃ (xs : List V) (x : V), s.sq K H a xs ∧ xs[i]? = some x,
    fun i H v H' => ∃ T x, v = .ref T ∧ H T = none ∧ H' = upd H T (.tup [.int (i : Nat), x]) ∧ ∀ xs, s.sq K H a xs → xs[i]? = some x,
    fun i H => ∃ xs : List V, s.sq K H a xs ∧ i = xs.length⟩
theorem turn_enumS {P : Program} {w : World} {K : PySem.W.Frag} {elts : List Expr} {kk : Nat} {tpos : Pos} {s1 : Sd} {a e it : Addr} (hai : a ≠ it) (hae : a ≠ e) (hne : e ≠ it) :
    Turn P w K (.Tuple elts kk tpos) (IteS K s1 a) [e, it] e (fun i h => (∃ old, IsEnum h e it ((i : Nat) : Int) old) ∧ s1.it h it a i) where
  mem := List.mem_cons_self
  obj := fun i h ⟨⟨old, he⟩, hi⟩ b hb => by
    rcases List.mem_cons.mp hb with q | q
    · rw [q]; exact ⟨_, he, fun v q => nomatch q⟩
    · rw [List.mem_singleton.mp q]; exact Sd.it_ob hi
  keep := fun i h h' ⟨⟨old, he⟩, hi⟩ k => ⟨⟨old, k e (by simp) _ he⟩, Sd.it_at hi fun o q => k it (by simp) o q⟩
  item := by
    intro X hP hw hK hc i pins s σ H E I hf st hg
    subst hP hw hK
    obtain ⟨⟨old, he⟩, hi⟩ := st
    obtain ⟨xs, x, hq, hx⟩ := hg
    obtain ⟨its, rv, p⟩ := Sd.look I hq
    obtain ⟨u, hu, ru⟩ := rv.get hx
    have hh : X.A.in1.handled = none := I.ok.hd hc
    have hel : e < s.heap.objs.size := Heap.lt_size he
    have hil : it < s.heap.objs.size := by
      obtain ⟨o, q, _⟩ := Sd.it_ob hi
      exact Heap.lt_size q
    have lt1 : i < its.toArray.size := by simpa using (List.getElem?_eq_some_iff.mp hu).1
    refine wpAny_pyNext_enum_itemC (s1.draws hh it a hai its.toArray) he ⟨hi, p⟩ lt1 hne (by simp [hne, Ne.symm hae]) fun y h' tk ey ho st' hT hsz hk => ?_
    obtain rfl : u = y := by simpa [hu] using ey
    refine ⟨_, rfl, wpAny_letOwnedTupleGo_enum (s := { s with heap := h', toks := tk + 1 }) ho fun h'' he' sb => ?_⟩
    have hT2 : h''.get? s.heap.objs.size = some { cls := .type "tuple", data := .seq #[.int i tk, u] } := (sb.2 _ (Nat.ne_of_gt hel)).trans hT
    have new : ObjOk X.prog X.w (upd H s.heap.objs.size (.tup [.int (i : Nat), x])) h'' s.heap.objs.size (.tup [.int (i : Nat), x]) :=
      ⟨by show 2 ≤ sizeLine; decide, [.int i tk, u], .cons ⟨_, rfl⟩ (.cons ru .nil), ⟨_, hT2, rfl, _, rfl⟩⟩
    have I1 : Inv X pins σ (upd H s.heap.objs.size (.tup [.int (i : Nat), x])) { s with heap := h'', toks := tk + 1 } :=
      I.turnedNew (ch := [e, it]) (fun b ob hb q => (sb.2 b (fun z => hb (by simp [z]))).trans (hk b ob (fun z => hb (by simp [z])) (fun z => hb (by simp [z])) q)) hf (Nat.le_refl _) new
    refine ⟨.ref s.heap.objs.size, _, I1, rfl, ⟨_, x, rfl, I.hok.fresh (Nat.le_refl _), rfl, fun ys hy => by rw [Sd.inj I hy hq]; exact hx⟩, ⟨⟨u, ?_⟩, Sd.it_at st'.1 fun o q => (sb.2 it (Ne.symm hne)).trans q⟩, fun b hb => ?_⟩
    · have e1 : ((i + 1 : Nat) : Int) = (i : Int) + 1 := by omega
      rw [e1]; exact he'
    · have hb' : b < s.heap.objs.size := by
        rcases List.mem_cons.mp hb with z | z
        · rw [z]; exact hel
        · rw [List.mem_singleton.mp z]; exact hil
      rw [upd_ne (Nat.ne_of_lt hb')]
      exact (hf b hb).1
  done := by
    intro X hP hw hK hc i pins s σ H E I hf st hg
    subst hP hw hK
    obtain ⟨⟨old, he⟩, hi⟩ := st
    obtain ⟨xs, hq, hx⟩ := hg
    obtain ⟨its, rv, p⟩ := Sd.look I hq
    have hh : X.A.in1.handled = none := I.ok.hd hc
    have hl := rv.length
    have n1 : its.toArray.size = xs.length := by simpa using hl.symm
    obtain ⟨f0, f1, f2, f3, f4, f5⟩ := hf it (by simp)
    refine wpAny_pyNext_enum_endD (s1.draws hh it a hai its.toArray) he ⟨by rw [n1, ← hx]; exact hi, p⟩ fun h' eb => ⟨rfl, I.turned (t' := s.toks) (fun b o hb q => eb b o hb q) f0 f1 f3 f4 f5⟩
  self := fun A i s Q E ⟨⟨_, he⟩, _⟩ h => wpAny_pyIter_enum he h
def iEnumS (K : PySem.W.Frag) (ta : TA) : TI := fun σ H R => ta σ H fun vs H1 => ∃ s1 a xs, vs = [.ref a] ∧ Sd.sq K H1 a xs s1 ∧ R (IteS K s1 a) H1
theorem pi_enumS {X : Cx} {e : Expr} {ta : TA} {p pos tpos : Pos} {elts : List Expr} {kk : Nat} (hg : Gl X "enumerate") (hm : X.mg "enumerate" = none) (ha : PA X [e] ta) (hs : starEach [e] X.env = [(false, eval e X.env)]) :
    PI X (.Tuple elts kk tpos) (.Call (.Name "enumerate" p) [e] [] pos) (iEnumS X.K ta) := by
  refine ⟨fun pins s σ H R I h => ?_⟩
  refine Call_ (ld_blt I hg hm boot_enumerate (PyProof.Rows.callWith_type1 (thn (ha.run pos pins s σ H _ I h) fun us s1 ⟨vs, H1, I1, r1, q1⟩ => ?_) hs rfl))
  obtain ⟨k1, a, xs, rfl, hq, q⟩ := q1
  cases r1 with
  | cons r rr =>
    cases rr
    cases r
    obtain ⟨its, rv, p'⟩ := Sd.look I1 hq
    have hal := Sd.is_lt p'
    refine enum_made (k1.begins a its.toArray) p' fun h' he hit hk => wpAny_pyIter_enum he ?_
    have I2 : Inv X pins σ H1 { s1 with heap := h' } := I1.kept (t' := s1.toks) hk
    refine ⟨s1.heap.objs.size + 1, [s1.heap.objs.size + 1, s1.heap.objs.size], _, _, H1, rfl, I2, turn_enumS (it := s1.heap.objs.size) (Nat.ne_of_lt hal) (Nat.ne_of_lt (Nat.lt_succ_of_lt hal)) (Nat.succ_ne_self _), ⟨⟨.none, he⟩, Sd.first hit⟩, fun b hb => ?_, q⟩
    have hle : s1.heap.objs.size ≤ b := by
      rcases List.mem_cons.mp hb with z | z
      · rw [z]; exact Nat.le_succ _
      · rw [List.mem_singleton.mp z]; exact Nat.le_refl _
    exact I1.fpOk hle (I1.hok.fresh hle)
variable [Tabl]
section
variable {ι : Type} {Xs : ι → Cx} {mg : Gm} {Wx : WX} {pos : Pos}
/-- the data with their numbers -/
def enumD (n : Nat) : List D → List D
  | [] => []
  | d :: r => .tup [.int n, d] :: enumD (n + 1) r
theorem enumD_get : ∀ (xs : List D) (n i : Nat), (enumD n xs)[i]? = (xs[i]?).map fun d => .tup [.int ((n + i : Nat) : Int), d]
  | [], n, i => by simp [enumD]
  | d :: r, n, 0 => by simp [enumD]
  | d :: r, n, i + 1 => by
    show (enumD (n + 1) r)[i]? = _
    rw [enumD_get r (n + 1) i]
    have e : n + 1 + i = n + (i + 1) := by omega
    rw [e]
    rfl
theorem enumD_len : ∀ (xs : List D) (n : Nat), (enumD n xs).length = xs.length
  | [], _ => rfl
  | _ :: r, n => by
    show (enumD (n + 1) r).length + 1 = r.length + 1
    rw [enumD_len r]
abbrev dIEnum (g : DTA) : DTI := fun ρ Q E => g ρ (fun ds => match ds with
  | [x] => ∃ xs, seqD x = some xs ∧ Q (enumD 0 xs)
  | _ => False) E
theorem di_enum {elts : List Expr} {kk : Nat} {tpos : Pos} {a : Expr} {p : Pos} {g : DTA} (hm : mg.mg "enumerate" = none) (h : DA Xs mg Wx [a] g) (hM : ∀ j, (Xs j).mg = mg.mg := by intro _; rfl) (hK : ∀ j, (Xs j).K = mg.K := by intro _; rfl) (hg : ∀ j, Gl (Xs j) "enumerate" := by intro _; rfl)
    (hs : ∀ j, starEach [a] (Xs j).env = [(false, eval a (Xs j).env)] := by intro _; rfl) :
    DI Xs mg Wx (.Tuple elts kk tpos) (.Call (.Name "enumerate" p) [a] [] pos) (dIEnum g) := by
  obtain ⟨t, h1, h2⟩ := h
  refine ⟨iEnumS mg.K t, fun j => by
    have z := pi_enumS (elts := elts) (kk := kk) (tpos := tpos) (p := p) (pos := pos) (hg j) (by rw [hM j]; exact hm) (h1 j) (hs j)
    rw [hK j] at z
    exact z, fun B ρ Q E hf W σ H Q' hh e x q => ?_⟩
  refine h2 B ρ _ E hf W σ H _ hh e x fun W1 H1 vs ds s1 r1 k1 => ?_
  split at k1
  · rename_i dx
    obtain ⟨xs, ex, k1⟩ := k1
    cases r1 with
    | cons rx r1 =>
      cases r1
      obtain ⟨a, us, sa, rfl, ra, qa⟩ := seq_side rx ex
      refine ⟨sa, a, us, rfl, qa _ _ (Le.refl _) s1.holds, q W1 H1 _ _ s1 (fun W2 H2 l hh2 => ?_) k1⟩
      have g1 := qa _ _ l hh2
      refine ⟨fun i hi => ?_, ⟨us, g1, by rw [enumD_len, ra.length]⟩, fun i x H3 hi y => ?_⟩
      · rw [enumD_len, ← ra.length] at hi
        exact ⟨us, _, g1, List.getElem?_eq_getElem hi⟩
      · obtain ⟨T, v1, rfl, hT, rfl, f1⟩ := y
        obtain ⟨d1, e1, r1⟩ := ra.getV (f1 us g1)
        exact ⟨_, .tup [.int i, d1], Step.alloc hh2 hT, by rw [enumD_get, e1, Nat.zero_add] <;> rfl, Rep.newTup (.cons (.int _) (.cons (r1.mono l) .nil)) (hh2.same.free hT)⟩
  · exact k1.elim
end
end FP
/-! FP69: text.split(text). -/
namespace FP
open PySem PySem.Spec PyProof.Rows L2
end FP
/-! FP70: C.m(..) of a classmethod (cls, *lines). -/
namespace FP
open PySem L2
end FP
/-! FP71: C.m() of a classmethod (cls, *lines). -/
namespace FP
open PySem L2
end FP
/-! FP72: text.replace(written text, written text), behind a written text of the same display. -/
namespace FP
open PySem PySem.Spec PyProof.Rows L2
end FP
/-! FP73: a list times an integer. -/
namespace FP
open PySem L2
variable [Tabl]
section
variable {ι : Type} {Xs : ι → Cx} {mg : Gm} {Wx : WX} {pos : Pos}
theorem Reps.rep {W : Wd} {vs : List V} {ds : List D} (r : Reps mg W vs ds) : ∀ n : Nat, Reps mg W (List.replicate n vs).flatten (List.replicate n ds).flatten
  | 0 => .nil
  | n + 1 => by
    rw [List.replicate_succ, List.replicate_succ, List.flatten_cons, List.flatten_cons]
    exact r.append (Reps.rep r n)
end
end FP
/-! FP74: lists of one's own: seen, read, written at an index, insert, pop; range with a step. -/
namespace FP
open PySem L2
variable [Tabl]
section
variable {mg : Gm} {B : Hp} {W W' : Wd} {H H' : Hp} {σ : St} {ρ : Env}
/-- the environment where one's own list is seen -/
theorem EnvR.seenL (e : EnvR mg B W H σ ρ) {i : Nat} {xs : List D} (hi : ρ[i]? = some (.own xs)) :
    ∃ a, (W.H a = none ∧ ¬ W.T a) ∧ EnvR mg B (W.seen H [a]) H σ (ρ.set i (.d (.lst xs))) := by
  obtain ⟨o, h1, a, vs, ho, h2, h3, h4, h5, r⟩ := e.sl i _ hi
  subst ho
  have l := seen_le (W := W) (H := H) (as := [a]) fun b hb => by rw [List.mem_singleton.mp hb]; exact h3
  refine ⟨a, ⟨h3, h4⟩, by simpa using e.len, fun j sl hj => ?_, fun j m s1 s2 o1 o2 b hjk q1 q2 q3 q4 m1 m2 => ?_⟩
  · rcases get_set hj with ⟨rfl, rfl⟩ | ⟨nj, hj⟩
    · exact ⟨_, h1, _, rfl, .lst (by rw [seen_in (List.mem_singleton.mpr rfl)]; exact h2) (r.mono l)⟩
    · obtain ⟨o', g1, g2⟩ := e.sl j sl hj
      refine ⟨o', g1, g2.keep l fun b hb u h5 h6 h7 => ⟨h5, ?_, h7⟩⟩
      show (if b ∈ [a] then H b else W.H b) = none
      have nb : b ∉ [a] := fun q => e.dis i j _ sl _ o' b nj hi hj h1 g1 (by rw [List.mem_singleton.mp q]; exact List.mem_singleton.mpr rfl) hb
      rw [if_neg nb]
      exact h6
  · rcases get_set q1 with ⟨_, z⟩ | ⟨n1, q1⟩
    · rw [← z] at m1
      cases m1
    · rcases get_set q2 with ⟨_, z⟩ | ⟨n2, q2⟩
      · rw [← z] at m2
        cases m2
      · exact e.dis j m s1 s2 o1 o2 b hjk q1 q2 q3 q4 m1 m2
end
section
variable {ι : Type} {Xs : ι → Cx} {mg : Gm} {Wx : WX} {pos : Pos}
/-! ### seen by an expression that comes to a plain datum -/
/-! ### an item, a slice of it -/
abbrev dOwnIx (i : Nat) (f : DTE) : DTE := fun ρ Q E => match ρ[i]? with
  | some (.own xs) => f ρ (fun y => match y with
    | .int k => ∃ d, atI xs k = some d ∧ Q d
    | _ => False) E
  | _ => False
theorem de_ownIx (i : Nat) {x : Str} {b : Expr} {f : DTE} {p : Pos} (h : DE Xs mg Wx b f) (hN : ∀ j, (Xs j).N[i]? = some x := by intro _; rfl) (hv : ∀ j, Vis (Xs j).env.scope x := by intro _; first | exact Or.inl rfl | exact Or.inr (Or.inl rfl) | exact Or.inr (Or.inr rfl))
    (hd : (x == ("__debug__" : Str)) = false := by decide) (hcd : (x == ("__classdict__" : Str)) = false := by decide) (hs : PlainIx b := by exact fun _ _ => rfl) (hK : ∀ j, (Xs j).K = mg.K := by intro _; rfl) : DE Xs mg Wx (.Subscript (.Name x p) b pos) (dOwnIx i f) := by
  obtain ⟨tb, b1, b2⟩ := h
  refine ⟨_, fun j => pe_ix (ix_seqK (hK j)) (pe_var (i := i) (hN j) (hv j) hd hcd) (b1 j) hs, fun B ρ Q E hf W σ H Q' hh e x q => ?_⟩
  unfold dOwnIx at hf
  split at hf
  · rename_i xs hx
    obtain ⟨o, g1, a, vs, g2, g3, g4, g5, g6, r⟩ := e.sl i _ hx
    subst g2
    refine ⟨.ref a, g1, b2 B ρ _ E hf W σ H _ hh e x fun W1 H1 v d s1 r1 k1 => ?_⟩
    cases r1 with
    | int k =>
      obtain ⟨d, h1, h2⟩ := k1
      obtain ⟨v, k1, k2⟩ := r.atI h1
      exact .inl ⟨_, _, _, v, rfl, rfl, SqL.of (s1.keep a _ g3 g5), k1, q W1 H1 _ _ s1 (k2.mono s1.le) h2⟩
    | _ => exact k1.elim
  · exact hf.elim
/-! ### written at an index -/
abbrev dOwnSet (i : Nat) (fk fe : DTE) : DTS := fun N ρ => fe ρ (fun d => match ρ[i]? with
  | some (.own xs) => fk ρ (fun y => match y with
    | .int k => ∃ j, ixN xs.length k = some j ∧ N.nx (ρ.set i (.own (xs.set j d)))
    | _ => False) (fun x => N.rs x ρ)
  | _ => False) (fun x => N.rs x ρ)
theorem ds_ownSet (i : Nat) {x : Str} {k e : Expr} {fk fe : DTE} {p spos : Pos} (hk : DE Xs mg Wx k fk) (he : DE Xs mg Wx e fe)
    (pe : ∀ j tk te, PE (Xs j) k tk → PE (Xs j) e te → PS (Xs j) (.Assign [.Subscript (.Name x p) k spos] e pos) (tAsg te (gSub (tVar i) tk L2.rSetL))) : DS Xs mg Wx (.Assign [.Subscript (.Name x p) k spos] e pos) (dOwnSet i fk fe) := by
  obtain ⟨tk, k1, k2⟩ := hk
  obtain ⟨te, e1, e2⟩ := he
  refine ⟨tAsg te (gSub (tVar i) tk L2.rSetL), fun j => pe j tk te (k1 j) (e1 j), fun W0 B N ρ hf W σ H Ds s e n => ?_⟩
  refine e2 B ρ _ _ hf W σ H _ s.holds e (n.ex s e) fun W1 H1 v d s1 r1 k1 => ?_
  have ee1 := e.step s1
  split at k1
  · rename_i xs hx
    obtain ⟨o, g1, a, vs, g2, g3, g4, g5, g6, r⟩ := ee1.sl i _ hx
    subst g2
    refine ⟨.ref a, g1, ?_⟩
    refine k2 B ρ _ _ k1 W1 σ H1 _ s1.holds ee1 (n.ex (s.trans s1) ee1) fun W2 H2 y z s2 r2 q2 => ?_
    have ee2 := ee1.step s2
    cases r2 with
    | int m =>
      obtain ⟨jj, h1, h2⟩ := q2
      obtain ⟨o', w1, a', vs', w2, w3, w4, w5, w6, r'⟩ := ee2.sl i _ hx
      rw [g1] at w1
      cases w1
      cases w2
      refine ⟨a, vs', m, jj, rfl, rfl, w3, by rw [r'.length]; exact h1, ?_⟩
      exact n.nx W2 _ σ _ (((s.trans s1).trans s2).own w6 w3 w4 w5) (ee2.own (us := vs') hx g1 (r'.set jj (r1.mono s2.le))) h2
    | _ => exact q2.elim
  · exact k1.elim
/-! ### insert, pop -/
abbrev dOwnPopAt (i : Nat) (fk : DTE) : DTS := fun N ρ => match ρ[i]? with
  | some (.own xs) => fk ρ (fun y => match y with
    | .int k => (-(2 ^ 63) ≤ k ∧ k < 2 ^ 63) ∧ ∃ j, seqIndex? k xs.length = some j ∧ (∃ d, xs[j]? = some d) ∧ N.nx (ρ.set i (.own (xs.eraseIdx j)))
    | _ => False) (fun x => N.rs x ρ)
  | _ => False
theorem ds_ownPopAt (i : Nat) {x : Str} {k : Expr} {fk : DTE} {p apos cpos : Pos} (hk : DE Xs mg Wx k fk)
    (pe : ∀ j tk, PE (Xs j) k tk → PS (Xs j) (.Expr (.Call (.Attribute (.Name x p) "pop" apos) [k] [] cpos) pos) (tDrop (tBM (Xs j).K "list" rPopAt (tVar i) (tCons tk tNil)))) (hK : ∀ j, (Xs j).K = mg.K := by intro _; rfl) :
    DS Xs mg Wx (.Expr (.Call (.Attribute (.Name x p) "pop" apos) [k] [] cpos) pos) (dOwnPopAt i fk) := by
  obtain ⟨tk, k1, k2⟩ := hk
  refine ⟨tDrop (tBM mg.K "list" rPopAt (tVar i) (tCons tk tNil)), fun j => by rw [← hK j]; exact pe j tk (k1 j), fun W0 B N ρ hf W σ H Ds s e n => ?_⟩
  unfold dOwnPopAt at hf
  split at hf
  · rename_i xs hx
    obtain ⟨o, g1, a, vs, g2, g3, g4, g5, g6, r⟩ := e.sl i _ hx
    subst g2
    refine ⟨.ref a, g1, .inl ⟨rfl, _, SqL.of g3⟩, ?_⟩
    refine k2 B ρ _ _ hf W σ H _ s.holds e (n.ex s e) fun W1 H1 y z s1 r1 q1 => ?_
    have ee1 := e.step s1
    cases r1 with
    | int m =>
      obtain ⟨⟨h1, h2⟩, jj, h3, ⟨d, h4⟩, h5⟩ := q1
      obtain ⟨o', w1, a', vs', w2, w3, w4, w5, w6, r'⟩ := ee1.sl i _ hx
      rw [g1] at w1
      cases w1
      cases w2
      obtain ⟨u, u1, u2⟩ := r'.get h4
      refine ⟨a, vs', m, jj, u, rfl, rfl, w3, h1, h2, by rw [r'.length]; exact h3, u1, ?_⟩
      exact n.nx W1 _ σ _ ((s.trans s1).own w6 w3 w4 w5) (ee1.own (us := vs') hx g1 (r'.eraseIdx jj)) h5
    | _ => exact q1.elim
  · exact hf.elim
end
end FP
/-! FP75: range with a step, xs[::-1], a comprehension as one's own, three names at once with an own one. -/
namespace FP
open PySem L2
variable [Tabl]
section
variable {ι : Type} {Xs : ι → Cx} {mg : Gm} {Wx : WX} {pos : Pos}
/-! ### range(a, b, c) -/
def rangeC (lo c : Int) (n : Nat) : List D := (List.range n).map fun (i : Nat) => D.int (lo + i * c)
theorem rangeC_len (lo c : Int) (n : Nat) : (rangeC lo c n).length = n := by simp [rangeC]
theorem WalkD.rangeC {W : Wd} {lo c : Int} {n : Nat} : WalkD mg W (Itc lo c n) (FP.rangeC lo c n) := by
  intro W1 H1 l hh
  refine ⟨fun i hi => by rw [rangeC_len] at hi; exact hi, by rw [rangeC_len]; exact Nat.le_refl n, fun i x H3 hi y => ?_⟩
  rw [rangeC_len] at hi
  obtain ⟨e, hx⟩ := (show H3 = H1 ∧ x = V.int (lo + (i : Nat) * c) from y)
  subst e hx
  refine ⟨W1, _, Step.refl hh, ?_, .int _⟩
  unfold FP.rangeC
  rw [List.getElem?_map, List.getElem?_range hi]
  rfl
/-- downwards by one -/
abbrev dIRngB (g : DTA) : DTI := fun ρ Q E => g ρ (fun ds => match ds with
  | [.int i, .int j, .int c] => c = -1 ∧ (-(2 ^ 62) ≤ i ∧ i < 2 ^ 62 ∧ -(2 ^ 62) ≤ j ∧ j < 2 ^ 62) ∧ Q (rangeC i (-1) (i - j).toNat)
  | _ => False) E
theorem di_range3 {tg a b c : Expr} {p : Pos} {g : DTA} (hm : mg.mg "range" = none) (h : DA Xs mg Wx [a, b, c] g) (hM : ∀ j, (Xs j).mg = mg.mg := by intro _; rfl) (hg : ∀ j, Gl (Xs j) "range" := by intro _; rfl)
    (hs : ∀ j, starEach [a, b, c] (Xs j).env = (false, eval a (Xs j).env) :: starEach [b, c] (Xs j).env := by intro _; rfl) (hpl : ∀ j, (backTo pos (starEach [b, c] (Xs j).env)).any (·.1) = false := by intro _; rfl) : DI Xs mg Wx tg (.Call (.Name "range" p) [a, b, c] [] pos) (dIRngB g) := by
  obtain ⟨t, h1, h2⟩ := h
  refine ⟨iRng3 t, fun j => pi_range3 (hg j) (by rw [hM j]; exact hm) (h1 j) (hs j) (hpl j), fun B ρ Q E hf W σ H Q' hh e x q => ?_⟩
  refine h2 B ρ _ E hf W σ H _ hh e x fun W1 H1 vs ds s1 r1 k1 => ?_
  split at k1
  · rename_i i j c
    cases r1 with
    | cons r rs =>
      cases r
      cases rs with
      | cons r rs =>
        cases r
        cases rs with
        | cons r rs =>
          cases r
          cases rs
          obtain ⟨rfl, ⟨b1, b2, b3, b4⟩, k2⟩ := k1
          exact ⟨i, j, -1, _, rfl, RgC.neg b1 b2 b3 b4, q W1 H1 _ _ s1 WalkD.rangeC k2⟩
  · exact k1.elim
/-! ### xs[::-1] -/
abbrev dRevL (f : DTE) : DTE := fun ρ Q E => f ρ (fun x => match x with
  | .lst xs => Q (.lst xs.reverse)
  | _ => False) E
theorem tRevL_K {X : Cx} {K : PySem.W.Frag} (h : X.K = K) {e : Expr} {te : TE} {k : Nat} {p1 p2 p3 : Pos} (he : PE X e te) : PE X (.Subscript e (.Slice none none (some (.UnaryOp .USub (.Constant (.int 1) k p1) p2)) p3) pos) (tRevL K te) := by
  subst h
  exact pe_revL he
theorem de_revL {e : Expr} {f : DTE} {k : Nat} {p1 p2 p3 : Pos} (h : DE Xs mg Wx e f) (hK : ∀ j, (Xs j).K = mg.K := by intro _; rfl) : DE Xs mg Wx (.Subscript e (.Slice none none (some (.UnaryOp .USub (.Constant (.int 1) k p1) p2)) p3) pos) (dRevL f) := by
  obtain ⟨t, h1, h2⟩ := h
  refine ⟨_, fun j => tRevL_K (hK j) (h1 j), fun B ρ Q E hf W σ H Q' hh e x q => ?_⟩
  refine h2 B ρ _ E hf W σ H _ hh e x fun W1 H1 v d s1 r1 k1 => ?_
  cases r1 with
  | lst ha ra => exact ⟨_, _, rfl, SqL.of (s1.holds.same _ _ ha), fun p hp => to_lst (ToV.step q s1) s1.holds ra.reverse k1 p hp⟩
  | _ => exact k1.elim
/-! ### a comprehension as one's own list -/
/-! ### x, y, z = .., .., .. with an own list among them -/
end
end FP
/-! FP76: a slice of one's own list; small steps for own lists. -/
namespace FP
open PySem L2
variable [Tabl]
section
variable {ι : Type} {Xs : ι → Cx} {mg : Gm} {Wx : WX} {pos : Pos}
/-! ### list(range(e)) -/
abbrev dListRg (f : DTE) : DTE := fun ρ Q E => f ρ (fun x => match x with
  | .int n => (0 ≤ n ∧ n ≤ 16777216) ∧ Q (.lst (rangeD 0 n.toNat))
  | _ => False) E
theorem Reps.rg {W : Wd} (n : Int) : Reps mg W (rgV 0 n) (rangeD 0 n.toNat) := by
  unfold rgV rangeD
  have e : (n - 0).toNat = n.toNat := by rw [Int.sub_zero]
  rw [e]
  induction List.range n.toNat with
  | nil => exact .nil
  | cons a r ih => exact .cons (.int _) ih
theorem de_listRg {a : Expr} {f : DTE} {p p2 pos2 : Pos} (h : DE Xs mg Wx a f) (hml : mg.mg "list" = none) (hmr : mg.mg "range" = none) (hM : ∀ j, (Xs j).mg = mg.mg := by intro _; rfl) (hc : ∀ j, (Xs j).calm = true := by intro _; rfl) (hgl : ∀ j, Gl (Xs j) "list" := by intro _; rfl) (hgr : ∀ j, Gl (Xs j) "range" := by intro _; rfl)
    (na : ∀ j, starEach [a] (Xs j).env = (false, eval a (Xs j).env) :: starEach [] (Xs j).env := by intro _; rfl) (nb : ∀ j, starEach [.Call (.Name "range" p2) [a] [] pos2] (Xs j).env = (false, eval (.Call (.Name "range" p2) [a] [] pos2) (Xs j).env) :: starEach [] (Xs j).env := by intro _; rfl) : DE Xs mg Wx (.Call (.Name "list" p) [.Call (.Name "range" p2) [a] [] pos2] [] pos) (dListRg f) := by
  obtain ⟨t, h1, h2⟩ := h
  refine ⟨tLstRg (tRg1 t), fun j => pe_listRg (hc j) (hgl j) (by rw [hM j]; exact hml) (prg_1 (hgr j) (by rw [hM j]; exact hmr) (h1 j) (na j)) (nb j), fun B ρ Q E hf W σ H Q' hh e x q => ?_⟩
  refine h2 B ρ _ E hf W σ H _ hh e x fun W1 H1 v d s1 r1 k1 => ?_
  cases r1 with
  | int n => exact ⟨n, rfl, RgOk.of_le (by decide) k1.1.2 (by decide) k1.1.1, fun l hl => to_lst (ToV.step q s1) s1.holds (Reps.rg n) k1.2 l hl⟩
  | _ => exact k1.elim
end
section
variable {ρ : Env} {f fk fe : DTE} {g : DTS} {N : Nd} {i j k : Nat} {xs : List D} {d : D}
theorem ev_ownIx {m : Int} (h : ρ[i]? = some (.own xs)) (hf : Ev f ρ (.int m)) (hd : atI xs m = some d) : Ev (dOwnIx i f) ρ d := fun Q E q => by
  unfold dOwnIx
  rw [h]
  exact hf _ _ ⟨d, hd, q⟩
theorem ownSet {m : Int} {n : Nat} (h : ρ[i]? = some (.own xs)) (he : Ev fe ρ d) (hk : Ev fk ρ (.int m)) (hm : ixN xs.length m = some n) (hn : N.nx (ρ.set i (.own (xs.set n d)))) : dOwnSet i fk fe N ρ := he _ _ (by
  rw [h]
  exact hk _ _ ⟨n, hm, hn⟩)
theorem seq_ownSet {m : Int} {n : Nat} (h : ρ[i]? = some (.own xs)) (he : Ev fe ρ d) (hk : Ev fk ρ (.int m)) (hm : ixN xs.length m = some n) (hn : g N (ρ.set i (.own (xs.set n d)))) : dSeq (dOwnSet i fk fe) g N ρ := ownSet h he hk hm hn
theorem ixN_nat {n m : Nat} (h : m < n) : ixN n (m : Int) = some m := by
  unfold ixN
  rw [if_pos (show (0 : Int) ≤ (m : Int) by omega)]
  rw [if_pos (by omega)]
  simp
end
end FP
/-! FP77: a tuple times an integer. -/
namespace FP
open PySem L2
end FP
/-! FP78: xs.count(text), xs a list of texts. -/
namespace FP
open PySem L2
variable [Tabl]
section
variable {ι : Type} {Xs : ι → Cx} {mg : Gm} {Wx : WX} {pos : Pos}
theorem strsD_back : ∀ {ds : List D} {ys : List Str}, strsD ds = some ys → ds = ys.map D.str
  | [], ys, h => by
    cases h
    rfl
  | d :: r, ys, h => by
    cases d with
    | str a =>
      rw [strsD] at h
      cases q : strsD r with
      | none =>
        rw [q] at h
        cases h
      | some zs =>
        rw [q] at h
        cases h
        rw [List.map_cons, ← strsD_back q]
    | _ => cases h
end
end FP
/-! FP79: a < b of rows of data, sum of a list of integers, x is not False. -/
namespace FP
open PySem PySem.Spec PyProof.Rows L2
end FP
/-! FP80: repr of data with dicts in them. -/
namespace FP
open PySem PySem.Spec PyProof.Rows L2
variable [Tabl]
def kP : Key → PyData
  | .inl i => .int i
  | .inr x => .str x
mutual
/-- a value that reads as data without lists, with dicts -/
inductive Dq (H : Hp) : V → PyData → Prop
  | non : Dq H .non .none
  | bl (b : Bool) : Dq H (.bl b) (.bool b)
  | int (i : Int) : Dq H (.int i) (.int i)
  | str (x : Str) : Dq H (.str x) (.str x)
  | tup {a : Addr} {xs : List V} {ds : List PyData} : H a = some (.tup xs) → DqAll H xs ds → Dq H (.ref a) (.tuple ds)
  | dct {a : Addr} {o : Obj} {kvs : List (Key × V)} {ps : List (PyData × PyData)} : H a = some (.frz o (.dK kvs)) → ps.map (·.1) = kvs.map (fun p => kP p.1) → DqAll H (kvs.map (·.2)) (ps.map (·.2)) → Dq H (.ref a) (.dict ps)
inductive DqAll (H : Hp) : List V → List PyData → Prop
  | nil : DqAll H [] []
  | cons {v : V} {vs : List V} {d : PyData} {ds : List PyData} : Dq H v d → DqAll H vs ds → DqAll H (v :: vs) (d :: ds)
end
section
variable {X : Cx} {pins : List (Addr × Obj)} {σ : L2.St} {H : Hp} {s : Shared}
/-- an element of a list that is shown: without dicts, or without lists -/
def Elem (K : PySem.W.Frag) (H : Hp) (v : V) (d : PyData) : Prop := (Dp K H v d ∧ d.hasDict = false) ∨ Dq H v d
inductive Elems (K : PySem.W.Frag) (H : Hp) : List V → List PyData → Prop
  | nil : Elems K H [] []
  | cons {v : V} {vs : List V} {d : PyData} {ds : List PyData} : Elem K H v d → Elems K H vs ds → Elems K H (v :: vs) (d :: ds)
end
section
variable {ι : Type} {Xs : ι → Cx} {mg : Gm} {Wx : WX} {pos : Pos}
mutual
def toPq : D → Option PyData
  | .non => some .none
  | .bl b => some (.bool b)
  | .int i => some (.int i)
  | .str x => some (.str x)
  | .tup xs => match toPqs xs with
    | some ps => some (.tuple ps)
    | none => none
  | .lst _ => none
  | .dct kvs => match toPqKV kvs with
    | some ps => some (.dict ps)
    | none => none
  | .fz _ => none
  | .ins _ _ => none
  | .tok => none
  | .cl _ => none
  | .fn _ _ => none
def toPqs : List D → Option (List PyData)
  | [] => some []
  | x :: xs => match toPq x, toPqs xs with
    | some p, some ps => some (p :: ps)
    | _, _ => none
def toPqKV : List (Key × D) → Option (List (PyData × PyData))
  | [] => some []
  | (k, x) :: xs => match toPq x, toPqKV xs with
    | some p, some ps => some ((kP k, p) :: ps)
    | _, _ => none
end
theorem toPqKV_split : ∀ {kvs : List (Key × D)} {ps : List (PyData × PyData)}, toPqKV kvs = some ps → ps.map (·.1) = kvs.map (fun p => kP p.1) ∧ toPqs (kvs.map (·.2)) = some (ps.map (·.2))
  | [], ps, h => by
    rw [toPqKV] at h
    cases h
    exact ⟨rfl, by rw [List.map_nil, toPqs]; rfl⟩
  | (k, x) :: kvs, ps, h => by
    rw [toPqKV] at h
    cases q1 : toPq x with
    | none => rw [q1] at h; cases h
    | some p =>
      cases q2 : toPqKV kvs with
      | none => rw [q1, q2] at h; cases h
      | some qs =>
        rw [q1, q2] at h
        cases h
        obtain ⟨i1, i2⟩ := toPqKV_split q2
        refine ⟨by rw [List.map_cons, List.map_cons, i1], ?_⟩
        rw [List.map_cons, toPqs, q1, i2]
        rfl
theorem toPqs_cons {d : D} {ds : List D} {ps : List PyData} (e : toPqs (d :: ds) = some ps) : ∃ p qs, toPq d = some p ∧ toPqs ds = some qs ∧ ps = p :: qs := by
  rw [toPqs] at e
  cases q1 : toPq d with
  | none => rw [q1] at e; cases e
  | some p =>
    cases q2 : toPqs ds with
    | none => rw [q1, q2] at e; cases e
    | some qs =>
      rw [q1, q2] at e
      exact ⟨p, qs, rfl, rfl, (Option.some.inj e).symm⟩
theorem Rep.dq {W : Wd} {H : Hp} (hh : Holds W H) {v : V} {d : D} {p : PyData} (r : Rep mg W v d) (e : toPq d = some p) : Dq H v p := by
  revert p
  refine Rep.rec (motive_1 := fun v d _ => ∀ {p}, toPq d = some p → Dq H v p) (motive_2 := fun vs ds _ => ∀ {ps}, toPqs ds = some ps → DqAll H vs ps) ?_ ?_ ?_ ?_ ?_ ?_ ?_ ?_ ?_ ?_ ?_ ?_ ?_ ?_ r
  · intro p e
    cases e
    exact .non
  · intro b p e
    cases e
    exact .bl b
  · intro b p e
    cases e
    exact .int b
  · intro b p e
    cases e
    exact .str b
  · intro a vs ds ha r ih p e
    rw [toPq] at e
    cases hp : toPqs ds with
    | none => rw [hp] at e; cases e
    | some ps =>
      rw [hp] at e
      cases e
      exact .tup (hh.same _ _ ha) (ih hp)
  · intro a vs ds ha r ih p e
    cases e
  · intro a vs ds ha r ih p e
    cases e
  · intro a o kvs ds ha hk r ih p e
    rw [toPq] at e
    cases hp : toPqKV ds with
    | none => rw [hp] at e; cases e
    | some ps =>
      rw [hp] at e
      cases e
      obtain ⟨h1, h2⟩ := toPqKV_split hp
      refine .dct (hh.same _ _ ha) ?_ (ih h2)
      rw [h1]
      have e2 := congrArg (List.map kP) hk
      rw [List.map_map, List.map_map] at e2
      exact e2.symm
  · intro a C dx fs c ds hc ha hk r ih p e
    cases e
  · intro a t p e
    cases e
  · intro C c hc p e
    cases e
  · intro f W0 l p e
    cases e
  · intro ps e
    cases e
    exact .nil
  · intro v vs d ds r rs ih ihs ps e
    obtain ⟨p, qs, h1, h2, rfl⟩ := toPqs_cons e
    exact .cons (ih h1) (ihs h2)
theorem Reps.dq {W : Wd} {H : Hp} (hh : Holds W H) : ∀ {ds : List D} {vs : List V} {ps : List PyData}, Reps mg W vs ds → toPqs ds = some ps → DqAll H vs ps := by
  intro ds
  induction ds with
  | nil =>
    intro vs ps r e
    cases e
    cases r
    exact .nil
  | cons d ds ih =>
    intro vs ps r e
    obtain ⟨p, qs, h1, h2, rfl⟩ := toPqs_cons e
    cases r with
    | cons r rs => exact .cons (r.dq hh h1) (ih rs h2)
def elP (d : D) : Option PyData := match toPy d with
  | some p => if p.hasDict = true then none else some p
  | none => toPq d
def elPs : List D → Option (List PyData)
  | [] => some []
  | x :: xs => match elP x, elPs xs with
    | some p, some ps => some (p :: ps)
    | _, _ => none
theorem Rep.el {W : Wd} {H : Hp} (hh : Holds W H) {v : V} {d : D} {p : PyData} (r : Rep mg W v d) (h : elP d = some p) : Elem mg.K H v p := by
  unfold elP at h
  cases q : toPy d with
  | some p2 =>
    rw [q] at h
    dsimp only at h
    split at h
    · cases h
    · rename_i hd
      cases h
      refine .inl ⟨r.dp hh q, ?_⟩
      cases z : p.hasDict with
      | true => exact absurd z hd
      | false => rfl
  | none =>
    rw [q] at h
    exact .inr (r.dq hh h)
theorem Reps.el {W : Wd} {H : Hp} (hh : Holds W H) : ∀ {ds : List D} {vs : List V} {ps : List PyData}, Reps mg W vs ds → elPs ds = some ps → Elems mg.K H vs ps
  | [], _, _, .nil, e => by
    rw [elPs] at e
    cases e
    exact .nil
  | d :: ds, _, _, .cons r rs, e => by
    rw [elPs] at e
    cases q1 : elP d with
    | none => rw [q1] at e; cases e
    | some p =>
      cases q2 : elPs ds with
      | none => rw [q1, q2] at e; cases e
      | some qs =>
        rw [q1, q2] at e
        cases e
        exact .cons (r.el hh q1) (Reps.el hh rs q2)
end
end FP
/-! FP81: [*d, ..], d a dict. -/
namespace FP
open PySem PySem.Spec PyProof.Rows L2
end FP
/-! FP82: t[::-1] of a tuple, x.isdigit(), int(text), own.extend(list). -/
namespace FP
open PySem PySem.Spec PyProof.Rows L2
/-! ### a tuple turned round -/
end FP
/-! FP83: None in a list of data; isinstance of objects of other own classes. -/
namespace FP
open PySem PySem.Spec PyProof.Rows L2
end FP
/-! FP84: x, y = e, list(..), where y may change. -/
namespace FP
open PySem L2
end FP
/-! FP85: expressions that change what is mine, in assignments and comparisons; methods without arguments. -/
namespace FP
open PySem L2
end FP
/-! FP86: x.f.pop() of an owned list of data, and operators with a changing left side. -/
namespace FP
open PySem L2
end FP
/-! FP87: s.partition(t). -/
namespace FP
open PySem L2
end FP
/-! FP88: x.f[k], an item of an owned list of data in a field. -/
namespace FP
open PySem L2
end FP
/-! FP95: own lists in an own list: made by a comprehension, seen, turned into a list of data, popped within; two items exchanged. -/
namespace FP
open PySem L2
variable [Tabl]
/-- addresses of one's own -/
def Mine (W : Wd) (H : Hp) (as : List Addr) : Prop := ∀ b ∈ as, (∃ u, H b = some u) ∧ W.H b = none ∧ ¬ W.T b
section
variable {mg : Gm} {B : Hp} {W W' : Wd} {H H' : Hp} {σ : St} {ρ : Env}
theorem Mine.step {as : List Addr} (h : Mine W H as) (s : Step W H W' H') : Mine W' H' as := fun b hb => by
  obtain ⟨⟨u, h1⟩, h2, h3⟩ := h b hb
  obtain ⟨k1, k2, k3⟩ := s.mine h1 h2 h3
  exact ⟨⟨u, k1⟩, k2, k3⟩
theorem Inn.step {Ls : List Addr} {xss : List (List D)} (h : Inn mg W H Ls xss) (m : Mine W H Ls) (s : Step W H W' H') : Inn mg W' H' Ls xss := h.keep s.le fun b hb u hu => by
  obtain ⟨_, h2, h3⟩ := m b hb
  exact (s.mine hu h2 h3).1
theorem Inn.snoc {Ls : List Addr} {xss : List (List D)} {l : Addr} {vs : List V} {xs : List D} (h : Inn mg W H Ls xss) (hl : H l = some (.lst vs)) (r : Reps mg W vs xs) : Inn mg W H (Ls ++ [l]) (xss ++ [xs]) := by
  refine ⟨by rw [List.length_append, List.length_append, h.1]; rfl, fun i b ys q1 q2 => ?_⟩
  by_cases hi : i < Ls.length
  · rw [List.getElem?_append_left hi] at q1
    rw [List.getElem?_append_left (by rw [← h.1]; exact hi)] at q2
    exact h.2 i b ys q1 q2
  · have e : i = Ls.length := by
      have := (List.getElem?_eq_some_iff.mp q1).1
      rw [List.length_append, List.length_singleton] at this
      omega
    subst e
    rw [List.getElem?_append_right (Nat.le_refl _), Nat.sub_self] at q1
    rw [h.1, List.getElem?_append_right (Nat.le_refl _), Nat.sub_self] at q2
    cases q1
    cases q2
    exact ⟨vs, hl, r⟩
/-- what was not there at the start is taken into the world as it stands -/
theorem Step.seen {as : List Addr} (s : Step W H W' H') (k : ∀ b ∈ as, H b = none ∧ W'.H b = none ∧ ¬ W'.T b) : Step W H (W'.seen H' as) H' := by
  refine ⟨s.le.trans (seen_le fun b hb => (k b hb).2.1), seen_holds s.holds fun b hb => (k b hb).2.2, s.keep, fun b o e => ?_, s.freshT, s.live⟩
  show (if b ∈ as then H' b else W'.H b) = W.H b
  have nb : b ∉ as := fun q => by
    rw [(k b q).1] at e
    cases e
  rw [if_neg nb]
  exact s.fresh b o e
/-- what is mine at a place is seen by the world, in part or whole -/
theorem EnvR.seenW (e : EnvR mg B W H σ ρ) {i : Nat} {o : Option V} {s s' : Sl} {as : List Addr} (hi : ρ[i]? = some s) (hs : σ[i]? = some o) (ha : ∀ b ∈ as, b ∈ s.fp o) (hf : ∀ b ∈ s'.fp o, b ∈ s.fp o) (r : SlR mg B (W.seen H as) H o s') : EnvR mg B (W.seen H as) H σ (ρ.set i s') := by
  have l : Le W (W.seen H as) := seen_le fun b hb => by
    obtain ⟨o2, h1, h2⟩ := e.sl i _ hi
    rw [hs] at h1
    cases h1
    obtain ⟨_, _, h3, _⟩ := h2.at (ha b hb)
    exact h3
  refine ⟨by simpa using e.len, fun j sl hj => ?_, fun j m s1 s2 o1 o2 b hjk q1 q2 q3 q4 m1 m2 => ?_⟩
  · rcases get_set hj with ⟨rfl, rfl⟩ | ⟨nj, hj⟩
    · exact ⟨o, hs, r⟩
    · obtain ⟨o', g1, g2⟩ := e.sl j sl hj
      refine ⟨o', g1, g2.keep l fun b hb u h5 h6 h7 => ⟨h5, ?_, h7⟩⟩
      show (if b ∈ as then H b else W.H b) = none
      rw [if_neg fun q => e.dis i j _ sl _ o' b nj hi hj hs g1 (ha b q) hb]
      exact h6
  · rcases get_set q1 with ⟨e1, z⟩ | ⟨n1, q1⟩
    · rcases get_set q2 with ⟨e2, _⟩ | ⟨n2, q2⟩
      · exact hjk (e1.symm.trans e2)
      · subst e1
        rw [hs] at q3
        cases q3
        rw [← z] at m1
        exact e.dis i m s s2 _ o2 b n2 hi q2 hs q4 (hf b m1) m2
    · rcases get_set q2 with ⟨e2, z2⟩ | ⟨n2, q2⟩
      · subst e2
        rw [hs] at q4
        cases q4
        rw [← z2] at m2
        exact e.dis j i s1 s o1 _ b (Ne.symm n1) q1 hi q3 hs m1 (hf b m2)
      · exact e.dis j m s1 s2 o1 o2 b hjk q1 q2 q3 q4 m1 m2
/-- the whole as a datum -/
theorem EnvR.seen2 (e : EnvR mg B W H σ ρ) {i : Nat} {as : List Addr} {xss : List (List D)} (hi : ρ[i]? = some (.o2 as (.ll xss))) : (∀ b ∈ as, W.H b = none ∧ ¬ W.T b ∧ B b = none) ∧ EnvR mg B (W.seen H as) H σ (ρ.set i (.d (.lst (xss.map .lst)))) := by
  obtain ⟨o, h1, a, Ls, ea, ho, ⟨h2, h3⟩, nd, h5⟩ := e.sl i _ hi
  subst ea
  subst ho
  have k : ∀ b ∈ a :: Ls, W.H b = none ∧ ¬ W.T b ∧ B b = none := fun b hb => (h5 b hb).2
  refine ⟨k, e.seenW hi h1 (fun _ h => h) (fun b hb => by cases hb) ⟨_, rfl, .lst (by rw [seen_in List.mem_cons_self]; exact h2) (Reps.lsts h3.1 fun i l xs q1 q2 => ?_)⟩⟩
  obtain ⟨vs, g1, g2⟩ := h3.2 i l xs q1 q2
  exact ⟨vs, by rw [seen_in (List.mem_cons_of_mem _ (List.mem_of_getElem? q1))]; exact g1, g2.mono (seen_le fun b hb => (k b hb).1)⟩
/-- the inner lists become data, the outer one stays one's own -/
theorem EnvR.o2own (e : EnvR mg B W H σ ρ) {i : Nat} {as : List Addr} {xss : List (List D)} (hi : ρ[i]? = some (.o2 as (.ll xss))) : ∃ Ls, (∀ b ∈ Ls, W.H b = none ∧ ¬ W.T b ∧ B b = none) ∧ EnvR mg B (W.seen H Ls) H σ (ρ.set i (.own (xss.map .lst))) := by
  obtain ⟨o, h1, a, Ls, ea, ho, ⟨h2, h3⟩, nd, h5⟩ := e.sl i _ hi
  subst ea
  subst ho
  have k : ∀ b ∈ a :: Ls, W.H b = none ∧ ¬ W.T b ∧ B b = none := fun b hb => (h5 b hb).2
  have kL : ∀ b ∈ Ls, W.H b = none ∧ ¬ W.T b ∧ B b = none := fun b hb => k b (List.mem_cons_of_mem _ hb)
  obtain ⟨a1, a2, a3⟩ := k a List.mem_cons_self
  refine ⟨Ls, kL, e.seenW hi h1 (fun b h => List.mem_cons_of_mem _ h) (fun b hb => ?_) ⟨a, Ls.map V.ref, rfl, h2, ?_, a2, a3, Reps.lsts h3.1 fun i l xs q1 q2 => ?_⟩⟩
  · rw [List.mem_singleton.mp hb]
    exact List.mem_cons_self
  · show (if a ∈ Ls then H a else W.H a) = none
    rw [if_neg (List.nodup_cons.mp nd).1]
    exact a1
  · obtain ⟨vs, g1, g2⟩ := h3.2 i l xs q1 q2
    exact ⟨vs, by rw [seen_in (List.mem_of_getElem? q1)]; exact g1, g2.mono (seen_le fun b hb => (kL b hb).1)⟩
end
section
variable {ι : Type} {Xs : ι → Cx} {mg : Gm} {Wx : WX} {pos : Pos}
/-! ### ahead of a statement -/
abbrev dUp (i : Nat) (f : DTS) : DTS := fun N ρ => match ρ[i]? with
  | some (.o2 _ (.ll xss)) => f N (ρ.set i (.own (xss.map .lst)))
  | _ => False
theorem ds_up (i : Nat) {st : Stmt} {f : DTS} (h : DS Xs mg Wx st f) : DS Xs mg Wx st (dUp i f) := by
  obtain ⟨t, h1, h2⟩ := h
  refine ⟨t, h1, fun W0 B N ρ hf W σ H Ds s e n => ?_⟩
  unfold dUp at hf
  split at hf
  · rename_i as xss hx
    obtain ⟨Ls, k, e1⟩ := e.o2own hx
    exact h2 W0 B N _ hf _ σ H Ds (s.seen fun b hb => ⟨(k b hb).2.2, (k b hb).1, (k b hb).2.1⟩) e1 n
  · exact hf.elim
/-- handed on, an own list of data or of own lists -/
abbrev dFrz2 (i : Nat) (f : DTS) : DTS := fun N ρ => match ρ[i]? with
  | some (.own xs) => f N (ρ.set i (.d (.lst xs)))
  | some (.o2 _ (.ll xss)) => f N (ρ.set i (.d (.lst (xss.map .lst))))
  | _ => False
theorem ds_frz2 (i : Nat) {st : Stmt} {f : DTS} (h : DS Xs mg Wx st f) : DS Xs mg Wx st (dFrz2 i f) := by
  obtain ⟨t, h1, h2⟩ := h
  refine ⟨t, h1, fun W0 B N ρ hf W σ H Ds s e n => ?_⟩
  unfold dFrz2 at hf
  split at hf
  · rename_i xs hx
    obtain ⟨p, vs, g1, g2, g3, g4, g5, r, e'⟩ := e.freeze s.holds hx
    exact h2 W0 B N _ hf _ σ H Ds (s.taken g5 g2 g3 g4) e' n
  · rename_i as xss hx
    obtain ⟨k, e1⟩ := e.seen2 hx
    exact h2 W0 B N _ hf _ σ H Ds (s.seen fun b hb => ⟨(k b hb).2.2, (k b hb).1, (k b hb).2.1⟩) e1 n
  · exact hf.elim
/-! ### seen by an expression that comes to a plain datum -/
abbrev dView2 (i : Nat) (f : DTE) : DTE := fun ρ Q _ => match ρ[i]? with
  | some (.o2 _ (.ll xss)) => f (ρ.set i (.d (.lst (xss.map .lst)))) (fun d => plainD d = true ∧ Q d) F0
  | some (.own xs) => f (ρ.set i (.d (.lst xs))) (fun d => plainD d = true ∧ Q d) F0
  | _ => False
abbrev dView2T (i : Nat) (f : DTT) : DTT := fun ρ Q _ => match ρ[i]? with
  | some (.o2 _ (.ll xss)) => f (ρ.set i (.d (.lst (xss.map .lst)))) Q F0
  | some (.own xs) => f (ρ.set i (.d (.lst xs))) Q F0
  | _ => False
theorem de_view2 (i : Nat) {e : Expr} {f : DTE} (h : DE Xs mg Wx e f) : DE Xs mg Wx e (dView2 i f) := by
  obtain ⟨t, h1, h2⟩ := h
  refine ⟨t, h1, fun B ρ Q E hf W σ H Q' hh e x q => ?_⟩
  unfold dView2 at hf
  split at hf
  · rename_i as xss hi
    obtain ⟨k, e1⟩ := e.seen2 hi
    refine h2 B _ _ _ hf _ σ H _ (seen_holds hh fun b hb => (k b hb).2.1) e1 ExR.f0 fun W1 H1 v d s1 r1 k1 => ?_
    exact q _ H1 v d (seen_step s1 fun b hb => (k b hb).1) (r1.flat k1.1) k1.2
  · rename_i xs hi
    obtain ⟨a, k, e1⟩ := e.seenL hi
    refine h2 B _ _ _ hf _ σ H _ (seen_holds hh fun b hb => by rw [List.mem_singleton.mp hb]; exact k.2) e1 ExR.f0 fun W1 H1 v d s1 r1 k1 => ?_
    exact q _ H1 v d (seen_step s1 fun b hb => by rw [List.mem_singleton.mp hb]; exact k.1) (r1.flat k1.1) k1.2
  · exact hf.elim
theorem dt_view2 (i : Nat) {e : Expr} {f : DTT} (h : DT Xs mg Wx e f) : DT Xs mg Wx e (dView2T i f) := by
  obtain ⟨t, h1, h2⟩ := h
  refine ⟨t, h1, fun B ρ Q E hf W σ H Q' hh e x q => ?_⟩
  unfold dView2T at hf
  split at hf
  · rename_i as xss hi
    obtain ⟨k, e1⟩ := e.seen2 hi
    refine h2 B _ _ _ hf _ σ H _ (seen_holds hh fun b hb => (k b hb).2.1) e1 ExR.f0 fun W1 H1 b s1 k1 => ?_
    exact q _ H1 b (seen_step s1 fun b hb => (k b hb).1) k1
  · rename_i xs hi
    obtain ⟨a, k, e1⟩ := e.seenL hi
    refine h2 B _ _ _ hf _ σ H _ (seen_holds hh fun b hb => by rw [List.mem_singleton.mp hb]; exact k.2) e1 ExR.f0 fun W1 H1 b s1 k1 => ?_
    exact q _ H1 b (seen_step s1 fun b hb => by rw [List.mem_singleton.mp hb]; exact k.1) k1
  · exact hf.elim
/-! ### a comprehension of new lists -/
abbrev DTL := Env → M (List (List D))
def CpN2 (mg : Gm) (Wx : WX) (t : TE) (g : DTL) : Prop := ∀ B ρ Q E, g ρ Q E → ∀ W σ H Q', Holds W H → EnvR mg B W H σ ρ → ExR mg Wx W H σ E → (∀ W' H' p Ls xss, Step W H W' H' → (∀ b ∈ p :: Ls, H b = none) → H' p = some (.lst (Ls.map V.ref)) → (p :: Ls).Nodup → Mine W' H' (p :: Ls) → Inn mg W' H' Ls xss → Q xss → Q' (.ref p) H') → t σ H Q'
def DO2 (Xs : ι → Cx) (mg : Gm) (Wx : WX) (e : Expr) (g : DTL) : Prop := ∃ t, (∀ i, PE (Xs i) e t) ∧ CpN2 mg Wx t g
def lcL (body : D → (List D → Prop) → Prop) : List D → (List (List D) → Prop) → Prop
  | [], Q => Q []
  | d :: ds, Q => body d fun r => lcL body ds fun rs => Q (r :: rs)
abbrev dLc2N (w : DTI) (T : Tg) (g : DTA) (vs : List Nat) : DTL := fun ρ Q E => w ρ (fun ds => ds.length ≤ sizeLine ∧ lcL (fun d k => ∃ ρ2, T.put d (wipeD ρ vs) = some ρ2 ∧ g ρ2 k F0) ds Q) E
theorem CpN2.lc {wi : TI} {g : TG} {tt : TT} {te : TE} {w : DTI} {T : Tg} {ge : DTA} {vs : List Nat} (hi : CpI mg Wx wi w) (hg : CpG mg g T) (hv : ∀ i ∈ T.slots, i ∈ vs) (ht : CpT mg Wx0 tt dYes) (he : CpO mg Wx0 te ge) : CpN2 mg Wx (tLc wi g tt te vs) (dLc2N w T ge vs) := by
  intro B ρ Q E hf W σ H Q' hh e x q
  refine hi B ρ _ E hf W σ H _ hh e x fun W1 H1 J ds s1 wk k1 => ?_
  obtain ⟨hsz, k1⟩ := k1
  intro A hA
  have e1 := e.step s1
  have old : ∀ {Wa Wb : Wd} {Ha Hb : Hp} {p : Addr}, Step Wa Ha Wb Hb → Hb p = none → Ha p = none := fun {Wa Wb Ha Hb p} st hp => by
    cases z : Ha p with
    | none => rfl
    | some o =>
      obtain ⟨o', e'⟩ := st.live p o z
      rw [e'] at hp
      cases hp
  refine ⟨fun i m H' => m = ds.length - i ∧ i ≤ ds.length ∧ ∃ W' Ls acc, Step W1 H1 W' H' ∧ H' A = some (.lst (Ls.map V.ref)) ∧ (A :: Ls).Nodup ∧ Mine W' H' (A :: Ls) ∧ (∀ b ∈ A :: Ls, H1 b = none) ∧ Inn mg W' H' Ls acc ∧ acc.length = i ∧ lcL _ (ds.drop i) (fun rs => Q (acc ++ rs)),
    ⟨ds.length, by simp, Nat.zero_le _, W1, [], [], Step.lay s1.holds hA, upd_same, by simp, fun b hb => ?_, fun b hb => ?_, ⟨rfl, fun i l xs q1 _ => by cases q1⟩, rfl, k1⟩, ?_⟩
  · rw [List.mem_singleton.mp hb]
    exact ⟨⟨_, upd_same⟩, s1.holds.same.free hA, s1.holds.nT hA⟩
  · rw [List.mem_singleton.mp hb]
    exact hA
  rintro i m H' ⟨rfl, hi, W', Ls, acc, s', hL, nd, mn, nw, inn, la, k'⟩
  obtain ⟨go, stop, yld⟩ := wk W' H' s'.le s'.holds
  by_cases hlt : i < ds.length
  · refine .inr ⟨go i hlt, fun H2 => ∃ W' Ls acc, Step W1 H1 W' H2 ∧ H2 A = some (.lst (Ls.map V.ref)) ∧ (A :: Ls).Nodup ∧ Mine W' H2 (A :: Ls) ∧ (∀ b ∈ A :: Ls, H1 b = none) ∧ Inn mg W' H2 Ls acc ∧ acc.length = i + 1 ∧ lcL _ (ds.drop (i + 1)) (fun rs => Q (acc ++ rs)), fun H2 q => ⟨ds.length - (i + 1), by omega, rfl, hlt, q⟩, fun y H2 hy => ?_⟩
    obtain ⟨W2, d, s2, hd, r⟩ := yld i y H2 hlt hy
    have ed : ds.drop i = d :: ds.drop (i + 1) := by
      rw [List.drop_eq_getElem_cons hlt]
      have := (List.getElem?_eq_some_iff.mp hd).2
      rw [this]
    rw [ed] at k'
    obtain ⟨ρ1, p1, k2⟩ := k'
    refine hg B W2 H2 y d _ _ ρ1 _ s2.holds r ((e1.step s').step s2 |>.wipe vs) p1 fun σ3 e3 w3 => ?_
    refine ⟨(w3 vs hv).trans (wipe_wipe σ vs), ?_⟩
    refine ht B ρ1 (fun b => b = true ∧ ge ρ1 (fun r => lcL _ (ds.drop (i + 1)) fun rs => Q (acc ++ r :: rs)) F0) _ ⟨rfl, k2⟩ W2 σ3 H2 _ s2.holds e3 ExR.f0 fun W3 H3 b s3 k3 => ?_
    obtain ⟨rfl, k3⟩ := k3
    rw [if_pos rfl]
    refine he B ρ1 _ _ k3 W3 σ3 H3 _ s3.holds (e3.step s3) ExR.f0 fun W4 H4 p vs4 zs s4 hp r4 k4 => ?_
    have sl := Step.lay (o := .lst vs4) s4.holds hp
    have s24 := (s2.trans s3).trans s4
    have st := s24.trans sl
    have mn4 := mn.step s24
    have mn5 := mn.step st
    have s15 := s'.trans st
    obtain ⟨_, a2, a3⟩ := mn A List.mem_cons_self
    obtain ⟨c1, c2, c3⟩ := st.mine hL a2 a3
    have inn5 := inn.step (fun b hb => mn b (List.mem_cons_of_mem _ hb)) st
    have hA1 : H1 A = none := nw A List.mem_cons_self
    have npL : p ∉ A :: Ls := fun z => by
      obtain ⟨⟨u, hu⟩, _⟩ := mn4 p z
      rw [hp] at hu
      cases hu
    have nAp : A ≠ p := fun z => npL (by rw [← z]; exact List.mem_cons_self)
    have nAL := (List.nodup_cons.mp nd).1
    have hp1 : H1 p = none := old (s'.trans s24) hp
    have s16 : Step W1 H1 W4 (upd (upd H4 p (.lst vs4)) A (.lst (Ls.map V.ref ++ [.ref p]))) := s15.own hA1 c1 c2 c3
    refine ⟨Ls.map V.ref, c1, ?_, W4, Ls ++ [p], acc ++ [zs], s16, ?_, ?_, ?_, ?_, ?_, ?_, ?_⟩
    · rw [List.length_map, inn.1, la]
      omega
    · rw [upd_same, List.map_append]
      rfl
    · rw [← List.cons_append]
      refine List.nodup_append.mpr ⟨nd, by simp, fun u hu v hv => ?_⟩
      rw [List.mem_singleton.mp hv]
      exact fun z => npL (by rw [← z]; exact hu)
    · intro b hb
      rw [← List.cons_append] at hb
      rcases List.mem_append.mp hb with hb | hb
      · obtain ⟨⟨u, h5⟩, h6, h7⟩ := mn5 b hb
        refine ⟨?_, h6, h7⟩
        by_cases z : b = A
        · rw [z]
          exact ⟨_, upd_same⟩
        · exact ⟨u, by rw [upd_ne z]; exact h5⟩
      · rw [List.mem_singleton.mp hb]
        exact ⟨⟨_, by rw [upd_ne (Ne.symm nAp)]; exact upd_same⟩, s4.holds.same.free hp, s4.holds.nT hp⟩
    · intro b hb
      rw [← List.cons_append] at hb
      rcases List.mem_append.mp hb with hb | hb
      · exact nw b hb
      · rw [List.mem_singleton.mp hb]
        exact hp1
    · refine Inn.snoc (vs := vs4) (inn5.keep (Le.refl _) fun b hb u hu => ?_) (by rw [upd_ne (Ne.symm nAp)]; exact upd_same) r4
      rw [upd_ne fun z => nAL (by rw [← z]; exact hb)]
      exact hu
    · rw [List.length_append, la]
      rfl
    · simpa [List.append_assoc] using k4
  · have ei : i = ds.length := by omega
    subst ei
    rw [List.drop_length] at k'
    refine .inl ⟨stop, q W' H' A Ls acc (s1.trans s') (fun b hb => old s1 (nw b hb)) hL nd mn inn ?_⟩
    have k2 : Q (acc ++ []) := k'
    rw [List.append_nil] at k2
    exact k2
theorem do2_lc {elt tg iter : Expr} {scope : Scope} {own : List (Str × Nat)} {w : DTI} {T : Tg} {ge : DTA} (hN : ∀ j, (Xs j).N.Nodup) (hi : DI Xs mg Wx tg iter w) (ok : ∀ j, BlkOk (Xs j).N (Xs j).env.scope scope own) (hg : DG (blkF Xs scope) mg tg T) (he : DO (blkF Xs scope) mg Wx0 elt ge)
    (hv : ∀ i ∈ T.slots, i ∈ own.map (·.2) := by decide) (hc : ∀ j, (Xs j).calm = true := by intro _; rfl) (hs : ∀ j x, foldedSetIterable iter (Xs j).env x = pure x := by intro _ _; rfl) : DO2 Xs mg Wx (.ListComp elt [⟨tg, iter, [], 0⟩] scope pos) (dLc2N w T ge (own.map (·.2))) := by
  obtain ⟨wi, i1, i2⟩ := hi
  obtain ⟨g, g1, g2⟩ := hg
  obtain ⟨te, e1, e2⟩ := he
  obtain ⟨tt, t1, t2⟩ := dts_nil (Xs := blkF Xs scope) (mg := mg) (Wx := Wx0)
  exact ⟨_, fun j => pe_lc (hc j) (hN j) (i1 j) (ok j) (fun s H C cl fp => g1 (j, s, H, C, cl, fp)) (fun s H C cl fp => t1 (j, s, H, C, cl, fp)) (fun s H C cl fp => e1 (j, s, H, C, cl, fp)) (hs j), CpN2.lc i2 g2 hv t2 e2⟩
/-- x, y = [..], [..] of new lists -/
abbrev dPar22 (i j : Nat) (g1 g2 : DTL) : DTS := fun N ρ => g1 ρ (fun xss => g2 ρ (fun yss => ∀ as bs, N.nx ((ρ.set i (.o2 as (.ll xss))).set j (.o2 bs (.ll yss)))) (fun x => N.rs x ρ)) (fun x => N.rs x ρ)
theorem ds_par22 {i j : Nat} {x y : Str} {a b : Expr} {f g : DTL} {px py pt : Pos} {kt k2 : Nat} {pt2 : Pos} (h : DO2 Xs mg Wx a f) (h' : DO2 Xs mg Wx b g) (hN : ∀ l, (Xs l).N.Nodup)
    (hw : ∀ l, swappedStores [.Tuple [.Name x px, .Name y py] kt pt] (.Tuple [a, b] k2 pt2) (Xs l).env = pure (some [x, y]) := by intro _; rfl) (hij : i ≠ j := by decide) (hi : ∀ l, (Xs l).N[i]? = some x := by intro _; rfl) (hj : ∀ l, (Xs l).N[j]? = some y := by intro _; rfl)
    (hx : ∀ l, (Xs l).env.scope.names.lookup x = some .local := by intro _; rfl) (hy : ∀ l, (Xs l).env.scope.names.lookup y = some .local := by intro _; rfl) (hc : ∀ l, (Xs l).calm = true := by intro _; rfl)
    (hs : ∀ l, swapsWithSole [.Tuple [.Name x px, .Name y py] kt pt] (.Tuple [a, b] k2 pt2) pos.line (Xs l).env = pure false := by intro _; rfl)
    (he : ∀ i, starEach [a, b] (Xs i).env = (false, eval a (Xs i).env) :: starEach [b] (Xs i).env := by intro _; rfl) (he2 : ∀ i, starEach [b] (Xs i).env = [(false, eval b (Xs i).env)] := by intro _; rfl) : DS Xs mg Wx (.Assign [.Tuple [.Name x px, .Name y py] kt pt] (.Tuple [a, b] k2 pt2) pos) (dPar22 i j f g) := by
  obtain ⟨t, h1, h2⟩ := h
  obtain ⟨u, g1, g2⟩ := h'
  refine ⟨_, fun l => ps_par (i := i) (j := j) (hc l) (hN l) (hi l) (hj l) hij (hx l) (hy l) (pa_cons (h1 l) (pa_cons (g1 l) pa_nil (he2 l)) (he l)) (hw l) (hs l), fun W0 B N ρ hf W σ H Ds s e n => ?_⟩
  refine h2 B ρ _ _ hf W σ H _ s.holds e (n.ex s e) fun W1 H1 p Ls xss s1 fr hp nd mn inn k1 => ?_
  have e1 := e.step s1
  have s01 := s.trans s1
  refine g2 B ρ _ _ k1 W1 σ H1 _ s1.holds e1 (n.ex s01 e1) fun W2 H2 p' Ls' yss s2 fr' hp' nd' mn' inn' k2 => ?_
  have s02 := s01.trans s2
  have e2 := e1.step s2
  have mn2 := mn.step s2
  have inn2 := inn.step (fun b hb => mn b (List.mem_cons_of_mem _ hb)) s2
  obtain ⟨_, a2, a3⟩ := mn p List.mem_cons_self
  have hp2 := (s2.mine hp a2 a3).1
  have old : ∀ (j' : Nat) (t : Sl) (o' : Option V) (b : Addr), ρ[j']? = some t → σ[j']? = some o' → b ∈ t.fp o' → (∃ u, H b = some u) ∧ ∃ u, H1 b = some u := fun j' t o' b q1 q2 m => by
    obtain ⟨o2, q3, q4⟩ := e.sl j' _ q1
    rw [q2] at q3
    cases q3
    obtain ⟨u, q5, _⟩ := q4.at m
    exact ⟨⟨u, q5⟩, s1.live b u q5⟩
  have x1 : SlR mg B W2 H2 (some (.ref p)) (.o2 (p :: Ls) (.ll xss)) := ⟨p, Ls, rfl, rfl, ⟨hp2, inn2⟩, nd, fun b hb => ⟨(mn2 b hb).1, (mn2 b hb).2.1, (mn2 b hb).2.2, s.noB (fr b hb)⟩⟩
  have x2 : SlR mg B W2 H2 (some (.ref p')) (.o2 (p' :: Ls') (.ll yss)) := ⟨p', Ls', rfl, rfl, ⟨hp', inn'⟩, nd', fun b hb => ⟨(mn' b hb).1, (mn' b hb).2.1, (mn' b hb).2.2, s01.noB (fr' b hb)⟩⟩
  have e3 := e2.move (k := i) (o := some (.ref p)) (fun j' t o' b _ q1 q2 m m' => by
    obtain ⟨⟨u, q5⟩, _⟩ := old j' t o' b q1 q2 m
    rw [fr b m'] at q5
    cases q5) x1
  have e4 := e3.move (k := j) (o := some (.ref p')) (fun j' t o' b _ q1 q2 m m' => by
    have hb : ∃ u, H1 b = some u := by
      rcases get_set q1 with ⟨rfl, rfl⟩ | ⟨nj, q1⟩
      · exact (mn b m).1
      · rw [List.getElem?_set_ne nj] at q2
        exact (old j' t o' b q1 q2 m).2
    obtain ⟨u, hu⟩ := hb
    rw [fr' b m'] at hu
    cases hu) x2
  exact ⟨_, _, rfl, n.nx W2 H2 _ _ s02 e4 (k2 _ _)⟩
/-! ### x[k].pop(e) -/
theorem nodup_ix {α : Type} : ∀ {l : List α} {i j : Nat} {x : α}, l.Nodup → l[i]? = some x → l[j]? = some x → i = j
  | [], _, _, _, _, h, _ => by cases h
  | _ :: _, 0, 0, _, _, _, _ => rfl
  | a :: r, 0, j + 1, x, hn, h1, h2 => by
    cases h1
    exact absurd (List.mem_of_getElem? (by simpa using h2)) (List.nodup_cons.mp hn).1
  | a :: r, i + 1, 0, x, hn, h1, h2 => by
    cases h2
    exact absurd (List.mem_of_getElem? (by simpa using h1)) (List.nodup_cons.mp hn).1
  | a :: r, i + 1, j + 1, x, hn, h1, h2 => congrArg (· + 1) (nodup_ix (List.nodup_cons.mp hn).2 (by simpa using h1) (by simpa using h2))
abbrev dO2Pop (i : Nat) (fk fe : DTE) : DTS := fun N ρ => match ρ[i]? with
  | some (.o2 as (.ll xss)) => fk ρ (fun y => match y with
    | .int k => ∃ m xs, ixN xss.length k = some m ∧ xss[m]? = some xs ∧ fe ρ (fun z => match z with
      | .int c => (-(2 ^ 63) ≤ c ∧ c < 2 ^ 63) ∧ ∃ j, seqIndex? c xs.length = some j ∧ (∃ d, xs[j]? = some d) ∧ N.nx (ρ.set i (.o2 as (.ll (xss.set m (xs.eraseIdx j)))))
      | _ => False) (fun x => N.rs x ρ)
    | _ => False) (fun x => N.rs x ρ)
  | _ => False
theorem ds_o2Pop (i : Nat) {k e : Expr} {fk fe : DTE} {st : Stmt} (hk : DE Xs mg Wx k fk) (he : DE Xs mg Wx e fe)
    (pe : ∀ j tk te, PE (Xs j) k tk → PE (Xs j) e te → PS (Xs j) st (tDrop (tBM (Xs j).K "list" rPopAt (tOp (rIx (Xs j).K) (tVar i) tk) (tCons te tNil)))) (hK : ∀ j, (Xs j).K = mg.K := by intro _; rfl) : DS Xs mg Wx st (dO2Pop i fk fe) := by
  obtain ⟨tk, k1, k2⟩ := hk
  obtain ⟨te, e1, e2⟩ := he
  refine ⟨tDrop (tBM mg.K "list" rPopAt (tOp (rIx mg.K) (tVar i) tk) (tCons te tNil)), fun j => by rw [← hK j]; exact pe j tk te (k1 j) (e1 j), fun W0 B N ρ hf W σ H Ds s e n => ?_⟩
  unfold dO2Pop at hf
  split at hf
  · rename_i as xss hx
    obtain ⟨o, g1, a, Ls, ea, ho, ⟨g2, g3⟩, nd, g5⟩ := e.sl i _ hx
    subst ea
    subst ho
    refine ⟨.ref a, g1, ?_⟩
    refine k2 B ρ _ _ hf W σ H _ s.holds e (n.ex s e) fun W1 H1 y z s1 r1 q1 => ?_
    have ee1 := e.step s1
    have m0 : Mine W H (a :: Ls) := fun b hb => ⟨(g5 b hb).1, (g5 b hb).2.1, (g5 b hb).2.2.1⟩
    obtain ⟨_, a2, a3⟩ := m0 a List.mem_cons_self
    cases r1 with
    | int m =>
      obtain ⟨mm, xs, h1, h2, h3⟩ := q1
      have in1 := g3.step (fun b hb => m0 b (List.mem_cons_of_mem _ hb)) s1
      have hl : ∃ l, Ls[mm]? = some l := ⟨_, List.getElem?_eq_getElem (by rw [g3.1]; exact (List.getElem?_eq_some_iff.mp h2).1)⟩
      obtain ⟨l, hl⟩ := hl
      obtain ⟨us, u1, u2⟩ := in1.2 mm l xs hl h2
      refine .inl ⟨a, _, m, .ref l, rfl, rfl, SqL.of (s1.mine g2 a2 a3).1, ?_, ?_⟩
      · unfold atI
        rw [List.length_map, g3.1, h1]
        show (Ls.map V.ref)[mm]? = _
        rw [List.getElem?_map, hl]
        rfl
      refine ⟨.inl ⟨rfl, _, SqL.of u1⟩, ?_⟩
      refine e2 B ρ _ _ h3 W1 σ H1 _ s1.holds ee1 (n.ex (s.trans s1) ee1) fun W2 H2 v d s2 r2 q2 => ?_
      have ee2 := ee1.step s2
      cases r2 with
      | int c =>
        obtain ⟨⟨c1, c2⟩, jj, c3, ⟨d, c4⟩, c5⟩ := q2
        have m2 := (m0.step s1).step s2
        have in2 := in1.step (fun b hb => (m0.step s1) b (List.mem_cons_of_mem _ hb)) s2
        obtain ⟨ws, w1, w2⟩ := in2.2 mm l xs hl h2
        obtain ⟨x0, x1, x2⟩ := w2.get c4
        refine ⟨l, ws, c, jj, x0, rfl, rfl, w1, c1, c2, by rw [w2.length]; exact c3, x1, ?_⟩
        have ml : l ∈ a :: Ls := List.mem_cons_of_mem _ (List.mem_of_getElem? hl)
        obtain ⟨_, l2, l3⟩ := m2 l ml
        have nal : a ≠ l := fun z => (List.nodup_cons.mp nd).1 (by rw [z]; exact List.mem_of_getElem? hl)
        have ha2 := ((s1.trans s2).mine g2 a2 a3).1
        refine n.nx W2 _ σ _ (((s.trans s1).trans s2).own (g5 l ml).2.2.2 w1 l2 l3) (ee2.turn (s' := .o2 (a :: Ls) (.ll (xss.set mm (xs.eraseIdx jj)))) hx g1 ml (fun _ h => h) ⟨a, Ls, rfl, rfl, ⟨by rw [upd_ne nal]; exact ha2, ?_, ?_⟩, nd, fun b hb => ?_⟩) c5
        · rw [List.length_set]
          exact g3.1
        · intro i' b ys p1 p2
          by_cases hi' : i' = mm
          · subst hi'
            rw [hl] at p1
            cases p1
            rw [List.getElem?_set_self (List.getElem?_eq_some_iff.mp h2).1] at p2
            cases p2
            exact ⟨_, upd_same, w2.eraseIdx jj⟩
          · rw [List.getElem?_set_ne (Ne.symm hi')] at p2
            obtain ⟨vs, y1, y2⟩ := in2.2 i' b ys p1 p2
            have nb : b ≠ l := fun z => by
              rw [z] at p1
              have hn := (List.nodup_cons.mp nd).2
              exact hi' (nodup_ix hn p1 hl)
            exact ⟨vs, by rw [upd_ne nb]; exact y1, y2⟩
        · refine ⟨?_, (m2 b hb).2.1, (m2 b hb).2.2, (g5 b hb).2.2.2⟩
          by_cases z : b = l
          · rw [z]
            exact ⟨_, upd_same⟩
          · obtain ⟨⟨u, hu⟩, _⟩ := m2 b hb
            exact ⟨u, by rw [upd_ne z]; exact hu⟩
      | _ => exact q2.elim
    | _ => exact q1.elim
  · exact hf.elim
/-! ### x[i], x[j] = e, f -/
abbrev dSwap (i : Nat) (fe fk1 fk2 : DTE) : DTS := fun N ρ => fe ρ (fun y => match y with
  | .tup [d1, d2] => match ρ[i]? with
    | some (.own xs) => fk1 ρ (fun k1 => match k1 with
      | .int m1 => ∃ j1, ixN xs.length m1 = some j1 ∧ fk2 (ρ.set i (.own (xs.set j1 d1))) (fun k2 => match k2 with
        | .int m2 => ∃ j2, ixN xs.length m2 = some j2 ∧ N.nx (ρ.set i (.own ((xs.set j1 d1).set j2 d2)))
        | _ => False) (fun x => N.rs x (ρ.set i (.own (xs.set j1 d1))))
      | _ => False) (fun x => N.rs x ρ)
    | _ => False
  | _ => False) (fun x => N.rs x ρ)
theorem ds_swap (i : Nat) {e k1 k2 : Expr} {fe fk1 fk2 : DTE} {st : Stmt} (he : DE Xs mg Wx e fe) (hk1 : DE Xs mg Wx k1 fk1) (hk2 : DE Xs mg Wx k2 fk2)
    (pe : ∀ j te t1 t2, PE (Xs j) e te → PE (Xs j) k1 t1 → PE (Xs j) k2 t2 → PS (Xs j) st (tAsg te (gTup (Xs j).K 2 (gCons (gSub (tVar i) t1 L2.rSetL) (gCons (gSub (tVar i) t2 L2.rSetL) gNil))))) (hK : ∀ j, (Xs j).K = mg.K := by intro _; rfl) : DS Xs mg Wx st (dSwap i fe fk1 fk2) := by
  obtain ⟨te, e1, e2⟩ := he
  obtain ⟨t1, a1, a2⟩ := hk1
  obtain ⟨t2, b1, b2⟩ := hk2
  refine ⟨tAsg te (gTup mg.K 2 (gCons (gSub (tVar i) t1 L2.rSetL) (gCons (gSub (tVar i) t2 L2.rSetL) gNil))), fun j => by rw [← hK j]; exact pe j te t1 t2 (e1 j) (a1 j) (b1 j), fun W0 B N ρ hf W σ H Ds s e n => ?_⟩
  refine e2 B ρ _ _ hf W σ H _ s.holds e (n.ex s e) fun W1 H1 v d s1 r1 q1 => ?_
  have ee1 := e.step s1
  match d, r1, q1 with
  | .tup [d1, d2], .tup (vs := [v1, v2]) ha (.cons r1 (.cons r2 .nil)), q1 =>
    refine ⟨_, _, rfl, SqT.of (s1.holds.same _ _ ha), rfl, ?_⟩
    dsimp only at q1
    split at q1
    · rename_i xs hx
      obtain ⟨o, g1, a, vs, g2, _⟩ := ee1.sl i _ hx
      subst g2
      refine ⟨_, _, rfl, ⟨.ref a, g1, ?_⟩⟩
      refine a2 B ρ _ _ q1 W1 σ H1 _ s1.holds ee1 (n.ex (s.trans s1) ee1) fun W2 H2 y z s2 r3 q2 => ?_
      have ee2 := ee1.step s2
      cases r3 with
      | int m1 =>
        obtain ⟨j1, c1, q3⟩ := q2
        obtain ⟨o', w1, a', vs', w2, w3, w4, w5, w6, r'⟩ := ee2.sl i _ hx
        rw [g1] at w1
        cases w1
        cases w2
        refine ⟨a, vs', m1, j1, rfl, rfl, w3, by rw [r'.length]; exact c1, ?_⟩
        have s03 : Step W0 B W2 (upd H2 a (.lst (vs'.set j1 v1))) := ((s.trans s1).trans s2).own w6 w3 w4 w5
        have ee3 := ee2.own (us := vs') hx g1 (r'.set j1 (r1.mono s2.le))
        refine ⟨_, _, rfl, ⟨.ref a, g1, ?_⟩⟩
        refine b2 B _ _ _ q3 W2 σ _ _ s03.holds ee3 (n.ex s03 ee3) fun W3 H3 y z s3 r4 q4 => ?_
        have ee4 := ee3.step s3
        cases r4 with
        | int m2 =>
          obtain ⟨j2, c2, q5⟩ := q4
          obtain ⟨o', w1, a', vs2, w2, x3, x4, x5, x6, r''⟩ := ee4.sl i _ (set_get hx)
          rw [g1] at w1
          cases w1
          cases w2
          refine ⟨a, vs2, m2, j2, rfl, rfl, x3, by rw [r''.length, List.length_set]; exact c2, rfl, ?_⟩
          have ee5 := ee4.own (us := vs2) (set_get hx) g1 (r''.set j2 (r2.mono (s2.le.trans s3.le)))
          rw [List.set_set] at ee5
          exact n.nx W3 _ σ _ ((s03.trans s3).own x6 x3 x4 x5) ee5 q5
        | _ => exact q4.elim
      | _ => exact q2.elim
    · exact q1.elim
end
end FP
/-! FP96: list comprehensions of any number of clauses, put together clause by clause. -/
namespace FP
open PySem PySem.Spec PyProof.Rows L2
/-- what a clause's turn asks: from these slots and this heap on, Nx is reached -/
abbrev TB := L2.St → Hp → (Hp → Prop) → Prop
/-- a clause's turn: fetch, store, test, then the rest of the turn -/
def turnD (t i : Expr) (ifs : List Expr) (SK : Sem Fin → Sem Fin) (e : Expr) (k : Nat) (it acc : Value) (env : PySem.Env) : Sem Fin := do
  standAt i.pos
  match ← pyNext it with
  | none => pure (.done .next)
  | some v =>
    letOwnedTupleGo t it v
    assign t env v
    let ok ← forIn ifs true fun c r => if r = true then do let ok ← isTrue c env (eval c env); pure (ForInStep.yield ok) else pure (ForInStep.yield r)
    if ok then SK (again (.compLoop e k it acc env)) else again (.compLoop e k it acc env)
/-- the rest of a turn where another clause follows -/
def moreK (e : Expr) (k' : Nat) (i' : Expr) (acc : Value) (env : PySem.Env) : Sem Fin → Sem Fin := fun rest => do
  let x ← eval i' env
  standAt i'.pos
  let x ← foldedSetIterable i' env x
  let _ ← runOwn (.compStart e k' (← holding [x] (pyIter x)) acc env) env
  rest
/-- the rest of the last clause's turn -/
def lastK (elt : Expr) (acc : Value) (env : PySem.Env) : Sem Fin → Sem Fin := fun rest => do
  (do let _ ← call (.builtin "list.append") [acc, ← eval elt env])
  rest
abbrev lc3 (elt t0 i0 t1 i1 t2 i2 : Expr) (f0 f1 f2 : List Expr) (scope : Scope) (pos : Pos) : Expr := .ListComp elt [⟨t0, i0, f0, 0⟩, ⟨t1, i1, f1, 0⟩, ⟨t2, i2, f2, 0⟩] scope pos
section
variable {elt t0 i0 t1 i1 t2 i2 : Expr} {f0 f1 f2 : List Expr} {scope : Scope} {pos : Pos} (it acc : Value) (env : PySem.Env)
theorem lc3_turn0 : compTurn (lc3 elt t0 i0 t1 i1 t2 i2 f0 f1 f2 scope pos) 0 it acc env = turnD t0 i0 f0 (moreK (lc3 elt t0 i0 t1 i1 t2 i2 f0 f1 f2 scope pos) 1 i1 acc env) (lc3 elt t0 i0 t1 i1 t2 i2 f0 f1 f2 scope pos) 0 it acc env := by rfl
theorem lc3_turn1 : compTurn (lc3 elt t0 i0 t1 i1 t2 i2 f0 f1 f2 scope pos) 1 it acc env = turnD t1 i1 f1 (moreK (lc3 elt t0 i0 t1 i1 t2 i2 f0 f1 f2 scope pos) 2 i2 acc env) (lc3 elt t0 i0 t1 i1 t2 i2 f0 f1 f2 scope pos) 1 it acc env := by rfl
theorem lc3_turn2 : compTurn (lc3 elt t0 i0 t1 i1 t2 i2 f0 f1 f2 scope pos) 2 it acc env = turnD t2 i2 f2 (lastK elt acc env) (lc3 elt t0 i0 t1 i1 t2 i2 f0 f1 f2 scope pos) 2 it acc env := by rfl
end
/-- what the rest of a turn does; us: the slots that it may change -/
def Body (Y : Cx) (us : List Nat) (SK : Sem Fin → Sem Fin) (tb : TB) : Prop := ∀ (pins : List (Addr × Obj)) (s : Shared) (σ : L2.St) (H : Hp) (Nx : Hp → Prop) (rest : Sem Fin) (R : Fin → Shared → Prop) (E : Value → Shared → Prop), Inv Y pins σ H s → tb σ H Nx →
  (∀ s' H', Inv Y pins (wipe σ us) H' s' → Nx H' → wpAny (model Y.prog Y.w) Y.A rest R E s') → wpAny (model Y.prog Y.w) Y.A (SK rest) R E s
/-- the walk of a clause -/
def tCl (g : TG) (tt : TT) (tb : TB) (V : List Nat) (J : It) : TB := fun σ H Nx => ∃ W : Nat → Nat → Hp → Prop, (∃ m, W 0 m H) ∧ ∀ j m H, W j m H →
  (J.stop j H ∧ Nx H) ∨ (J.go j H ∧ ∃ N1 : Hp → Prop, (∀ H', N1 H' → ∃ m', m' < m ∧ W (j + 1) m' H') ∧ ∀ x H', J.yld j H x H' → g x (wipe σ V) H' fun σ2 H2 => wipe σ2 V = wipe σ V ∧ tt σ2 H2 fun b H3 => if b = true then tb σ2 H3 N1 else N1 H3)
theorem fin0 {Y : Cx} (hx : Y.xe = fun _ _ => False) {α : Type} {t : Sem α} {Q Q' : α → Shared → Prop} {E : Value → Shared → Prop} {s : Shared} (h : wpAny (model Y.prog Y.w) Y.A t Q Y.xe s) (hQ : ∀ a s, Q a s → Q' a s) : wpAny (model Y.prog Y.w) Y.A t Q' E s := by
  rw [hx] at h
  exact thnF h hQ
theorem wipe_sub {σ : L2.St} {us vs : List Nat} (h : ∀ i ∈ us, i ∈ vs) {j : Nat} {v : L2.V} (e : (wipe σ vs)[j]? = some (some v)) : (wipe σ us)[j]? = some (some v) := by
  obtain ⟨e1, e2⟩ := wipe_some e
  rw [wipe_out fun z => e2 (h j z)]
  exact e1
section
variable {Y : Cx} {us V : List Nat} {SK : Sem Fin → Sem Fin} {tb : TB} {g : TG} {tt : TT} {t i elt : Expr} {gs : List Comprehension} {scope : Scope} {pos : Pos} {ifs : List Expr} {k : Nat} {acc : Value}
/-- a clause's loop -/
theorem clause_loop (hT : ∀ it, compTurn (.ListComp elt gs scope pos) k it acc Y.env = turnD t i ifs SK (.ListComp elt gs scope pos) k it acc Y.env) (hc : Y.calm = true) (hx : Y.xe = fun _ _ => False) (pg : PG Y t g) (pt : PTs Y ifs tt) (pb : Body Y us SK tb) (hu : ∀ i ∈ us, i ∈ V)
    {J : It} {fp : List Addr} {it : Addr} {tn : Nat → Heap → Prop} (T : Turn Y.prog Y.w Y.K t J fp it tn) {pins : List (Addr × Obj)} {σ : L2.St} {H : Hp} {s : Shared} {Nx : Hp → Prop} (I : Inv Y pins σ H s) (st : tn 0 s.heap) (hf : ∀ b ∈ fp, FpOk Y pins H b) (h : tCl g tt tb V J σ H Nx) :
    codeAny (model Y.prog Y.w) Y.A (.compLoop (.ListComp elt gs scope pos) k (.ref it) acc Y.env) (fun r s' => match r with
      | .ok f => f = .next ∧ ∃ H', Inv Y pins (wipe σ V) H' s' ∧ Nx H'
      | .error _ => False) s := by
  obtain ⟨W, ⟨m0, w0⟩, turn⟩ := h
  have still : ∀ {G : Hp}, (∀ b ∈ fp, G b = none) → ∀ b ∈ fp, FpOk Y pins G b := fun hn b hb => ⟨hn b hb, (hf b hb).2⟩
  refine codeAny_loop rfl (fun m z => ∃ j G, Inv Y pins (wipe σ V) G z ∧ tn j z.heap ∧ (∀ b ∈ fp, G b = none) ∧ W j m G) (fun m z hz => ?_) m0 ⟨0, H, I.weak (wipe_length _ _) (fun j v q => (wipe_some q).1), st, fun b hb => (hf b hb).1, w0⟩
  obtain ⟨j, G, IG, sG, nG, wG⟩ := hz
  show wpAny _ _ ((compTurn (.ListComp elt gs scope pos) k (.ref it) acc Y.env).onRaise fun x => do noteFrame x Y.env; theTreesLotGoes x) _ _ z
  refine wpAny_noted ?_
  rw [hT]
  unfold turnD
  refine wpAny_bind (wpAny_standAt (wpAny_bind ?_))
  rcases turn j m G wG with ⟨stop, hn⟩ | ⟨go, N1, hN, step⟩
  · refine thnF (T.done Y rfl rfl rfl hc j pins z _ G (fun _ _ => False) IG (still nG) sG stop) fun r z1 ⟨hr, I1⟩ => ?_
    subst hr
    exact wpAny_pure ⟨rfl, G, I1, hn⟩
  · refine thnF (T.item Y rfl rfl rfl hc j pins z _ G (fun _ _ => False) IG (still nG) sG go) fun r z1 ⟨u, hr, h1⟩ => ?_
    subst hr
    refine wpAny_bind (thnF h1 fun _ z2 ⟨x, G2, I2, r2, y2, s2, n2⟩ => ?_)
    have I2' := I2.pinned (still n2) (T.obj _ _ s2)
    refine wpAny_bind (fin0 hx (pg.run _ z2 _ G2 x u _ I2' r2 (step x G2 y2)) fun _ z3 ⟨σ3, G3, I3, hw3, q3⟩ => ?_)
    refine wpAny_bind (fin0 hx (pt.run _ z3 σ3 G3 _ I3 q3) fun b z4 ⟨G4, I4, q4⟩ => ?_)
    have close : ∀ {z5 : Shared} {G5 : Hp}, Inv Y (pins ++ pinsAt fp z2.heap) (wipe σ V) G5 z5 → N1 G5 → ∃ m', m' < m ∧ ∃ j G, Inv Y pins (wipe σ V) G z5 ∧ tn j z5.heap ∧ (∀ b ∈ fp, G b = none) ∧ W j m' G := fun {z5 G5} I5 hn => by
      obtain ⟨m', hm, w'⟩ := hN G5 hn
      have stays : ∀ b ∈ fp, ∀ o, z2.heap.get? b = some o → z5.heap.get? b = some o ∧ G5 b = none := fun b hb o q =>
        have y := I5.pin (b, o) (List.mem_append_right _ (List.mem_append_right _ (mem_pinsAt hb q)))
        ⟨y.1, y.2.1⟩
      refine ⟨m', hm, j + 1, G5, I5.unpinned, T.keep _ _ _ s2 fun b hb o q => (stays b hb o q).1, fun b hb => ?_, w'⟩
      obtain ⟨o, q, _⟩ := T.obj _ _ s2 b hb
      exact (stays b hb o q).2
    have len3 : (wipe σ V).length = σ3.length := by rw [← hw3, wipe_length]
    cases b with
    | false =>
      simp only [Bool.false_eq_true, if_false] at q4 ⊢
      exact wpAny_pure ⟨rfl, close (I4.weak len3 fun j v q => by rw [← hw3] at q; exact (wipe_some q).1) q4⟩
    | true =>
      simp only [if_true] at q4 ⊢
      refine pb _ z4 σ3 G4 N1 _ _ _ I4 q4 fun z5 G5 I5 hn => ?_
      exact wpAny_pure ⟨rfl, close (I5.weak (len3.trans (wipe_length σ3 us).symm) fun j v q => by rw [← hw3] at q; exact wipe_sub hu q) hn⟩
/-- the start of a clause that is not the first -/
theorem clause_start {R : Result → Shared → Prop} {s : Shared} {it : Value} {P : Program} {w : World} {A : Around} {env : PySem.Env} (hk : (clausesOf (.ListComp elt gs scope pos))[k]? = some ⟨t, i, ifs, 0⟩) (h0 : codeAny (model P w) A (.compLoop (.ListComp elt gs scope pos) k it acc env) R s)
    (h : wpAny (model P w) A (pyIter it) (fun it' s' => codeAny (model P w) A (.compLoop (.ListComp elt gs scope pos) k it' acc env) R s') (notedBy (model P w) A env fun x s' => R (.error x) s') s) : codeAny (model P w) A (.compStart (.ListComp elt gs scope pos) k it acc env) R s := by
  refine codeAny_of_tree ?_
  show wpAny _ _ ((compStart (.ListComp elt gs scope pos) k it acc env).onRaise fun x => do noteFrame x env; standAt theWindowsPlace) _ _ s
  refine wpAny_notedAt ?_
  unfold compStart
  rw [hk]
  show wpAny _ _ (ask >>= _) _ _ s
  refine wpAny_bind (wpAny_askSetting (wpAny_ite ?_))
  split
  · first
    | exact wpAny_bind (wpAny_pure (wpAny_pure ⟨rfl, h0⟩))
    | exact wpAny_pure ⟨rfl, h0⟩
  · refine wpAny_bind (wpAny_rule ?_)
    show wpAny _ _ (standAt i.pos >>= _) _ _ s
    exact wpAny_bind (wpAny_standAt (wpAny_bind (wpAny_mono h (fun a z hz => wpAny_pure ⟨rfl, hz⟩) fun _ _ y => y)))
/-- a further clause is the rest of a turn -/
theorem Body.more {wi : TI} (hk : (clausesOf (.ListComp elt gs scope pos))[k]? = some ⟨t, i, ifs, 0⟩) (hT : ∀ it, compTurn (.ListComp elt gs scope pos) k it acc Y.env = turnD t i ifs SK (.ListComp elt gs scope pos) k it acc Y.env) (hc : Y.calm = true) (hx : Y.xe = fun _ _ => False) (pi : PI Y t i wi) (pg : PG Y t g) (pt : PTs Y ifs tt) (pb : Body Y us SK tb) (hu : ∀ i ∈ us, i ∈ V) (hs : ∀ x, foldedSetIterable i Y.env x = pure x) :
    Body Y V (moreK (.ListComp elt gs scope pos) k i acc Y.env) (fun σ H Nx => wi σ H fun J H1 => tCl g tt tb V J σ H1 Nx) := by
  intro pins s σ H Nx rest R E I h hr
  unfold moreK
  refine wpAny_bind (fin0 hx (pi.run pins s σ H _ I h) fun x s1 h1 => ?_)
  refine wpAny_bind (wpAny_standAt (wpAny_bind (wpAny_of_eq (hs x) (wpAny_bind (wpAny_holding (fin0 hx h1 fun itv s2 h2 => ?_))))))
  obtain ⟨it, fp, tn, J, H2, rfl, I2, T, st, hf, h3⟩ := h2
  refine wpAny_bind (wpAny_runOwn ?_)
  rw [Around.mark_none]
  have loop := clause_loop hT hc hx pg pt pb hu T I2 st hf h3
  have start := clause_start hk loop (T.self Y.A 0 _ _ _ st loop)
  refine codeAny_mono start fun r s' q => ?_
  cases r with
  | ok f =>
    obtain ⟨rfl, H', I', n'⟩ := q
    exact hr s' H' I' n'
  | error x => exact q.elim
end
/-- the last clause's turn appends -/
theorem Body.last {Y : Cx} {elt : Expr} {te : TE} {D : Addr} (hx : Y.xe = fun _ _ => False) (pe : PE Y elt te) : Body Y [] (lastK elt (.ref D) Y.env) (fun σ H Nx => te σ H fun y H1 => ∃ ys, H1 D = some (.lst ys) ∧ ys.length < sizeLine ∧ Nx (upd H1 D (.lst (ys ++ [y])))) := by
  intro pins s σ H Nx rest R E I h hr
  unfold lastK
  refine wpAny_bind (wpAny_bind (fin0 hx (pe.run pins s σ H _ I h) fun z s1 ⟨y, H1, I1, r1, ys, hD, hz, hn⟩ => ?_))
  refine wpAny_bind (app_ok I1 hD hz r1 fun s2 I2 => wpAny_pure (hr s2 _ I2 hn))
end FP
/-! FP97: a list comprehension whose first clause is walked, the others within (FP96), as an expression; by data. -/
namespace FP
open PySem PySem.Spec PyProof.Rows L2
variable [Tabl]
/-- the whole: D is the new list -/
def tLcN (wi : TI) (g : TG) (tt : TT) (tb : Addr → TB) (vs : List Nat) : TE := fun σ H Q => wi σ H fun J H1 => ∀ D, H1 D = none → tCl g tt (tb D) vs J (L2.wipe σ vs) (upd H1 D (.lst [])) fun H' => Q (.ref D) H'
abbrev blkC (X : Cx) (scope : Scope) (s : Shared) (H : Hp) (C : Addr) (cl : List (Str × Addr)) (fp : List Addr) : Cx := X.blk s H scope (compEnvC scope cl C X.env) fp
theorem pe_lcN {X : Cx} {elt tg iter : Expr} {ifs : List Expr} {gs : List Comprehension} {scope : Scope} {own : List (Str × Nat)} {pos : Pos} {wi : TI} {g : TG} {tt : TT} {us : List Nat} {SK : Addr → PySem.Env → Sem Fin → Sem Fin} {tb : Addr → TB} (hc : X.calm = true) (hN : X.N.Nodup) (hi : PI X tg iter wi) (ok : BlkOk X.N X.env.scope scope own)
    (hg : ∀ s H C cl fp, PG (blkC X scope s H C cl fp) tg g) (ht : ∀ s H C cl fp, PTs (blkC X scope s H C cl fp) ifs tt)
    (hT : ∀ (D : Addr) (env : PySem.Env) (it : Value), compTurn (.ListComp elt (⟨tg, iter, ifs, 0⟩ :: gs) scope pos) 0 it (.ref D) env = turnD tg iter ifs (SK D env) (.ListComp elt (⟨tg, iter, ifs, 0⟩ :: gs) scope pos) 0 it (.ref D) env)
    (hb : ∀ s H C cl fp D, Body (blkC X scope s H C cl fp) us (SK D (blkC X scope s H C cl fp).env) (tb D)) (hu : ∀ i ∈ us, i ∈ own.map (·.2)) (hs : ∀ x, foldedSetIterable iter X.env x = pure x) :
    PE X (.ListComp elt (⟨tg, iter, ifs, 0⟩ :: gs) scope pos) (tLcN wi g tt tb (own.map (·.2))) := by
  refine ⟨fun pins s σ H Q I h => ?_⟩
  rw [eval_ListComp]
  have free : ∀ y ∈ scope.names, y.2 = .free → ∃ c, X.env.cells.lookup y.1 = some c := fun y hy e => (ok.free y hy e).elim (fun k => I.ok.has _ (.inl k)) fun k => I.ok.has _ (.inr k)
  refine wpAny_comprehension_free (use := none) rfl hs (closure_ok free) ok.kind (fun y hy e => by rw [ok.uniq y hy, e]) (thn (hi.run pins s σ H _ I h) fun xv s1 hx => thn hx fun itv s2 h2 => ?_)
  obtain ⟨it, fp, tn, J, H2, rfl, I2, T, st2, f2, q⟩ := h2
  refine wpAny_newObj_type (newEnv_comp ?_) (by show 0 ≤ sizeLine; decide)
  generalize eD : s2.heap.objs.size = D
  have new : H2 D = none := I2.hok.fresh (Nat.le_of_eq eD)
  have walk := q D new
  generalize es : ({ s2 with heap := s2.heap.push { cls := .type "list", data := .seq ([] : List Value).toArray } } : Shared) = s3
  have I3 : Inv X pins σ (upd H2 D (.lst [])) s3 := by
    rw [← es]
    refine I2.laid (t' := s2.toks) (fun b o e => Heap.get?_push_of_some _ e) (Nat.le_of_eq eD) ⟨Nat.zero_le _, [], 0, .nil, ?_⟩
    rw [← eD]
    exact Heap.get?_push_size _ rfl
  have heap3 : s3.heap = s2.heap.push { cls := .type "list", data := .seq ([] : List Value).toArray } := by rw [← es]
  have f3 : ∀ b ∈ fp, FpOk X pins (upd H2 D (.lst [])) b ∧ b < s3.heap.objs.size := fun b hb => by
    obtain ⟨o, e, _⟩ := T.obj _ _ st2 b hb
    have lt := Heap.lt_size e
    refine ⟨⟨?_, (f2 b hb).2⟩, by rw [heap3, Heap.size_push]; exact Nat.lt_succ_of_lt lt⟩
    rw [upd_ne (by rw [← eD]; exact Nat.ne_of_lt lt)]
    exact (f2 b hb).1
  have st3 : tn 0 s3.heap := T.keep _ _ _ st2 fun b _ o e => by rw [heap3]; exact Heap.get?_push_of_some _ e
  have I4 : Inv (blkC X scope s3 (upd H2 D (.lst [])) s3.heap.objs.size (cellsFrom (s3.heap.objs.size + 1) scope.names (cloFrom X.env.cells scope.names [])) fp) [] (L2.wipe σ (own.map (·.2))) (upd H2 D (.lst [])) { s3 with heap := pushCells (s3.heap.push { cls := .type "dict", data := .dict #[] }) scope.names } := block_start I3 ok hN f3
  generalize ecl : cellsFrom (s3.heap.objs.size + 1) scope.names (cloFrom X.env.cells scope.names []) = cl at I4 ⊢
  have pg := hg s3 (upd H2 D (.lst [])) s3.heap.objs.size cl fp
  have pt := ht s3 (upd H2 D (.lst [])) s3.heap.objs.size cl fp
  have pb := hb s3 (upd H2 D (.lst [])) s3.heap.objs.size cl fp D
  generalize eY : blkC X scope s3 (upd H2 D (.lst [])) s3.heap.objs.size cl fp = Y at I4 pg pt pb
  have yc : Y.calm = true := by rw [← eY]; exact hc
  have yx : Y.xe = fun _ _ => False := by rw [← eY]
  have yL : Y.env.locals = s3.heap.objs.size := by rw [← eY]; rfl
  have yP : Y.prog = X.prog ∧ Y.w = X.w ∧ Y.K = X.K ∧ Y.A = X.A := by rw [← eY]; exact ⟨rfl, rfl, rfl, rfl⟩
  have yE : Y.env = compEnvC scope cl s3.heap.objs.size X.env := by rw [← eY]
  show codeAny _ _ (.compStart (.ListComp elt (⟨tg, iter, ifs, 0⟩ :: gs) scope pos) 0 (.ref it) (.ref D) (compEnvC scope cl s3.heap.objs.size X.env)) _ { s3 with heap := pushCells (s3.heap.push { cls := .type "dict", data := .dict #[] }) scope.names }
  rw [← yE]
  generalize e4 : ({ s3 with heap := pushCells (s3.heap.push { cls := .type "dict", data := .dict #[] }) scope.names } : Shared) = s4 at I4 ⊢
  have st4 : tn 0 s4.heap := T.keep _ _ _ st3 fun b _ o e => by rw [← e4]; exact pushCells_keeps _ _ _ _ (Heap.get?_push_of_some _ e)
  have f4 : ∀ b ∈ fp, FpOk Y [] (upd H2 D (.lst [])) b := fun b hb => by
    have hx : b ∈ Y.ex := by rw [← eY]; exact hb
    have hpn : Y.pn = [] := by rw [← eY]
    refine ⟨(f3 b hb).1.1, (I4.ok.exf b hx).1, I4.ok.exfs b hx, .inl hx, fun x c e => (I4.ok.exf b hx).2 x c e, fun p hp => ?_⟩
    rw [hpn] at hp
    cases hp
  obtain ⟨yp, yw, yk, ya⟩ := yP
  have T' : Turn Y.prog Y.w Y.K tg J fp it tn := by rw [yp, yw, yk]; exact T
  have loop := clause_loop (fun it' => hT D Y.env it') yc yx pg pt pb hu T' I4 st4 f4 walk
  rw [yp, yw, ya] at loop
  have post : codeAny (model X.prog X.w) X.A (.compLoop (.ListComp elt (⟨tg, iter, ifs, 0⟩ :: gs) scope pos) 0 (.ref it) (.ref D) Y.env) (compPost (model X.prog X.w) X.A X.xe none (fun v s' => ∃ x H', Inv X pins σ H' s' ∧ RelV x v ∧ Q x H') (.ref D) s3.heap.objs.size) s4 := by
    refine codeAny_mono loop fun r s' hr => ?_
    cases r with
    | error e => exact hr.elim
    | ok f =>
      obtain ⟨rfl, H', I', hq⟩ := hr
      have I'' : Inv (blkC X scope s3 (upd H2 D (.lst [])) s3.heap.objs.size cl fp) [] (L2.wipe (L2.wipe σ (own.map (·.2))) (own.map (·.2))) H' s' := by rw [eY]; exact I'
      have I7 : Inv X pins σ H' s' := I3.call' (ch := fp) I''.os I''.base I''.hok I''.bare fun b hb => ⟨(f3 b hb).1.2.2.2.1, (f3 b hb).1.2.1, (f3 b hb).1.2.2.2.2.1, (f3 b hb).1.2.2.2.2.2⟩
      have nC : H' s3.heap.objs.size = none := by
        have z : H' Y.env.locals = none := I'.free
        rw [yL] at z
        exact z
      obtain ⟨m, hn, _⟩ := I'.loc
      have hn : s'.heap.Ns Y.env.locals m := hn
      rw [yL] at hn
      obtain ⟨f0, f1, f2, f3, f4, f5⟩ := I3.fpOk (Nat.le_refl _) nC
      exact ⟨m, hn, fun h'' sb => ⟨.ref D, H', I7.turned (t' := s'.toks) (fun b o hb e => (sb.2 b hb).trans e) f0 f1 f3 f4 f5, rfl, hq⟩⟩
  exact codeAny_compStart_list post (T.self X.A 0 _ _ _ st4 post)
end FP
/-! FP98: comprehensions of three clauses, by data. -/
namespace FP
open PySem L2
variable [Tabl]
section
variable {ι : Type} {Xs : ι → Cx} {mg : Gm} {Wx : WX} {pos : Pos}
/-- what a clause's turn brings: its results in a row -/
abbrev DTB := Env → (List D → Prop) → Prop
abbrev Tran (mg : Gm) (B : Hp) (W : Wd) (H : Hp) (W' : Wd) (H' : Hp) : Prop := ∀ τ ρ0, EnvR mg B W H τ ρ0 → EnvR mg B W' H' τ ρ0
/-- a clause's turn by data: at most n results -/
def CpB (mg : Gm) (A : Addr) (n : Nat) (tb : TB) (fb : DTB) : Prop := ∀ B ρ K, fb ρ K → ∀ W1 H1 W H σ us acc m Nx, H1 A = none → B A = some (.lst []) → Step W1 H1 W H → EnvR mg B W H σ ρ → AccL mg A W H us acc m → m + n ≤ sizeLine →
  (∀ W' H' vs rs, Step W1 H1 W' H' → Le W W' → Tran mg B W H W' H' → AccL mg A W' H' vs (acc ++ rs) (m + n) → K rs → Nx H') → tb σ H Nx
abbrev dLastB (fe : DTE) : DTB := fun ρ K => fe ρ (fun r => K [r]) F0
theorem CpB.last {A : Addr} {te : TE} {fe : DTE} (he : Cp mg Wx0 te fe) : CpB mg A 1 (fun σ H Nx => te σ H fun y H1 => ∃ ys, H1 A = some (.lst ys) ∧ ys.length < sizeLine ∧ Nx (upd H1 A (.lst (ys ++ [y])))) (dLastB fe) := by
  intro B ρ K hf W1 H1 W H σ us acc m Nx hA hBA s e I hm hN
  refine he B ρ _ F0 hf W σ H _ s.holds e ExR.f0 fun W8 H8 z dz s8 r8 k8 => ?_
  have I8 := I.step s8
  refine ⟨us, I8.h, Nat.lt_of_le_of_lt I.len (Nat.lt_of_lt_of_le (Nat.lt_succ_self m) hm), hN W8 _ (us ++ [z]) [dz] (I8.own (s.trans s8) hA) s8.le (fun τ ρ0 e0 => (e0.step s8).beside hBA) (I8.snoc r8 (Nat.le_refl _)) k8⟩
/-- the invariant of a clause's walk -/
def AccF (mg : Gm) (A : Addr) (W1 : Wd) (H1 : Hp) (B : Hp) (W2 : Wd) (H2 : Hp) (n : Nat) (K : List D → Prop) : Hp → Prop := fun H' => ∃ W' us acc, Step W1 H1 W' H' ∧ Le W2 W' ∧ Tran mg B W2 H2 W' H' ∧ AccL mg A W' H' us acc n ∧ K acc
abbrev bodyB (T : Tg) (ft : DTT) (fb : DTB) (V : List Nat) (ρ : Env) : D → (List D → Prop) → Prop := fun d k => ∃ ρ2, T.put d (wipeD ρ V) = some ρ2 ∧ ft ρ2 (fun b => bit b (fb ρ2 k) (k [])) F0
theorem loopB {A : Addr} {n : Nat} {g : TG} {tt : TT} {tb : TB} {T : Tg} {ft : DTT} {fb : DTB} {vs : List Nat} (hg : CpG mg g T) (hv : ∀ i ∈ T.slots, i ∈ vs) (ht : CpT mg Wx0 tt ft) (hb : CpB mg A n tb fb) {B H1 H2 : Hp} {W1 W2 : Wd} {σ : St} {ρ : Env} {J : It} {ds : List D} {us : List V} {acc : List D} {m : Nat} {K : List D → Prop} {Nx : Hp → Prop} (hA : H1 A = none) (hBA : B A = some (.lst [])) (wk : WalkD mg W2 J ds) (s2 : Step W1 H1 W2 H2) (e2 : EnvR mg B W2 H2 σ ρ) (I : AccL mg A W2 H2 us acc m) (hm : m + ds.length * n ≤ sizeLine) (k : lcS (bodyB T ft fb vs ρ) ds K)
    (hN : ∀ W' H' ws rs, Step W1 H1 W' H' → Le W2 W' → Tran mg B W2 H2 W' H' → AccL mg A W' H' ws (acc ++ rs) (m + ds.length * n) → K rs → J.stop ds.length H' → Nx H') : tCl g tt tb vs J σ H2 Nx := by
  refine ⟨fun i z H' => z = ds.length - i ∧ i ≤ ds.length ∧ AccF mg A W1 H1 B W2 H2 (m + i * n) (fun acc' => ∃ r0, acc' = acc ++ r0 ∧ lcS (bodyB T ft fb vs ρ) (ds.drop i) (fun rs => K (r0 ++ rs))) H', ⟨ds.length, rfl, Nat.zero_le _, W2, us, acc, s2, Le.refl _, fun _ _ e => e, by rw [Nat.zero_mul]; exact I, [], (List.append_nil _).symm, k⟩, ?_⟩
  rintro i z H5 ⟨rfl, hi, W5, us5, acc5, s5, l5, t5, I5, r0, rfl, k5⟩
  obtain ⟨go, stop, yld⟩ := wk W5 H5 l5 s5.holds
  by_cases hlt : i < ds.length
  · refine .inr ⟨go i hlt, AccF mg A W1 H1 B W2 H2 (m + (i + 1) * n) (fun acc' => ∃ r0, acc' = acc ++ r0 ∧ lcS (bodyB T ft fb vs ρ) (ds.drop (i + 1)) (fun rs => K (r0 ++ rs))), fun H' q => ⟨ds.length - (i + 1), by omega, rfl, hlt, q⟩, fun y H6 hy => ?_⟩
    obtain ⟨W6, d, s6, hd, r6⟩ := yld i y H6 hlt hy
    rw [drop_at hd] at k5
    obtain ⟨ρ2, p2, k6⟩ := k5
    refine hg B W6 H6 y d _ _ ρ2 _ s6.holds r6 (((t5 σ ρ e2).step s6).wipe vs) p2 fun σ6 e6 w6 => ?_
    refine ⟨(w6 vs hv).trans (wipe_wipe σ vs), ?_⟩
    refine ht B ρ2 _ _ k6 W6 σ6 H6 _ s6.holds e6 ExR.f0 fun W7 H7 b s7 k7 => ?_
    have s67 := s6.trans s7
    have I7 := I5.step s67
    have en : m + i * n + n = m + (i + 1) * n := by rw [Nat.succ_mul, Nat.add_assoc]
    cases b with
    | true =>
      rw [if_pos rfl]
      have cap : m + i * n + n ≤ sizeLine := by
        rw [en]
        exact Nat.le_trans (Nat.add_le_add_left (Nat.mul_le_mul_right n hlt) m) hm
      refine hb B ρ2 _ k7 W1 H1 W7 H7 σ6 us5 _ (m + i * n) _ hA hBA (s5.trans s67) (e6.step s7) I7 cap fun W8 H8 ws rs s8 l8 t8 I8 k8 => ?_
      refine ⟨W8, ws, _, s8, (l5.trans s67.le).trans l8, fun τ ρ0 e0 => t8 τ ρ0 ((t5 τ ρ0 e0).step s67), by rw [← en]; exact I8, r0 ++ rs, List.append_assoc _ _ _, ?_⟩
      have ek : (fun q => K (r0 ++ rs ++ q)) = fun q => K (r0 ++ (rs ++ q)) := funext fun q => by rw [List.append_assoc]
      rw [ek]
      exact k8
    | false =>
      rw [if_neg Bool.false_ne_true]
      exact ⟨W7, us5, _, s5.trans s67, l5.trans s67.le, fun τ ρ0 e0 => (t5 τ ρ0 e0).step s67, I7.up (by rw [← en]; exact Nat.le_add_right _ _), r0, rfl, k7⟩
  · have ei : i = ds.length := by omega
    subst ei
    rw [List.drop_length] at k5
    have k6 : K (r0 ++ []) := k5
    rw [List.append_nil] at k6
    exact .inl ⟨stop, hN W5 H5 us5 r0 s5 l5 t5 I5 k6 stop⟩
abbrev dMoreB (w : DTI) (T : Tg) (ft : DTT) (fb : DTB) (vs : List Nat) (c : Nat) : DTB := fun ρ K => w ρ (fun ds => ds.length ≤ c ∧ lcS (bodyB T ft fb vs ρ) ds K) F0
theorem CpB.more {A : Addr} {n c : Nat} {wi : TI} {g : TG} {tt : TT} {tb : TB} {w : DTI} {T : Tg} {ft : DTT} {fb : DTB} {vs : List Nat} (hi : CpI mg Wx0 wi w) (hg : CpG mg g T) (hv : ∀ i ∈ T.slots, i ∈ vs) (ht : CpT mg Wx0 tt ft) (hb : CpB mg A n tb fb) : CpB mg A (c * n) (fun σ H Nx => wi σ H fun J H1 => tCl g tt tb vs J σ H1 Nx) (dMoreB w T ft fb vs c) := by
  intro B ρ K hf W1 H1 W H σ us acc m Nx hA hBA s e I hm hN
  refine hi B ρ _ F0 hf W σ H _ s.holds e ExR.f0 fun W2 H2 J ds s2 wk k2 => ?_
  obtain ⟨hc, k2⟩ := k2
  have le : m + ds.length * n ≤ m + c * n := Nat.add_le_add_left (Nat.mul_le_mul_right n hc) m
  exact loopB hg hv ht hb hA hBA wk (s.trans s2) (e.step s2) (I.step s2) (Nat.le_trans le hm) k2 fun W' H' ws rs s' l' t' I' k' _ => hN W' H' ws rs s' (s2.le.trans l') (fun τ ρ0 e0 => t' τ ρ0 (e0.step s2)) (I'.up le) k'
theorem tCl_wipe {g : TG} {tt : TT} {tb : TB} {vs : List Nat} {J : It} {σ : St} {H : Hp} {Nx : Hp → Prop} (h : tCl g tt tb vs J σ H Nx) : tCl g tt tb vs J (L2.wipe σ vs) H Nx := by
  unfold tCl at h ⊢
  rw [wipe_wipe]
  exact h
abbrev dLcN3 (w : DTI) (T : Tg) (ft : DTT) (fb : DTB) (vs : List Nat) (c : Nat) : DTE := fun ρ Q E => w ρ (fun ds => ds.length ≤ c ∧ lcS (bodyB T ft fb vs ρ) ds (fun rs => Q (.lst rs))) E
theorem Cp.lcN {n c : Nat} {wi : TI} {g : TG} {tt : TT} {tb : Addr → TB} {w : DTI} {T : Tg} {ft : DTT} {fb : DTB} {vs : List Nat} (hi : CpI mg Wx wi w) (hg : CpG mg g T) (hv : ∀ i ∈ T.slots, i ∈ vs) (ht : CpT mg Wx0 tt ft) (hb : ∀ A, CpB mg A n (tb A) fb) (hc : c * n ≤ sizeLine) : Cp mg Wx (tLcN wi g tt tb vs) (dLcN3 w T ft fb vs c) := by
  intro B ρ Q E hf W σ H Q' hh e x q
  refine hi B ρ _ E hf W σ H _ hh e x fun W1 H1 J ds s1 wk k1 => ?_
  obtain ⟨hsz, k1⟩ := k1
  intro A hA
  have e1 := (e.step s1).mark (o := .lst []) hA
  have hBA : upd B A (.lst []) A = some (.lst []) := upd_same
  have le : 0 + ds.length * n ≤ sizeLine := by
    rw [Nat.zero_add]
    exact Nat.le_trans (Nat.mul_le_mul_right n hsz) hc
  refine tCl_wipe (loopB (B := upd B A (.lst [])) hg hv ht (hb A) hA hBA wk (Step.lay s1.holds hA) (e1.beside hBA) (.new s1.holds hA) le k1 fun W' H' ws rs s' l' t' I' k' _ => ?_)
  rw [List.nil_append] at I'
  exact q (W'.put A (.lst ws)) H' _ _ (s1.trans (s'.taken hA I'.h I'.w I'.t)) (Rep.newLst I'.r I'.w) k'
theorem de_lc3 {elt t0 i0 t1 i1 t2 i2 : Expr} {f0 f1 f2 : List Expr} {scope : Scope} {own : List (Str × Nat)} {vs1 vs2 : List Nat} {w0 w1 w2 : DTI} {T0 T1 T2 : Tg} {ft0 ft1 ft2 : DTT} {fe : DTE} (c0 c1 c2 : Nat) (hN : ∀ j, (Xs j).N.Nodup) (h0 : DI Xs mg Wx t0 i0 w0) (ok : ∀ j, BlkOk (Xs j).N (Xs j).env.scope scope own) (hg0 : DG (blkF Xs scope) mg t0 T0) (ht0 : DTs (blkF Xs scope) mg Wx0 f0 ft0)
    (h1 : DI (blkF Xs scope) mg Wx0 t1 i1 w1) (hg1 : DG (blkF Xs scope) mg t1 T1) (ht1 : DTs (blkF Xs scope) mg Wx0 f1 ft1) (h2 : DI (blkF Xs scope) mg Wx0 t2 i2 w2) (hg2 : DG (blkF Xs scope) mg t2 T2) (ht2 : DTs (blkF Xs scope) mg Wx0 f2 ft2) (he : DE (blkF Xs scope) mg Wx0 elt fe)
    (hcap : c0 * (c1 * (c2 * 1)) ≤ sizeLine := by rw [PySem.sizeLine_eq]; decide) (hv0 : ∀ i ∈ T0.slots, i ∈ own.map (·.2) := by decide) (hv1 : ∀ i ∈ T1.slots, i ∈ vs1 := by decide) (hv2 : ∀ i ∈ T2.slots, i ∈ vs2 := by decide) (hu2 : ∀ i ∈ vs2, i ∈ vs1 := by decide) (hu1 : ∀ i ∈ vs1, i ∈ own.map (·.2) := by decide) (hc : ∀ j, (Xs j).calm = true := by intro _; rfl)
    (hs0 : ∀ j x, foldedSetIterable i0 (Xs j).env x = pure x := by intro _ _; rfl) (hs1 : ∀ env x, foldedSetIterable i1 env x = pure x := by intro _ _; rfl) (hs2 : ∀ env x, foldedSetIterable i2 env x = pure x := by intro _ _; rfl) : DE Xs mg Wx (lc3 elt t0 i0 t1 i1 t2 i2 f0 f1 f2 scope pos) (dLcN3 w0 T0 ft0 (dMoreB w1 T1 ft1 (dMoreB w2 T2 ft2 (dLastB fe) vs2 c2) vs1 c1) (own.map (·.2)) c0) := by
  obtain ⟨wi0, a1, a2⟩ := h0
  obtain ⟨g0, b1, b2⟩ := hg0
  obtain ⟨tt0, d1, d2⟩ := ht0
  obtain ⟨wi1, e1, e2⟩ := h1
  obtain ⟨g1, k1, k2⟩ := hg1
  obtain ⟨tt1, l1, l2⟩ := ht1
  obtain ⟨wi2, m1, m2⟩ := h2
  obtain ⟨g2, n1, n2⟩ := hg2
  obtain ⟨tt2, o1, o2⟩ := ht2
  obtain ⟨te, q1, q2⟩ := he
  refine ⟨_, fun j => pe_lcN (us := vs1) (SK := fun D env => moreK (lc3 elt t0 i0 t1 i1 t2 i2 f0 f1 f2 scope pos) 1 i1 (.ref D) env) (hc j) (hN j) (a1 j) (ok j) (fun s H C cl fp => b1 (j, s, H, C, cl, fp)) (fun s H C cl fp => d1 (j, s, H, C, cl, fp)) (fun D env it => lc3_turn0 it (.ref D) env) (fun s H C cl fp D => ?_) hu1 (hs0 j), Cp.lcN a2 b2 hv0 d2 (fun A => CpB.more e2 k2 hv1 l2 (CpB.more m2 n2 hv2 o2 (CpB.last q2))) hcap⟩
  exact Body.more (k := 1) rfl (fun it => lc3_turn1 it (.ref D) _) (hc j) rfl (e1 (j, s, H, C, cl, fp)) (k1 (j, s, H, C, cl, fp)) (l1 (j, s, H, C, cl, fp)) (Body.more (k := 2) rfl (fun it => lc3_turn2 it (.ref D) _) (hc j) rfl (m1 (j, s, H, C, cl, fp)) (n1 (j, s, H, C, cl, fp)) (o1 (j, s, H, C, cl, fp)) (Body.last rfl (q1 (j, s, H, C, cl, fp))) (fun _ h => by cases h) (hs2 _)) hu2 (hs1 _)
end
end FP
/-! FP99: set(list of ints), sorted(set(..)), len(set(..)), sorted(ints); index of an int. -/
namespace FP
open PySem L2 PySem.Spec PyProof.Rows
variable [Tabl]
/-- a set of ints that has the members of M -/
def SetI (w : World) (h : Heap) (a : Addr) (M : List Int) : Prop := ∃ S n, SetR w h a S n ∧ (∀ k, S k = true ↔ k ∈ M) ∧ n ≤ M.length
theorem SetI.at {w : World} {h h' : Heap} {a : Addr} {M : List Int} (R : SetI w h a M) (k : ∀ o, h.get? a = some o → h'.get? a = some o) : SetI w h' a M := by
  obtain ⟨S, n, r, hS, hn⟩ := R
  exact ⟨S, n, r.at k, hS, hn⟩
theorem setI_add {P : Program} {w : World} {A : Around} {E : Value → Shared → Prop} {s : Shared} {a : Addr} {M : List Int} {k : Int} {tk : Tok} {Q : Bool → Shared → Prop} (R : SetI w s.heap a M) (room : M.length + 1 < scanBound)
    (hQ : ∀ b h', Heap.SameBut a s.heap h' → SetI w h' a (M ++ [k]) → Q b { s with heap := h' }) : wpAny (model P w) A (setAddHashed a (.int k tk) ((intKind P w).hash k)) Q E s := by
  obtain ⟨S, n, r, hS, hn⟩ := R
  refine setR_add_hashed r (Nat.lt_of_le_of_lt (Nat.succ_le_succ hn) room) fun h' sb r' => hQ _ h' sb ⟨_, _, r', fun j => ?_, ?_⟩
  · rw [Bool.or_eq_true, decide_eq_true_iff, List.mem_append, List.mem_singleton, hS j]
  · rw [List.length_append, List.length_singleton]
    split
    · exact Nat.le_succ_of_le hn
    · exact Nat.succ_le_succ hn
theorem setI_fresh {h : Heap} (w : World) : SetI w (h.push { cls := .type "set", dict := none, data := .set #[] 0 (.fresh 0 0 (!w.params.followText "set-order")) }) h.objs.size [] := ⟨_, 0, setR_fresh w, fun k => by simp, Nat.le_refl _⟩
theorem intsAt : ∀ {us : List Value} {xs : List Int}, IntsAre us xs → ∀ (i : Nat) (v : Value), us[i]? = some v → ∃ t, v = .int (xs.getD i 0) t
  | _, _, .nil, i, v, h => by simp at h
  | _, _, .cons n t hr, 0, v, h => by simp at h; exact ⟨t, by rw [← h]; rfl⟩
  | _, _, .cons n t hr, i + 1, v, h => by
    simp only [List.getElem?_cons_succ] at h
    obtain ⟨t', e⟩ := intsAt hr i v h
    exact ⟨t', by rw [e]; rfl⟩
section
variable {prog : Program} {w : World} {A : Around} {R : Result → Shared → Prop} {I : Addr} {fp wr : List Addr} {G : Array GenState → Array GenState → Prop} {n : Nat} {P : Nat → Value → Prop} {St : Nat → Shared → Prop}
theorem loopI (W : WalksS prog w A.in1 I fp wr G n P St) (S : Addr) (hSf : S ∉ fp) (xs : List Int) (hsz : xs.length = n) (hb : n + 1 < scanBound)
    (hval : ∀ i v, P i v → ∃ t, v = .int (xs.getD i 0) t) :
    ∀ (k i : Nat) (s : Shared), n - i = k → i ≤ n → St i s → SetI w s.heap S (xs.take i) →
      (∀ s', Moved (S :: wr) G s s' → SetI w s'.heap S xs → R (.ok (.ret .none)) s') →
      codeAny (model prog w) A (.builtin "set.update.loop" ⟨[.ref S, .ref I], []⟩) R s := by
  have hSw : S ∉ wr := fun h => hSf (W.sub _ h)
  have hsub : ∀ b ∈ wr, b ∈ S :: wr := fun b hb => List.mem_cons_of_mem _ hb
  intro k
  induction k with
  | zero =>
    intro i s hk hi hst hS hR
    have hin : i = n := by omega
    subst hin
    refine codeAny_builtin PyProof.Rows.F.entry_set_update_loop ?_
    rw [Around.under_plainId PyProof.Rows.F.plain_set_update_loop _]
    show wpAny _ A.in1 (pyNext (.ref I) >>= _) _ _ s
    refine wpAny_bind (W.done s _ _ hst fun s' hm => ?_)
    show wpAny _ A.in1 (ret Value.none) _ _ s'
    rw [List.take_of_length_le (by omega)] at hS
    exact wpAny_pure (hR s' (hm.mono hsub) (hS.at fun o e => hm.heap S o hSw e))
  | succ k ih =>
    intro i s hk hi hst hS hR
    have hlt : i < n := by omega
    refine codeAny_builtin PyProof.Rows.F.entry_set_update_loop ?_
    rw [Around.under_plainId PyProof.Rows.F.plain_set_update_loop _]
    show wpAny _ A.in1 (pyNext (.ref I) >>= _) _ _ s
    refine wpAny_bind (W.item i s _ _ hlt hst fun v s' hP hst' hm => ?_)
    obtain ⟨t, rfl⟩ := hval i v hP
    have hS' := hS.at (h' := s'.heap) fun o e => hm.heap S o hSw e
    show wpAny _ A.in1 (holding [Value.int (xs.getD i 0) t] (setAdd S (.int (xs.getD i 0) t)) >>= _) _ _ s'
    refine wpAny_bind (wpAny_holding ?_)
    unfold setAdd
    refine wpAny_holding ?_
    refine wpAny_bind ((PySem.intKind prog w).pyHash (k := xs.getD i 0) (intKind_is _ _ _ _) ?_)
    refine setI_add (s := { s' with toks := s'.toks + 1 }) hS' (by rw [List.length_take]; omega) fun b h' hsb hS2 => ?_
    have e1 : xs.take i ++ [xs.getD i 0] = xs.take (i + 1) := by
      rw [List.take_add_one, List.getElem?_eq_getElem (by omega), List.getD_eq_getElem?_getD, List.getElem?_eq_getElem (by omega)]
      rfl
    rw [e1] at hS2
    refine wpAny_pure ⟨plainId_quiet PyProof.Rows.F.plain_set_update_loop _, ih (i + 1) _ (by omega) hlt (W.frame _ s' _ _ hst' (Nat.le_succ _) fun b hb o e => ?_) hS2 fun s'' hm'' hS'' => ?_⟩
    · rw [hsb.2 b (fun h : b = S => hSf (by rw [← h]; exact hb))]; exact e
    · refine hR s'' (Moved.trans W.gtrans ((hm.mono hsub).then_heap (Nat.le_succ _) fun b o hb e => ?_) hm'') hS''
      rw [hsb.2 b (fun h : b = S => hb (by rw [h]; exact List.mem_cons_self))]; exact e
end
theorem setI_list {l : Addr} {items : Array Value} {xs : List Int} {Q : Value → Shared → Prop}
    (hh : A.handled = none) (hl : s.heap.IsList l items) (hi : PyProof.Rows.IntsAre items.toList xs) (hb : xs.length + 1 < scanBound)
    (h : ∀ (h' : Heap) (tk : Nat), SetI w h' s.heap.objs.size xs → (∀ b o, b < s.heap.objs.size → s.heap.get? b = some o → h'.get? b = some o) → Q (.ref s.heap.objs.size) { s with heap := h', toks := tk }) :
    wpAny (model prog w) A (call (.type "set") [.ref l]) Q E s := by
  obtain ⟨c, tl, hmro⟩ := PySem.F.called_set.mro
  have hmade := PySem.F.called_set.made
  have hsub := PySem.F.called_set.sub
  refine wpAny_call (codeAny_of_tree ?_)
  show wpAny _ _ (callAny (.type "set") _) _ _ _
  refine wpAny_pure ⟨Code.quiet_builtin _ (by decide +kernel), codeAny_builtin PySem.F.entry_type_call ?_⟩
  rw [Around.under_plain (weight_type_call_type "set" [.ref l] []) rfl]
  have h1 := PySem.F.called_set.notType
  have h2 := PySem.F.called_set.canCreate
  have hct := PySem.F.typeCall_set_1 (.ref l)
  repeat (any_goals (first | assumption | wp_step))
  generalize hled : (!w.params.followText "set-order") = led
  refine codeAny_mono (setNew_led (.ref l) (E := E) (Q₁ := fun obj s₁ => obj = .ref s.heap.objs.size ∧ s₁ = { s with heap := s.heap.push { cls := .type "set", dict := none, data := .set #[] 0 (.fresh 0 0 led) } }) (by rw [hled]; exact ⟨rfl, rfl⟩)) fun r s₁ hr => ?_
  cases r with
  | error e => exact hr
  | ok fl =>
    cases fl with
    | ret obj =>
      obtain ⟨rfl, rfl⟩ := hr
      have hS : (s.heap.push { cls := .type "set", dict := none, data := .set #[] 0 (.fresh 0 0 led) }).get? s.heap.objs.size = some { cls := .type "set", dict := none, data := .set #[] 0 (.fresh 0 0 led) } := Heap.get?_push_size _ rfl
      have hT : Shared.TypeIs { s with heap := s.heap.push { cls := .type "set", dict := none, data := .set #[] 0 (.fresh 0 0 led) } } (.ref s.heap.objs.size) "set" := ⟨_, hS, rfl⟩
      have hli := PySem.F.called_set.init.lookup
      have hbi := PySem.F.called_set.init.bind (.ref s.heap.objs.size)
      repeat (any_goals (first | assumption | wp_step))
      refine codeAny_mono (codeAny_call_builtin (R := wants (fun r s₂ => r = .none ∧ ∃ h' tk, s₂ = { s with heap := h', toks := tk } ∧
          SetI w h' s.heap.objs.size xs ∧ (∀ b o, b < s.heap.objs.size → s.heap.get? b = some o → h'.get? b = some o)) E) PySem.F.called_set.init.plain PySem.F.entry_set_init (check_set_init_1 hT ?_)) fun r₂ s₂ hr₂ => ?_
      · obtain ⟨ol, hol, hcl, nl, hdl⟩ := hl
        obtain ⟨ocls, odict, odata, oslots⟩ := ol
        simp only at hcl hdl
        subst hcl; subst hdl
        have hol' : (s.heap.push { cls := .type "set", dict := none, data := .set #[] 0 (.fresh 0 0 led) }).get? l = some { cls := .type "list", dict := odict, data := .seq items nl, slots := oslots } := Heap.get?_push_of_some _ hol
        have hsls := PySem.F.sub_list_set
        have hslf := PySem.F.sub_list_frozenset
        have hne : (Value.type "list" == Value.type "dict") = false := by decide
        have hl1 : (s.heap.push { cls := .type "set", dict := none, data := .set #[] 0 (.fresh 0 0 led) }).IsList l items := ⟨_, hol', rfl, nl, rfl⟩
        unfold Builtin.«set.__init__» noKeywords Builtin.Frozenset.updateFrom
        generalize hPI : pyIter = PI
        wp_walk
        subst hPI
        refine wpAny_pyIter_list hl1 ?_
        refine wpAny_bind (wpAny_runValue ?_)
        have hlS : l < s.heap.objs.size := Heap.lt_size hol
        have hh3 : A.in1.in1.in1.handled = none := by simp [hh]
        have hneI : l ≠ (s.heap.push { cls := .type "set", dict := none, data := .set #[] 0 (.fresh 0 0 led) }).objs.size := by
          rw [Heap.size_push]; exact Nat.ne_of_lt (Nat.lt_succ_of_lt hlS)
        have hSf : s.heap.objs.size ∉ [(s.heap.push { cls := .type "set", dict := none, data := .set #[] 0 (.fresh 0 0 led) }).objs.size, l] := by
          rw [Heap.size_push]; simp only [List.mem_cons, List.mem_singleton, List.not_mem_nil, or_false, not_or]
          exact ⟨Nat.ne_of_lt (Nat.lt_succ_self _), Nat.ne_of_gt hlS⟩
        have hsz : xs.length = items.size := by rw [← hi.length, Array.length_toList]
        have hval : ∀ (i : Nat) (v : Value), items[i]? = some v → ∃ t, v = .int (xs.getD i 0) t := fun i v hv => intsAt hi i v (by rw [Array.getElem?_toList]; exact hv)
        refine loopI ((Walks.list hh3 _ l hneI items).toS) s.heap.objs.size
          hSf xs hsz (by rw [← hsz]; exact hb) hval (items.size - 0) 0 _ (by omega) (Nat.zero_le _)
          ⟨⟨_, Heap.get?_push_size _ rfl, rfl, rfl⟩, (hl1.push _)⟩ ?hS0 ?hR
        case hS0 =>
          rw [List.take_zero, ← hled]
          exact (setI_fresh w).at fun o e => Heap.get?_push_of_some _ e
        case hR =>
          intro s' hm hS'
          obtain ⟨h', g', d', tk', os'⟩ := s'
          have eg : g' = s.gens := hm.gens
          have ed : d' = s.drawn := hm.drawn
          have eo : os' = s.os := hm.os
          subst eg; subst ed; subst eo
          show wpAny _ _ _ _ _ _
          refine wpAny_pure ?_
          show wpAny _ _ (ret Value.none) _ _ _
          refine wpAny_pure ⟨rfl, h', tk', rfl, hS', fun b o hb e => ?_⟩
          have hb1 : b ≠ s.heap.objs.size := Nat.ne_of_lt hb
          have hb2 : b ≠ (s.heap.push { cls := .type "set", dict := none, data := .set #[] 0 (.fresh 0 0 led) }).objs.size := by
            rw [Heap.size_push]; exact Nat.ne_of_lt (Nat.lt_succ_of_lt hb)
          exact hm.heap b o (by simp only [List.mem_cons, List.mem_singleton, List.not_mem_nil, or_false, not_or]; exact ⟨hb1, hb2⟩) (Heap.get?_push_of_some _ (Heap.get?_push_of_some _ e))
      · cases r₂ with
        | error e => exact hr₂
        | ok fl₂ =>
          cases fl₂ with
          | ret r =>
            obtain ⟨rfl, h', tk, rfl, hS', hk'⟩ := hr₂
            repeat (any_goals (first | assumption | wp_step))
            exact h _ _ hS' hk'
          | _ => exact hr₂.elim
    | _ => exact hr.elim
/-! ### the order of ints, pure -/
def insI (x : Int) : List Int → List Int
  | [] => [x]
  | y :: r => if y < x then y :: insI x r else x :: y :: r
def sortI : List Int → List Int
  | [] => []
  | x :: r => insI x (sortI r)
theorem insI_perm (x : Int) : ∀ l, (insI x l).Perm (x :: l)
  | [] => .refl _
  | y :: r => by
    unfold insI
    split
    · exact ((insI_perm x r).cons y).trans (.swap ..)
    · exact .refl _
theorem sortI_perm : ∀ l, (sortI l).Perm l
  | [] => .refl _
  | x :: r => (insI_perm x _).trans ((sortI_perm r).cons x)
abbrev UpI (l : List Int) : Prop := l.Pairwise (· ≤ ·)
theorem insI_up {x : Int} : ∀ {l}, UpI l → UpI (insI x l)
  | [], _ => List.pairwise_singleton _ _
  | y :: r, h => by
    obtain ⟨h1, h2⟩ := List.pairwise_cons.mp h
    unfold insI
    split
    · rename_i q
      refine List.pairwise_cons.mpr ⟨fun z hz => ?_, insI_up h2⟩
      rcases List.mem_cons.mp ((insI_perm x r).mem_iff.mp hz) with e | e
      · rw [e]; omega
      · exact h1 z e
    · rename_i q
      refine List.pairwise_cons.mpr ⟨fun z hz => ?_, h⟩
      rcases List.mem_cons.mp hz with e | e
      · rw [e]; omega
      · have := h1 z e
        omega
theorem sortI_up : ∀ l, UpI (sortI l)
  | [] => .nil
  | x :: r => insI_up (sortI_up r)
theorem upI_eq {l l' : List Int} (h : UpI l) (h' : UpI l') (p : l.Perm l') : l = l' := List.Perm.eq_of_pairwise (fun a b _ _ x y => Int.le_antisymm x y) h h' p
def nubI : List Int → List Int
  | [] => []
  | x :: r => if x ∈ nubI r then nubI r else x :: nubI r
theorem nubI_mem {k : Int} : ∀ {l}, k ∈ nubI l ↔ k ∈ l
  | [] => Iff.rfl
  | x :: r => by
    unfold nubI
    split
    · rename_i h
      rw [nubI_mem, List.mem_cons]
      exact ⟨.inr, fun z => z.elim (fun e => by rw [e]; exact nubI_mem.mp h) id⟩
    · rw [List.mem_cons, List.mem_cons, nubI_mem]
theorem nubI_nodup : ∀ l, (nubI l).Nodup
  | [] => .nil
  | x :: r => by
    unfold nubI
    split
    · exact nubI_nodup r
    · rename_i h
      exact List.nodup_cons.mpr ⟨h, nubI_nodup r⟩
/-- sorted(set(l)) -/
def sortUI (l : List Int) : List Int := sortI (nubI l)
theorem sortUI_mem {k : Int} {l : List Int} : k ∈ sortUI l ↔ k ∈ l := by
  unfold sortUI
  rw [(sortI_perm _).mem_iff, nubI_mem]
theorem nodup_permI {l l' : List Int} (h : l.Nodup) (h' : l'.Nodup) (m : ∀ k, k ∈ l ↔ k ∈ l') : l.Perm l' := by
  rw [List.perm_iff_count]
  intro a
  rw [h.count, h'.count]
  by_cases q : a ∈ l
  · rw [if_pos q, if_pos ((m a).mp q)]
  · rw [if_neg q, if_neg fun z => q ((m a).mpr z)]
theorem upI_of_lt {l : List Int} (h : l.Pairwise (· < ·)) : UpI l := h.imp fun x => Int.le_of_lt x
theorem sortUI_eq {l xs : List Int} (h : l.Pairwise (· < ·)) (m : ∀ k, k ∈ l ↔ k ∈ xs) : l = sortUI xs :=
  upI_eq (upI_of_lt h) (sortI_up _) (nodup_permI (h.imp fun {a b} x => Int.ne_of_lt x) ((sortI_perm _).nodup_iff.mpr (nubI_nodup xs)) fun k => (m k).trans sortUI_mem.symm)
theorem sortI_eq {l xs : List Int} (h : UpI l) (p : l.Perm xs) : l = sortI xs := upI_eq h (sortI_up _) (p.trans (sortI_perm xs).symm)
/-! ### the rules -/
section
variable {X : Cx}
def rSetLI (K : PySem.W.Frag) (w : World) : List V → Hp → VK → Prop := fun vs H Q => ∃ (l : Addr) (xs : List Int), vs = [V.ref l] ∧ SqL K H l (xs.map V.int) ∧ xs.length + 1 < scanBound ∧ ∀ p S n, H p = none → (∀ k, S k = true ↔ k ∈ xs) → n ≤ xs.length → Q (.ref p) (upd H p (SetO w p S n))
theorem cr_setLI (hc : X.calm = true) : CallR X (.type "set") (rSetLI X.K X.w) := by
  intro pins s σ H vs us Q I r h
  obtain ⟨a, xs, rfl, hs, hb, q⟩ := h
  obtain ⟨its, rv, hl, _⟩ := I.list hs
  rw [Vals.ref1 r]
  refine setI_list (I.ok.hd hc) hl.isList rv.ints hb fun h' tk new k => ?_
  obtain ⟨S, n, new, hS, hn⟩ := new
  exact ⟨.ref _, upd H s.heap.objs.size (SetO X.w s.heap.objs.size S n), I.laid (t' := tk) (fun b u e => k b u (Heap.lt_size e) e) (Nat.le_refl _) (setO_new new), rfl, q _ S n (I.hok.fresh (Nat.le_refl _)) hS hn⟩
end
theorem cr_setLIK {X : Cx} {K : PySem.W.Frag} {w : World} (h : X.K = K) (hw : X.w = w) (hc : X.calm = true) : CallR X (.type "set") (rSetLI K w) := by
  subst h hw
  exact cr_setLI hc
theorem cr_sortedSetK {X : Cx} {w : World} (hw : X.w = w) (hc : X.calm = true) : CallR X (.builtin "sorted") (rSortedSet w) := by
  subst hw
  exact cr_sortedSet hc
theorem cr_sortedIK {X : Cx} {K : PySem.W.Frag} (h : X.K = K) : CallR X (.builtin "sorted") (rSortedI K) := by
  subst h
  exact cr_sortedI
end FP
/-! FP100: tuple * int; sets of ints and ints in order, by data; an index; dicts of own lists. -/
namespace FP
open PySem PySem.Spec PyProof.Rows L2
variable [Tabl]
/-! ### tuple * 1 -/
theorem tuple_mulSame (l : Addr) (items : Array Value) (n : Nat) (dd : Option Addr) (sl : Array (Option Value)) (x : Int) (u : Tok) (c0 : (decide (x < -(2 ^ 63)) || decide (x ≥ 2 ^ 63)) = false) (c1 : (items.isEmpty || x == 1) = true) :
    Meets (Builtin.«tuple.__mul__» ⟨[.ref l, .int x u], []⟩) (fun _ R s => s.heap.get? l = some { cls := .type "tuple", dict := dd, data := .seq items n, slots := sl } ∧ R (.ok (.ret (Value.ref l))) s) :=
  .of_wp fun prog w A R s h => by
    obtain ⟨hp, g, d, tk, os⟩ := s
    obtain ⟨hl, h⟩ := h
    have f1 := AutoSeq1.idx_int
    wp_walk using wpAny_loadPart' hl
    repeat (first
      | (refine wpAny_ite_false (decide_eq_false (by rw [c0]; exact Bool.false_ne_true)) ?_; wp_walk using wpAny_loadPart' hl)
      | (refine wpAny_ite_true (decide_eq_true c1) ?_; wp_walk using wpAny_loadPart' hl))
    exact ⟨_, rfl, h⟩
def rRepT1 (K : PySem.W.Frag) : R2 := fun x y H Q => ∃ l xs, x = .ref l ∧ y = .int 1 ∧ SqT K H l xs ∧ Q (.ref l) H
theorem op_repT1 {X : Cx} : OpR X (binaryOp .Mult) (rRepT1 X.K) := by
  intro pins s σ H x y v u Q I rx ry h
  obtain ⟨l, xs, rfl, rfl, hT, q⟩ := h
  cases rx
  obtain ⟨t, rfl⟩ := ry
  obtain ⟨its, r, ⟨⟨cls, dd, data, sl⟩, ho, hc, n, hd⟩, hs⟩ := I.tuple hT
  simp only at hc hd
  subst hc hd
  exact wpAny_binaryOp_repeat_ref (T := "tuple") (U := "int") (by decide) ⟨_, ho, rfl⟩ (fun s' => typeIs_int s' 1 t) noFill_tuple_mul F.fills_int_mul F.slot_int_rmul repeat_tuple F.slot_int_index.lookup
    (call_meets F.slot_int_rmul (typeIs_int s 1 t) F.entry_int_rmul (F.args_int_rmul_2 _ _) (int_rmul_tuple 1 t l its.toArray n dd sl)
      ⟨ho, rfl, ⟨_, ho, rfl⟩, call_meets F.slot_tuple_mul ⟨_, ho, rfl⟩ F.entry_tuple_mul (F.args_tuple_mul_2 _ _) (tuple_mulSame l its.toArray n dd sl 1 t (by decide) (by rw [Bool.or_eq_true]; exact .inr rfl)) ⟨ho, .ref l, H, I, rfl, q⟩⟩)
end FP
namespace FP
open PySem L2
variable [Tabl]
theorem op_repT1K {X : Cx} {K : PySem.W.Frag} (h : X.K = K) : OpR X (binaryOp .Mult) (fun x y H Q => rRepT1 K x y H Q ∨ rRepT K x y H Q) := by
  subst h
  exact OpR.or op_repT1 op_repT
section
variable {ι : Type} {Xs : ι → Cx} {mg : Gm} {Wx : WX} {pos : Pos}
def rdRepT1 : RD2 := fun x y Q => match x, y with
  | .tup xs, .int k => xs ≠ [] ∧ 1 ≤ k ∧ k ≤ 1000 ∧ xs.length ≤ 1000 ∧ Q (.tup (List.replicate k.toNat xs).flatten)
  | _, _ => False
theorem Reps.repT {W : Wd} {vs : List V} {ds : List D} (r : Reps mg W vs ds) : ∀ n : Nat, Reps mg W (List.replicate n vs).flatten (List.replicate n ds).flatten
  | 0 => .nil
  | n + 1 => by
    rw [List.replicate_succ, List.replicate_succ, List.flatten_cons, List.flatten_cons]
    exact r.append (Reps.repT r n)
theorem ok_repT1 (hK : ∀ j, (Xs j).K = mg.K := by intro _; rfl) : OpOk Xs mg (binaryOp .Mult) rdRepT1 := by
  refine OpOk.mk (fun j => op_repT1K (hK j)) ?_
  intro W H x y dx dy Q Q' P hh rx ry h q hP
  cases rx with
  | @tup a vs ds ha ra =>
    cases ry with
    | int k =>
      delta rdRepT1 at h
      dsimp only at h
      obtain ⟨h1, h2, h3, h4, h5⟩ := h
      by_cases hk : k = 1
      · subst hk
        refine hP _ _ (.inl ⟨a, vs, rfl, rfl, SqT.of (hh.same _ _ ha), ?_⟩)
        have e : (List.replicate (Int.toNat 1) ds).flatten = ds := by
          show (List.replicate 1 ds).flatten = ds
          rw [List.replicate_one, List.flatten_singleton]
        rw [e] at h5
        exact q W H _ _ (Step.refl hh) (.tup ha ra) h5
      · refine hP _ _ (.inr ⟨a, k, vs, rfl, rfl, SqT.of (hh.same _ _ ha), fun e => ?_, by omega, h3, by rw [ra.length]; exact h4, to_tup q hh (ra.repT _) h5⟩)
        subst e
        cases ra
        exact h1 rfl
    | _ => exact False.elim h
  | _ => exact False.elim h
/-! ### ints in order -/
def rdSortI : RDL := fun ds Q => match ds with
  | [.lst xs] => ∃ ns, intsD xs = some ns ∧ Q (.lst ((sortI ns).map .int))
  | _ => False
theorem ok_sortI (hK : ∀ j, (Xs j).K = mg.K := by intro _; rfl) : CallOk Xs mg (.builtin "sorted") rdSortI := by
  refine CallOk.mk (fun j => cr_sortedIK (hK j)) ?_
  intro W H vs ds Q Q' P hh r h q hP
  cases r with
  | nil => exact False.elim h
  | cons r rs =>
    cases r with
    | lst ha ra =>
      cases rs with
      | nil =>
        delta rdSortI at h
        dsimp only at h
        obtain ⟨ns, h1, h2⟩ := h
        have e := intsD_v ra h1
        subst e
        refine hP _ ⟨_, ns, rfl, SqL.of (hh.same _ _ ha), fun ns' p hp hu hn => ?_⟩
        rw [sortI_eq hu hp]
        exact to_lst q hh (Reps.ints _) h2 p hn
      | cons => exact False.elim h
    | _ => exact False.elim h
abbrev dSortSetI (f : DTE) : DTE := fun ρ Q E => f ρ (fun x => match x with
  | .lst xs => ∃ ss, intsD xs = some ss ∧ ss.length < 64 ∧ Q (.lst ((sortUI ss).map .int))
  | _ => False) E
theorem de_sortSetI {w : World} {e : Expr} {f : DTE} {p p2 q : Pos} (h : DE Xs mg Wx e f) (hm : mg.mg "sorted" = none) (hm2 : mg.mg "set" = none) (hv : bootBuiltins "sorted" = some (.builtin "sorted")) (hv2 : bootBuiltins "set" = some (.type "set"))
    (hw : ∀ j, (Xs j).w = w := by intro _; rfl) (hK : ∀ j, (Xs j).K = mg.K := by intro _; rfl) (hM : ∀ j, (Xs j).mg = mg.mg := by intro _; rfl) (hc : ∀ j, (Xs j).calm = true := by intro _; rfl) (hg : ∀ j, Gl (Xs j) "sorted" := by intro _; rfl) (hg2 : ∀ j, Gl (Xs j) "set" := by intro _; rfl)
    (he : ∀ j, starEach [e] (Xs j).env = [(false, eval e (Xs j).env)] := by intro _; rfl)
    (he2 : ∀ j, starEach [.Call (.Name "set" p2) [e] [] q] (Xs j).env = [(false, eval (.Call (.Name "set" p2) [e] [] q) (Xs j).env)] := by intro _; rfl) :
    DE Xs mg Wx (.Call (.Name "sorted" p) [.Call (.Name "set" p2) [e] [] q] [] pos) (dSortSetI f) := by
  obtain ⟨t, h1, h2⟩ := h
  refine ⟨tCB (rSortedSet w) (tCons (tCB (rSetLI mg.K w) (tCons t tNil)) tNil), fun j => ?_, ?_⟩
  · exact pe_callB (cr_sortedSetK (hw j) (hc j)) (hg j) (by rw [hM j]; exact hm) hv (pa_cons (pe_callTy (cr_setLIK (hK j) (hw j) (hc j)) (hg2 j) (by rw [hM j]; exact hm2) hv2 (pa_cons (h1 j) pa_nil (he j)) (by decide) (by decide) (he j) rfl) pa_nil (he2 j)) (by decide) (by decide) (he2 j) rfl
  · intro B ρ Q E hf W σ H Q' hh e x q
    refine h2 B ρ _ E hf W σ H _ hh e x fun W1 H1 v d s1 r1 k1 => ?_
    obtain ⟨xs, rfl, ss, g1, g2, g3⟩ := lstOf k1
    obtain ⟨a, vs, rfl, ha, ra⟩ := r1.lstI
    have ev := intsD_v ra g1
    subst ev
    refine ⟨_, ss, rfl, SqL.of (s1.holds.same _ _ ha), (show ss.length + 1 < 4096 by omega), fun p1 S n n1 hS hn => ⟨p1, S, n, rfl, upd_same, by omega, fun ns p2 hu hm _ n2 => ?_⟩⟩
    have s2 := s1.trans (Step.lay s1.holds (o := SetO w p1 S n) n1)
    have en : ns = sortUI ss := sortUI_eq hu fun k => (hm k).trans (hS k)
    rw [en]
    exact to_lst (ToV.step q s2) s2.holds (Reps.ints _) g3 p2 n2
/-! ### where an int stands -/
abbrev dIndexI (f g : DTE) : DTE := fun ρ Q E => f ρ (fun x => match x with
  | .lst xs => g ρ (fun y => match y with
    | .int k => ∃ ns j, intsD xs = some ns ∧ ns[j]? = some k ∧ (∀ m, m < j → ns[m]? ≠ some k) ∧ Q (.int (j : Nat))
    | _ => False) E
  | _ => False) E
theorem de_indexI {o e : Expr} {f g : DTE} {apos : Pos} (ho : DE Xs mg Wx o f) (he : DE Xs mg Wx e g)
    (pe : ∀ j t u, PE (Xs j) o t → PE (Xs j) e u → PE (Xs j) (.Call (.Attribute o "index" apos) [e] [] pos) (tBM (Xs j).K "list" (rIndex (Xs j).K) t (tCons u tNil))) (hK : ∀ j, (Xs j).K = mg.K := by intro _; rfl) : DE Xs mg Wx (.Call (.Attribute o "index" apos) [e] [] pos) (dIndexI f g) := by
  obtain ⟨t, a1, a2⟩ := ho
  obtain ⟨u, b1, b2⟩ := he
  refine ⟨tBM mg.K "list" (rIndex mg.K) t (tCons u tNil), fun j => by rw [← hK j]; exact pe j t u (a1 j) (b1 j), fun B ρ Q E hf W σ H Q' hh e x q => ?_⟩
  refine a2 B ρ _ E hf W σ H _ hh e x fun W1 H1 v d s1 r1 k1 => ?_
  obtain ⟨xs, rfl, k1⟩ := lstOf k1
  obtain ⟨a, vs, rfl, ha, ra⟩ := r1.lstI
  refine ⟨.inl ⟨rfl, _, SqL.of (s1.holds.same _ _ ha)⟩, ?_⟩
  refine b2 B ρ _ E k1 W1 σ H1 _ s1.holds (e.step s1) (x.step s1) fun W2 H2 v2 d2 s2 r2 k2 => ?_
  obtain ⟨k, rfl, ns, j, h1, h2, h3, h4⟩ := intOf k2
  have ey := r2.intI
  subst ey
  have ev := intsD_v ra h1
  subst ev
  have hget : ∀ (m : Nat) (z : V), (ns.map V.int)[m]? = some z → ∃ i, ns[m]? = some i ∧ z = .int i := fun m z hz => by
    rw [List.getElem?_map] at hz
    cases qm : ns[m]? with
    | none => rw [qm] at hz; cases hz
    | some i =>
      rw [qm] at hz
      exact ⟨i, rfl, (Option.some.inj hz).symm⟩
  refine ⟨a, ns.map V.int, .int k, j, .int k, rfl, rfl, SqL.of (s2.holds.same _ _ (s2.le.h _ _ ha)), rfl, ?_, by rw [List.getElem?_map, h2]; rfl, ?_, fun m z' hm hz => ?_, q W2 H2 _ _ (s1.trans s2) (.int _) h4⟩
  · rw [List.all_eq_true]
    intro z hz
    obtain ⟨i, _, rfl⟩ := List.mem_map.mp hz
    rfl
  · unfold eqV
    simp
  · obtain ⟨i, hi, rfl⟩ := hget m z' hz
    have ne : i ≠ k := fun e => h3 m hm (by rw [hi, e])
    unfold eqV
    simp [ne]
end
end FP
/-! FP101: own lists in an own dict; a set of texts as one's own. -/
namespace FP
open PySem L2
variable [Tabl]
section
variable {mg : Gm} {B : Hp} {W W' : Wd} {H H' : Hp} {σ : St} {ρ : Env}
/-- the inner lists become data, the dict stays one's own -/
theorem EnvR.dlOd (e : EnvR mg B W H σ ρ) {i : Nat} {as : List Addr} {kvs : List (Key × List D)} (hi : ρ[i]? = some (.o2 as (.dl kvs))) : ∃ Ls, (∀ b ∈ Ls, W.H b = none ∧ ¬ W.T b ∧ B b = none) ∧ EnvR mg B (W.seen H Ls) H σ (ρ.set i (.od (kvs.map fun p => (p.1, .lst p.2)))) := by
  obtain ⟨o, h1, a, Ls, ea, ho, ⟨h2, h3⟩, nd, h5⟩ := e.sl i _ hi
  subst ea
  subst ho
  have k : ∀ b ∈ a :: Ls, W.H b = none ∧ ¬ W.T b ∧ B b = none := fun b hb => (h5 b hb).2
  have kL : ∀ b ∈ Ls, W.H b = none ∧ ¬ W.T b ∧ B b = none := fun b hb => k b (List.mem_cons_of_mem _ hb)
  obtain ⟨a1, a2, a3⟩ := k a List.mem_cons_self
  have hl : (kvs.map (·.1)).length = (Ls.map V.ref).length := by
    rw [List.length_map, List.length_map, h3.1, List.length_map]
  refine ⟨Ls, kL, e.seenW hi h1 (fun b h => List.mem_cons_of_mem _ h) (fun b hb => ?_) ⟨a, _, rfl, h2, ?_, a2, a3, ?_, ?_⟩⟩
  · rw [List.mem_singleton.mp hb]
    exact List.mem_cons_self
  · show (if a ∈ Ls then H a else W.H a) = none
    rw [if_neg (List.nodup_cons.mp nd).1]
    exact a1
  · rw [List.map_fst_zip (Nat.le_of_eq hl), List.map_map]
    rfl
  · rw [List.map_snd_zip (Nat.le_of_eq hl.symm), List.map_map]
    have em : kvs.map ((fun x : Key × D => x.2) ∘ fun p : Key × List D => (p.1, D.lst p.2)) = (kvs.map (·.2)).map D.lst := by
      rw [List.map_map]
      rfl
    rw [em]
    refine Reps.lsts h3.1 fun i l xs q1 q2 => ?_
    obtain ⟨vs, g1, g2⟩ := h3.2 i l xs q1 q2
    exact ⟨vs, by rw [seen_in (List.mem_of_getElem? q1)]; exact g1, g2.mono (seen_le fun b hb => (kL b hb).1)⟩
end
theorem val_zip {k : Key} : ∀ {ks : List Key} {vs : List V} {n : Nat} {v : V}, ks[n]? = some k → (∀ m, m < n → ks[m]? ≠ some k) → vs[n]? = some v → valV (ks.zip vs) k = some v
  | [], _, _, _, h, _, _ => by cases h
  | _ :: _, [], _, _, _, _, h => by cases h
  | a :: ks, b :: vs, 0, v, h1, _, h2 => by
    have e1 : a = k := Option.some.inj h1
    have e2 : b = v := Option.some.inj h2
    subst e1
    subst e2
    show ((List.find? _ ((a, b) :: ks.zip vs)).map (·.2)) = some b
    rw [List.find?_cons_of_pos (p := fun kv : Key × V => decide (kv.1 = a)) (decide_eq_true rfl)]
    rfl
  | a :: ks, b :: vs, n + 1, v, h1, h0, h2 => by
    have ne : ¬ a = k := fun e => h0 0 (Nat.succ_pos n) (congrArg some e)
    show ((List.find? _ ((a, b) :: ks.zip vs)).map (·.2)) = some v
    rw [List.find?_cons_of_neg (p := fun kv : Key × V => decide (kv.1 = k)) (by simpa using ne)]
    exact val_zip (ks := ks) (vs := vs) (n := n) (by simpa using h1) (fun m hm q => h0 (m + 1) (Nat.succ_lt_succ hm) (by simpa using q)) (by simpa using h2)
theorem merge2 {a b : Key} {x y : V} (h : a ≠ b) : mergeK [] [(a, x), (b, y)] = [(a, x), (b, y)] := by
  unfold mergeK putK
  simp [h]
section
variable {ι : Type} {Xs : ι → Cx} {mg : Gm} {Wx : WX} {pos : Pos}
abbrev dUpD (i : Nat) (f : DTS) : DTS := fun N ρ => match ρ[i]? with
  | some (.o2 _ (.dl kvs)) => f N (ρ.set i (.od (kvs.map fun p => (p.1, .lst p.2))))
  | _ => False
theorem ds_upD (i : Nat) {st : Stmt} {f : DTS} (h : DS Xs mg Wx st f) : DS Xs mg Wx st (dUpD i f) := by
  obtain ⟨t, h1, h2⟩ := h
  refine ⟨t, h1, fun W0 B N ρ hf W σ H Ds s e n => ?_⟩
  unfold dUpD at hf
  split at hf
  · rename_i as kvs hx
    obtain ⟨Ls, k, e1⟩ := e.dlOd hx
    exact h2 W0 B N _ hf _ σ H Ds (s.seen fun b hb => ⟨(k b hb).2.2, (k b hb).1, (k b hb).2.1⟩) e1 n
  · exact hf.elim
/-! ### x = {k: [..], k2: [..]} of new lists -/
abbrev dSetDL (i : Nat) (k1 k2 : Str) (g1 g2 : DTA) : DTS := fun N ρ => g1 ρ (fun xs => g2 ρ (fun ys => ∀ as, N.nx (ρ.set i (.o2 as (.dl [(.inr k1, xs), (.inr k2, ys)])))) (fun x => N.rs x ρ)) (fun x => N.rs x ρ)
theorem ds_setDL {i : Nat} {x k1 k2 : Str} {v1 v2 : Expr} {g1 g2 : DTA} {px kp1 kp2 dp : Pos} {j1 j2 : Nat} (h1 : DO Xs mg Wx v1 g1) (h2 : DO Xs mg Wx v2 g2) (hN : ∀ j, (Xs j).N.Nodup) (hk : k1 ≠ k2 := by decide +kernel) (hi : ∀ j, (Xs j).N[i]? = some x := by intro _; rfl) (hx : ∀ j, Loc (Xs j).env.scope x := by intro _; first | exact Or.inl rfl | exact Or.inr rfl)
    (hs : ∀ j, swapsWith (.Dict [some (.Constant (.str k1) j1 kp1), some (.Constant (.str k2) j2 kp2)] [v1, v2] dp) (some (.Name x px)) pos.line (Xs j).env = pure false := by intro _; rfl) (hf : ∀ j, (Xs j).fn x = true ∨ (Xs j).env.scope.names.lookup x = some .local := by intro _; first | exact .inl rfl | exact .inr rfl) :
    DS Xs mg Wx (.Assign [.Name x px] (.Dict [some (.Constant (.str k1) j1 kp1), some (.Constant (.str k2) j2 kp2)] [v1, v2] dp) pos) (dSetDL i k1 k2 g1 g2) := by
  obtain ⟨t1, a1, a2⟩ := h1
  obtain ⟨t2, b1, b2⟩ := h2
  refine ⟨_, fun j => ps_set (i := i) (hN j) (hi j) (hx j) (pe_disp (pps_cons pe_str (a1 j) (pps_cons pe_str (b1 j) pps_nil)) rfl rfl (by intro h; cases h) (show 2 ≤ 15 by decide)) (hs j) (hf j), fun W0 B N ρ hf W σ H Ds s e n => ?_⟩
  intro p hp
  have s0 := Step.lay s.holds hp (o := .dK [])
  have x0 := n.ex (s.trans s0) (e.step s0)
  refine a2 B ρ _ _ hf W σ (upd H p (.dK [])) _ s0.holds (e.step s0) x0 fun W1 H1 p1 vs1 xs s1 n1 r1 k1' => ?_
  have sl1 := Step.lay s1.holds n1 (o := .lst vs1)
  have s01 := (s0.trans s1).trans sl1
  refine b2 B ρ _ _ k1' W1 σ _ _ sl1.holds (e.step s01) (n.ex (s.trans s01) (e.step s01)) fun W2 H2 p2 vs2 ys s2 n2 r2 k2' => ?_
  have sl2 := Step.lay s2.holds n2 (o := .lst vs2)
  have s02 := (s01.trans s2).trans sl2
  obtain ⟨c1, c2, c3⟩ := (((s1.trans sl1).trans s2).trans sl2).mine (a := p) upd_same (s.holds.same.free hp) (s.holds.nT hp)
  obtain ⟨d1, d2, d3⟩ := (s2.trans sl2).mine (a := p1) upd_same (s1.holds.same.free n1) (s1.holds.nT n1)
  have f2 := s2.holds.same.free n2
  have t2' := s2.holds.nT n2
  have np1 : p ≠ p1 := fun q => by
    have := (s1.mine (a := p) upd_same (s.holds.same.free hp) (s.holds.nT hp)).1
    rw [q, n1] at this
    cases this
  have np2 : p ≠ p2 := fun q => by
    have := ((s1.trans sl1).trans s2).mine (a := p) upd_same (s.holds.same.free hp) (s.holds.nT hp)
    rw [q, n2] at this
    cases this.1
  have n12 : p1 ≠ p2 := fun q => by
    have := s2.mine (a := p1) upd_same (s1.holds.same.free n1) (s1.holds.nT n1)
    rw [q, n2] at this
    cases this.1
  have hb : ∀ {Wq : Wd} {Hq : Hp} {q : Addr}, Step W H Wq Hq → Hq q = none → H q = none := fun {Wq Hq q} st hq => by
    cases z : H q with
    | none => rfl
    | some o =>
      obtain ⟨o', e'⟩ := st.live q o z
      rw [e'] at hq
      cases hq
  have o1 : H p1 = none := hb (s0.trans s1) n1
  have o2 : H p2 = none := hb (s01.trans s2) n2
  have nk : (Sum.inr k1 : Key) ≠ Sum.inr k2 := fun q => hk (Sum.inr.inj q)
  refine ⟨c1, [(Sum.inr k1, V.ref p1), (Sum.inr k2, V.ref p2)], rfl, show 2 ≤ 15 by decide, ?_⟩
  rw [merge2 nk]
  have s3 : Step W H W2 (upd (upd H2 p2 (.lst vs2)) p (.dK [(Sum.inr k1, V.ref p1), (Sum.inr k2, V.ref p2)])) := s02.own hp c1 c2 c3
  refine n.nx W2 _ _ _ (s.trans s3) ((e.step s3).move (fun j t o' b _ q1 q2 m m' => ?_) (s := .o2 [p, p1, p2] (.dl [(.inr k1, xs), (.inr k2, ys)])) ⟨p, [p1, p2], rfl, rfl, ⟨upd_same, rfl, fun m l zs q1 q2 => ?_⟩, ?_, fun b hb' => ?_⟩) (k2' _)
  · obtain ⟨o2', q3, q4⟩ := e.sl j _ q1
    rw [q2] at q3
    cases q3
    obtain ⟨u, hu, _⟩ := q4.at m
    have m2 : b ∈ [p, p1, p2] := m'
    have : b = p ∨ b = p1 ∨ b = p2 := by simpa using m2
    rcases this with rfl | rfl | rfl
    · rw [hp] at hu; cases hu
    · rw [o1] at hu; cases hu
    · rw [o2] at hu; cases hu
  · match m, q1, q2 with
    | 0, q1, q2 =>
      cases q1
      cases q2
      exact ⟨vs1, by rw [upd_ne (Ne.symm np1)]; exact d1, r1.mono s2.le⟩
    | 1, q1, q2 =>
      cases q1
      cases q2
      exact ⟨vs2, by rw [upd_ne (Ne.symm np2)]; exact upd_same, r2⟩
    | m + 2, q1, q2 => simp at q1
  · simp [np1, np2, n12]
  · have : b = p ∨ b = p1 ∨ b = p2 := by simpa using hb'
    rcases this with rfl | rfl | rfl
    · exact ⟨⟨_, upd_same⟩, c2, c3, s.noB hp⟩
    · exact ⟨⟨_, by rw [upd_ne (Ne.symm np1)]; exact d1⟩, d2, d3, s.noB o1⟩
    · exact ⟨⟨_, by rw [upd_ne (Ne.symm np2)]; exact upd_same⟩, f2, t2', s.noB o2⟩
/-! ### x[k].append(e) -/
def setNth (kvs : List (Key × List D)) (n : Nat) (ys : List D) : List (Key × List D) := (kvs.map (·.1)).zip ((kvs.map (·.2)).set n ys)
abbrev dO2App (i : Nat) (fk fe : DTE) : DTS := fun N ρ => match ρ[i]? with
  | some (.o2 as (.dl kvs)) => fk ρ (fun k => ∃ kk n xs, keyD k = some kk ∧ (kvs.map (·.1))[n]? = some kk ∧ (∀ m, m < n → (kvs.map (·.1))[m]? ≠ some kk) ∧ (kvs.map (·.2))[n]? = some xs ∧ fe ρ (fun d => xs.length < sizeLine ∧ N.nx (ρ.set i (.o2 as (.dl (setNth kvs n (xs ++ [d])))))) (fun x => N.rs x ρ)) (fun x => N.rs x ρ)
  | _ => False
theorem ds_o2App (i : Nat) {k e : Expr} {fk fe : DTE} {st : Stmt} {u : Nat} (hr : ∀ j, RmG u (Xs j).A) (hk : DE Xs mg Wx k fk) (he : DE Xs mg Wx e fe)
    (pe : ∀ j tk te, (Xs j).A.units + 1 < cLine → PE (Xs j) k tk → PE (Xs j) e te → PS (Xs j) st (tDrop (tBM (Xs j).K "list" rAppend (tDGet (tVar i) tk) (tCons te tNil)))) (hK : ∀ j, (Xs j).K = mg.K := by intro _; rfl) : DS Xs mg Wx st (dO2App i fk fe) := by
  obtain ⟨tk, k1, k2⟩ := hk
  obtain ⟨te, e1, e2⟩ := he
  refine ⟨tDrop (tBM mg.K "list" rAppend (tDGet (tVar i) tk) (tCons te tNil)), fun j => by rw [← hK j]; exact pe j tk te (by have := (hr j).r.un; omega) (k1 j) (e1 j), fun W0 B N ρ hf W σ H Ds s e n => ?_⟩
  unfold dO2App at hf
  split at hf
  · rename_i as kvs hx
    obtain ⟨o, g1, a, Ls, ea, ho, ⟨g2, g3⟩, nd, g5⟩ := e.sl i _ hx
    subst ea
    subst ho
    refine ⟨.ref a, g1, ?_⟩
    refine k2 B ρ _ _ hf W σ H _ s.holds e (n.ex s e) fun W1 H1 y z s1 r1 q1 => ?_
    have ee1 := e.step s1
    have m0 : Mine W H (a :: Ls) := fun b hb => ⟨(g5 b hb).1, (g5 b hb).2.1, (g5 b hb).2.2.1⟩
    obtain ⟨_, a2, a3⟩ := m0 a List.mem_cons_self
    obtain ⟨kk, nn, xs, hkk, hn, hfirst, hxs, h3⟩ := q1
    have ek := keyD_v r1 hkk
    subst ek
    have in1 := g3.step (fun b hb => m0 b (List.mem_cons_of_mem _ hb)) s1
    have hlen : Ls.length = (kvs.map (·.2)).length := g3.1
    obtain ⟨l, hl⟩ : ∃ l, Ls[nn]? = some l := ⟨_, List.getElem?_eq_getElem (by rw [hlen]; exact (List.getElem?_eq_some_iff.mp hxs).1)⟩
    obtain ⟨us, u1, u2⟩ := in1.2 nn l xs hl hxs
    have ha1 := (s1.mine g2 a2 a3).1
    refine ⟨a, .ref l, rfl, ?_, ?_⟩
    · have hv := val_zip (k := kk) (ks := kvs.map (·.1)) (vs := Ls.map V.ref) (n := nn) (v := .ref l) hn hfirst (by rw [List.getElem?_map, hl]; rfl)
      rw [← hv]
      exact .inl ⟨_, kk, .inl ha1, rfl, rfl⟩
    refine ⟨.inl ⟨rfl, _, SqL.of u1⟩, ?_⟩
    refine e2 B ρ _ _ h3 W1 σ H1 _ s1.holds ee1 (n.ex (s.trans s1) ee1) fun W2 H2 v d s2 r2 q2 => ?_
    have ee2 := ee1.step s2
    obtain ⟨hz, hq⟩ := q2
    have m2 := (m0.step s1).step s2
    have in2 := in1.step (fun b hb => (m0.step s1) b (List.mem_cons_of_mem _ hb)) s2
    obtain ⟨ws, w1, w2⟩ := in2.2 nn l xs hl hxs
    refine ⟨l, ws, v, rfl, rfl, w1, by rw [w2.length]; exact hz, ?_⟩
    have ml : l ∈ a :: Ls := List.mem_cons_of_mem _ (List.mem_of_getElem? hl)
    obtain ⟨_, l2, l3⟩ := m2 l ml
    have nal : a ≠ l := fun z => (List.nodup_cons.mp nd).1 (by rw [z]; exact List.mem_of_getElem? hl)
    have ha2 := ((s1.trans s2).mine g2 a2 a3).1
    have hks : (setNth kvs nn (xs ++ [d])).map (·.1) = kvs.map (·.1) := by
      unfold setNth
      rw [List.map_fst_zip (by rw [List.length_map, List.length_set, List.length_map]; exact Nat.le_refl _)]
    have hvs : (setNth kvs nn (xs ++ [d])).map (·.2) = (kvs.map (·.2)).set nn (xs ++ [d]) := by
      unfold setNth
      rw [List.map_snd_zip (by rw [List.length_map, List.length_set, List.length_map]; exact Nat.le_refl _)]
    refine n.nx W2 _ σ _ (((s.trans s1).trans s2).own (g5 l ml).2.2.2 w1 l2 l3) (ee2.turn (s' := .o2 (a :: Ls) (.dl (setNth kvs nn (xs ++ [d])))) hx g1 ml (fun _ h => h) ⟨a, Ls, rfl, rfl, ⟨?_, ?_, ?_⟩, nd, fun b hb => ?_⟩) hq
    · rw [hks, upd_ne nal]
      exact ha2
    · rw [hvs, List.length_set]
      exact hlen
    · intro i' b ys p1 p2
      rw [hvs] at p2
      by_cases hi' : i' = nn
      · subst hi'
        rw [hl] at p1
        cases p1
        rw [List.getElem?_set_self (List.getElem?_eq_some_iff.mp hxs).1] at p2
        cases p2
        exact ⟨_, upd_same, w2.snoc r2⟩
      · rw [List.getElem?_set_ne (Ne.symm hi')] at p2
        obtain ⟨vs, y1, y2⟩ := in2.2 i' b ys p1 p2
        have nb : b ≠ l := fun z => by
          rw [z] at p1
          exact hi' (nodup_ix (List.nodup_cons.mp nd).2 p1 hl)
        exact ⟨vs, by rw [upd_ne nb]; exact y1, y2⟩
    · refine ⟨?_, (m2 b hb).2.1, (m2 b hb).2.2, (g5 b hb).2.2.2⟩
      by_cases z : b = l
      · rw [z]
        exact ⟨_, upd_same⟩
      · obtain ⟨⟨u, hu⟩, _⟩ := m2 b hb
        exact ⟨u, by rw [upd_ne z]; exact hu⟩
  · exact hf.elim
/-! ### x = set(e), len(x) -/
abbrev dSetS (w : World) (i : Nat) (f : DTE) : DTS := fun N ρ => f ρ (fun x => match x with
  | .lst xs => ∃ ss, strsD xs = some ss ∧ ss.length < 4000 ∧ N.nx (ρ.set i (.hv fun a => SetSO w a ss))
  | _ => False) (fun x => N.rs x ρ)
theorem ds_setS {w : World} {i : Nat} {x : Str} {e : Expr} {f : DTE} {px p2 q : Pos} (h : DE Xs mg Wx e f) (hm2 : mg.mg "set" = none) (hv2 : bootBuiltins "set" = some (.type "set")) (hN : ∀ j, (Xs j).N.Nodup) (hw : ∀ j, (Xs j).w = w := by intro _; rfl) (hK : ∀ j, (Xs j).K = mg.K := by intro _; rfl) (hM : ∀ j, (Xs j).mg = mg.mg := by intro _; rfl) (hc : ∀ j, (Xs j).calm = true := by intro _; rfl) (hg2 : ∀ j, Gl (Xs j) "set" := by intro _; rfl)
    (he : ∀ j, starEach [e] (Xs j).env = [(false, eval e (Xs j).env)] := by intro _; rfl) (hi : ∀ j, (Xs j).N[i]? = some x := by intro _; rfl) (hx : ∀ j, Loc (Xs j).env.scope x := by intro _; first | exact Or.inl rfl | exact Or.inr rfl)
    (hs : ∀ j, swapsWith (.Call (.Name "set" p2) [e] [] q) (some (.Name x px)) pos.line (Xs j).env = pure false := by intro _; rfl) (hf : ∀ j, (Xs j).fn x = true ∨ (Xs j).env.scope.names.lookup x = some .local := by intro _; first | exact .inl rfl | exact .inr rfl) :
    DS Xs mg Wx (.Assign [.Name x px] (.Call (.Name "set" p2) [e] [] q) pos) (dSetS w i f) := by
  obtain ⟨t, h1, h2⟩ := h
  refine ⟨_, fun j => ps_set (i := i) (hN j) (hi j) (hx j) (pe_callTy (cr_setLK (hK j) (hw j) (hc j)) (hg2 j) (by rw [hM j]; exact hm2) hv2 (pa_cons (h1 j) pa_nil (he j)) (by decide) (by decide) (he j) rfl) (hs j) (hf j), fun W0 B N ρ hf W σ H Ds s e n => ?_⟩
  refine h2 B ρ _ _ hf W σ H _ s.holds e (n.ex s e) fun W1 H1 v d s1 r1 k1 => ?_
  obtain ⟨xs, rfl, ss, g1, g2, g3⟩ := lstOf k1
  obtain ⟨a, vs, rfl, ha, ra⟩ := r1.lstI
  have ev := strs_v ra g1
  subst ev
  have s01 := s.trans s1
  refine ⟨_, ss, rfl, SqL.of (s1.holds.same _ _ ha), (show ss.length + 1 < 4096 by omega), fun p hp => ?_⟩
  have sl := Step.lay s1.holds hp (o := SetSO w p ss)
  exact n.nx W1 _ _ _ (s01.trans sl) ((e.step s1).news sl (s := .hv fun a => SetSO w a ss) (fun b hb => by obtain rfl := List.mem_singleton.mp hb; exact hp) ⟨p, rfl, upd_same, s1.holds.same.free hp, s1.holds.nT hp, s01.noB hp⟩) g3
abbrev dLenHv (w : World) (i : Nat) : DTE := fun ρ Q _ => match ρ[i]? with
  | some (.hv f) => ∃ ss : List Str, f = (fun a => SetSO w a ss) ∧ Q (.int (sortU ss).length)
  | _ => False
theorem de_lenHv {w : World} (i : Nat) {x : Str} {p q : Pos} (hm : mg.mg "len" = none) (hv : bootBuiltins "len" = some (.builtin "len")) (hN : ∀ j, (Xs j).N[i]? = some x := by intro _; rfl) (hvi : ∀ j, Vis (Xs j).env.scope x := by intro _; first | exact Or.inl rfl | exact Or.inr (Or.inl rfl) | exact Or.inr (Or.inr rfl)) (hd : (x == ("__debug__" : Str)) = false := by decide) (hcd : (x == ("__classdict__" : Str)) = false := by decide)
    (hw : ∀ j, (Xs j).w = w := by intro _; rfl) (hM : ∀ j, (Xs j).mg = mg.mg := by intro _; rfl) (hg : ∀ j, Gl (Xs j) "len" := by intro _; rfl) (he : ∀ j, starEach [.Name x p] (Xs j).env = [(false, eval (.Name x p) (Xs j).env)] := by intro _; rfl) : DE Xs mg Wx (.Call (.Name "len" q) [.Name x p] [] pos) (dLenHv w i) := by
  refine ⟨tCB (rLenSS w) (tCons (tVar i) tNil), fun j => pe_callB (cr_lenSSK (hw j)) (hg j) (by rw [hM j]; exact hm) hv (pa_cons (pe_var (hN j) (hvi j) hd hcd) pa_nil (he j)) (by decide) (by decide) (he j) rfl, fun B ρ Q E hf W σ H Q' hh e x q => ?_⟩
  unfold dLenHv at hf
  split at hf
  · rename_i f hx
    obtain ⟨ss, rfl, hq⟩ := hf
    obtain ⟨o, g1, a, g2, g3, g4, g5, g6⟩ := e.sl i _ hx
    subst g2
    exact ⟨.ref a, g1, a, ss, rfl, g3, q W H _ _ (Step.refl hh) (.int _) hq⟩
  · exact hf.elim
end
end FP
/-! FP102: x, y = lists of own lists, where one of the names is held by a comprehension. -/
namespace FP
open PySem L2
variable [Tabl]
section
variable {ι : Type} {Xs : ι → Cx} {mg : Gm} {Wx : WX} {pos : Pos}
theorem ds_par22c {i j : Nat} {x y : Str} {a b : Expr} {f g : DTL} {px py pt : Pos} {kt k2 : Nat} {pt2 : Pos} (h : DO2 Xs mg Wx a f) (h' : DO2 Xs mg Wx b g) (hN : ∀ l, (Xs l).N.Nodup)
    (hw : ∀ l, swappedStores [.Tuple [.Name x px, .Name y py] kt pt] (.Tuple [a, b] k2 pt2) (Xs l).env = pure none := by intro _; rfl) (hij : i ≠ j := by decide) (hi : ∀ l, (Xs l).N[i]? = some x := by intro _; rfl) (hj : ∀ l, (Xs l).N[j]? = some y := by intro _; rfl)
    (hx : ∀ l, Loc (Xs l).env.scope x := by intro _; first | exact Or.inl rfl | exact Or.inr rfl) (hy : ∀ l, Loc (Xs l).env.scope y := by intro _; first | exact Or.inl rfl | exact Or.inr rfl) (hc : ∀ l, (Xs l).calm = true := by intro _; rfl) (hK : ∀ l, (Xs l).K = mg.K := by intro _; rfl)
    (hfx : ∀ l, (Xs l).fn x = true ∨ (Xs l).env.scope.names.lookup x = some .local := by intro _; first | exact .inl rfl | exact .inr rfl) (hfy : ∀ l, (Xs l).fn y = true ∨ (Xs l).env.scope.names.lookup y = some .local := by intro _; first | exact .inl rfl | exact .inr rfl)
    (hs : ∀ l, swapsWithSole [.Tuple [.Name x px, .Name y py] kt pt] (.Tuple [a, b] k2 pt2) pos.line (Xs l).env = pure false := by intro _; rfl) (h1 : ∀ l, (assignEach [.Tuple [.Name x px, .Name y py] kt pt] (Xs l).env).map (·.2) = [assign (.Tuple [.Name x px, .Name y py] kt pt) (Xs l).env] := by intro _; rfl)
    (ht1 : ∀ l, (assignEach [.Name x px, .Name y py] (Xs l).env).map (·.2) = assign (.Name x px) (Xs l).env :: (assignEach [.Name y py] (Xs l).env).map (·.2) := by intro _; rfl) (ht2 : ∀ l, (assignEach [.Name y py] (Xs l).env).map (·.2) = assign (.Name y py) (Xs l).env :: (assignEach [] (Xs l).env).map (·.2) := by intro _; rfl)
    (hn : ∀ l, (assignEach [.Name x px, .Name y py] (Xs l).env).length = 2 := by intro _; rfl) (hst : ∀ l, (assignEach [.Name x px, .Name y py] (Xs l).env).findIdx? (·.1) = none := by intro _; rfl)
    (he : ∀ i, starEach [a, b] (Xs i).env = (false, eval a (Xs i).env) :: starEach [b] (Xs i).env := by intro _; rfl) (he2 : ∀ i, starEach [b] (Xs i).env = [(false, eval b (Xs i).env)] := by intro _; rfl) : DS Xs mg Wx (.Assign [.Tuple [.Name x px, .Name y py] kt pt] (.Tuple [a, b] k2 pt2) pos) (dPar22 i j f g) := by
  obtain ⟨t, h1', h2⟩ := h
  obtain ⟨u, g1, g2⟩ := h'
  refine ⟨tAsg (tTup (tCons t (tCons u tNil))) (gTup mg.K 2 (gCons (gName i) (gCons (gName j) gNil))), fun l => by
    have z := pg_tup (pos := pt) (k := kt) (n := 2) (hc l) (pgs_cons (pg_name (pos := px) (hN l) (hi l) (hx l) (hfx l)) (pgs_cons (pg_name (pos := py) (hN l) (hj l) (hy l) (hfy l)) pgs_nil (ht2 l)) (ht1 l)) (hn l) (hst l)
    rw [hK l] at z
    exact ps_asg (pe_tup (pa_cons (h1' l) (pa_cons (g1 l) pa_nil (he2 l)) (he l))) z (hs l) (hw l) (h1 l), fun W0 B N ρ hf W σ H Ds s e n => ?_⟩
  refine h2 B ρ _ _ hf W σ H _ s.holds e (n.ex s e) fun W1 H1 p Ls xss s1 fr hp nd mn inn k1 => ?_
  have e1 := e.step s1
  have s01 := s.trans s1
  refine g2 B ρ _ _ k1 W1 σ H1 _ s1.holds e1 (n.ex s01 e1) fun W2 H2 p' Ls' yss s2 fr' hp' nd' mn' inn' k2 => ?_
  refine ⟨(by show 2 ≤ sizeLine; decide), fun P hP => ?_⟩
  have s3 := Step.lay s2.holds (o := .tup [.ref p, .ref p']) hP
  have s02 := (s01.trans s2).trans s3
  have e2 := (e1.step s2).step s3
  have s23 := s2.trans s3
  have mn2 := mn.step s23
  have inn2 := inn.step (fun b hb => mn b (List.mem_cons_of_mem _ hb)) s23
  have mn3 := mn'.step s3
  have inn3 := inn'.step (fun b hb => mn' b (List.mem_cons_of_mem _ hb)) s3
  obtain ⟨_, a2, a3⟩ := mn p List.mem_cons_self
  obtain ⟨_, a4, a5⟩ := mn' p' List.mem_cons_self
  have hp2 := (s23.mine hp a2 a3).1
  have hp3 := (s3.mine hp' a4 a5).1
  have old : ∀ (j' : Nat) (t : Sl) (o' : Option V) (b : Addr), ρ[j']? = some t → σ[j']? = some o' → b ∈ t.fp o' → (∃ u, H b = some u) ∧ ∃ u, H1 b = some u := fun j' t o' b q1 q2 m => by
    obtain ⟨o2, q3, q4⟩ := e.sl j' _ q1
    rw [q2] at q3
    cases q3
    obtain ⟨u, q5, _⟩ := q4.at m
    exact ⟨⟨u, q5⟩, s1.live b u q5⟩
  have x1 : SlR mg B W2 (upd H2 P (.tup [.ref p, .ref p'])) (some (.ref p)) (.o2 (p :: Ls) (.ll xss)) := ⟨p, Ls, rfl, rfl, ⟨hp2, inn2⟩, nd, fun b hb => ⟨(mn2 b hb).1, (mn2 b hb).2.1, (mn2 b hb).2.2, s.noB (fr b hb)⟩⟩
  have x2 : SlR mg B W2 (upd H2 P (.tup [.ref p, .ref p'])) (some (.ref p')) (.o2 (p' :: Ls') (.ll yss)) := ⟨p', Ls', rfl, rfl, ⟨hp3, inn3⟩, nd', fun b hb => ⟨(mn3 b hb).1, (mn3 b hb).2.1, (mn3 b hb).2.2, s01.noB (fr' b hb)⟩⟩
  have e3 := e2.move (k := i) (o := some (.ref p)) (fun j' t o' b _ q1 q2 m m' => by
    obtain ⟨⟨u, q5⟩, _⟩ := old j' t o' b q1 q2 m
    rw [fr b m'] at q5
    cases q5) x1
  have e4 := e3.move (k := j) (o := some (.ref p')) (fun j' t o' b _ q1 q2 m m' => by
    have hb : ∃ u, H1 b = some u := by
      rcases get_set q1 with ⟨rfl, rfl⟩ | ⟨nj, q1⟩
      · exact (mn b m).1
      · rw [List.getElem?_set_ne nj] at q2
        exact (old j' t o' b q1 q2 m).2
    obtain ⟨u, hu⟩ := hb
    rw [fr' b m'] at hu
    cases hu) x2
  refine ⟨P, _, rfl, SqT.of upd_same, rfl, _, _, rfl, ?_⟩
  exact ⟨_, _, rfl, rfl, n.nx W2 _ _ _ s02 e4 (k2 _ _)⟩
end
end FP
/-! KP: kinds, with no program in sight: text, places, order, parts, signed atoms; their data. -/
namespace KP
open PySem L2 FP
variable [FP.Tabl]
inductive Kd where
  | mk (as : List Kd) (a : Str)
def Kd.as : Kd → List Kd
  | .mk as _ => as
def Kd.a : Kd → Str
  | .mk _ a => a
mutual
def text : Kd → Str
  | .mk as a => Txt.join " -> " (texts as ++ [a])
def texts : List Kd → List Str
  | [] => []
  | k :: r => (if k.as.isEmpty then text k else "(" ++ text k ++ ")") :: texts r
end
mutual
def places : Kd → List Str
  | .mk as a => placesL as ++ [a]
def placesL : List Kd → List Str
  | [] => []
  | k :: r => places k ++ placesL r
end
theorem placesL_map : ∀ ks, placesL ks = (ks.map places).flatten
  | [] => rfl
  | k :: r => by
    rw [placesL, placesL_map r]
    rfl
mutual
def ord : Kd → Nat
  | .mk as _ => ordL as
def ordL : List Kd → Nat
  | [] => 0
  | k :: r => max (ord k + 1) (ordL r)
end
theorem ordL_le {n : Nat} : ∀ {ks : List Kd}, (∀ k ∈ ks, ord k < n) → ordL ks ≤ n
  | [], _ => Nat.zero_le _
  | j :: r, h => by
    rw [ordL]
    have h1 := h j List.mem_cons_self
    have h2 := ordL_le fun k hk => h k (List.mem_cons_of_mem _ hk)
    omega
mutual
def signed : Kd → Bool → List Str
  | .mk as a, b => (if b then [a] else []) ++ signedL as (!b)
def signedL : List Kd → Bool → List Str
  | [], _ => []
  | k :: r, b => signed k b ++ signedL r b
end
/-! ### sizes -/
/-! ### words -/
def letters : List Nat := ("abcdefghijklmnopqrstuvwxyz" : Str).cps.toList
def isWordS (z : Str) : Bool := decide (1 ≤ z.length) && decide (z.length ≤ 8) && z.cps.toList.all fun c => decide (c ∈ letters)
theorem word_len {z : Str} (h : isWordS z = true) : 1 ≤ z.length ∧ z.length ≤ 8 := by
  unfold isWordS at h
  simp only [Bool.and_eq_true, decide_eq_true_eq] at h
  exact h.1
theorem word_letters {z : Str} (h : isWordS z = true) : ∀ c ∈ z.cps.toList, c ∈ letters := by
  unfold isWordS at h
  simp only [Bool.and_eq_true, decide_eq_true_eq, List.all_eq_true] at h
  exact h.2
theorem letters_small : ∀ c ∈ letters, 97 ≤ c ∧ c < 123 := by decide +kernel
theorem word_ok {z : Str} (h : isWordS z = true) : okStr z := ⟨Nat.le_trans (word_len h).2 (by decide), fun c hc => by
  have := letters_small c (word_letters h c hc)
  omega⟩
/-- a whole kind -/
structure Good (k : Kd) : Prop where
  w : ∀ z ∈ places k, isWordS z = true
  p : (places k).length ≤ 15
  o : ord k ≤ 4
/-! ### the size of a text -/
theorem len_app (a b : Str) : (a ++ b).length = a.length + b.length := by
  show (a.cps ++ b.cps).size = _
  rw [Array.size_append]
  rfl
end KP
/-! KP2: kinds as data; data beside themselves. -/
namespace KP
open PySem L2 FP
variable [FP.Tabl]
mutual
def plain : Kd → D
  | .mk as a => .tup [.tup (plains as), .str a]
def plains : List Kd → List D
  | [] => []
  | k :: r => plain k :: plains r
end
mutual
def typeD : Kd → D
  | .mk as a => .ins "Type" [("own_args", .tup (typeDs as)), ("own_atom", .str a), ("own_places", .tup ((places (.mk as a)).map .str)), ("own_order", .int (ord (.mk as a))), ("own_text", .str (text (.mk as a)))]
def typeDs : List Kd → List D
  | [] => []
  | k :: r => typeD k :: typeDs r
end
/-! ### readings of fields, of the class -/
/-! ### data beside themselves -/
mutual
def shD : Nat → D → Bool
  | _, .non => true
  | _, .bl _ => true
  | _, .int _ => true
  | _, .str x => PyData.strOk x
  | n + 1, .tup xs => shDs n xs
  | n + 1, .lst xs => shDs n xs
  | _, _ => false
def shDs : Nat → List D → Bool
  | _, [] => true
  | n, x :: r => shD n x && shDs n r
end
mutual
theorem shD_py : ∀ (n : Nat) (d : D), shD n d = true → ∃ p, toPy d = some p ∧ p.canLay0 = true ∧ p.depth ≤ n
  | n, .non, _ => ⟨.none, rfl, rfl, Nat.zero_le _⟩
  | n, .bl b, _ => ⟨.bool b, rfl, rfl, Nat.zero_le _⟩
  | n, .int i, _ => ⟨.int i, rfl, rfl, Nat.zero_le _⟩
  | n, .str x, h => ⟨.str x, rfl, by rw [PyData.canLay0]; simpa [shD] using h, Nat.zero_le _⟩
  | n + 1, .tup xs, h => by
    rw [shD] at h
    obtain ⟨ps, h1, h2, h3⟩ := shDs_py n xs h
    exact ⟨.tuple ps, by rw [toPy, h1], h2, Nat.succ_le_succ h3⟩
  | n + 1, .lst xs, h => by
    rw [shD] at h
    obtain ⟨ps, h1, h2, h3⟩ := shDs_py n xs h
    exact ⟨.list ps, by rw [toPy, h1], h2, Nat.succ_le_succ h3⟩
  | 0, .tup xs, h => by simp [shD] at h
  | 0, .lst xs, h => by simp [shD] at h
  | n, .fz _, h => by simp [shD] at h
  | n, .dct _, h => by simp [shD] at h
  | n, .ins _ _, h => by simp [shD] at h
  | n, .tok, h => by simp [shD] at h
  | n, .cl _, h => by simp [shD] at h
  | n, .fn _ _, h => by simp [shD] at h
theorem shDs_py : ∀ (n : Nat) (ds : List D), shDs n ds = true → ∃ ps, toPys ds = some ps ∧ PyData.canLayAll0 ps = true ∧ PyData.depthAll ps ≤ n
  | n, [], _ => ⟨[], rfl, rfl, Nat.zero_le _⟩
  | n, x :: r, h => by
    rw [shDs, Bool.and_eq_true] at h
    obtain ⟨p, h1, h2, h3⟩ := shD_py n x h.1
    obtain ⟨ps, g1, g2, g3⟩ := shDs_py n r h.2
    refine ⟨p :: ps, by rw [toPys, h1, g1], ?_, ?_⟩
    · rw [PyData.canLayAll0, h2, g2]
      rfl
    · rw [PyData.depthAll]
      omega
end
theorem sh_shaped {p : PyData} (h1 : p.canLay0 = true) (h2 : p.depth ≤ 64) : SeqAt.shaped p = true := by
  unfold SeqAt.shaped
  rw [h1, decide_eq_true h2]
  rfl
/-! ### signs of texts -/
theorem strOk_iff (z : Str) : PyData.strOk z = true ↔ ∀ c ∈ z.cps.toList, c < 1114112 := by
  unfold PyData.strOk
  rw [Array.all_eq_true']
  simp
theorem app_empty (z : Str) : (Str.empty : Str) ++ z = z := by
  show (⟨#[] ++ z.cps⟩ : Str) = z
  simp
end KP
/-! KP3: what the defs about kinds promise, by data; lists walked. -/
namespace KP
open PySem L2 FP
variable [FP.Tabl]
/-- two clauses -/
theorem lcS_of {α : Type} {body : D → (List D → Prop) → Prop} (e : α → D) (g : α → List D) : ∀ (xs : List α) (Q : List D → Prop), (∀ x ∈ xs, ∀ k : List D → Prop, k (g x) → body (e x) k) → Q ((xs.map g).flatten) → lcS body (xs.map e) Q
  | [], Q, _, h => h
  | x :: xs, Q, hb, h => by
    refine hb x List.mem_cons_self _ ?_
    exact lcS_of e g xs _ (fun y hy => hb y (List.mem_cons_of_mem _ hy)) h
/-- a for loop over data told by things: what holds behind each -/
theorem for_of {α : Type} {T : Tg} {f : DTS} {N : Nd} (e : α → D) (I : List α → FP.Env → Prop) : ∀ (xs done : List α) (ρ : FP.Env), I done ρ →
    (∀ (x : α) (pre post : List α), done ++ xs = pre ++ x :: post → ∀ (ρ : FP.Env) (K : FP.Env → Prop), I pre ρ → (∀ ρ', I (pre ++ [x]) ρ' → K ρ') → ∃ ρ1, T.put (e x) ρ = some ρ1 ∧ f { N with nx := K, ct := K, bk := N.nx } ρ1) →
    (∀ ρ, I (done ++ xs) ρ → N.nx ρ) → forD T f N (xs.map e) ρ
  | [], done, ρ, h, _, he => he ρ (by rw [List.append_nil]; exact h)
  | x :: xs, done, ρ, h, hs, he => by
    refine hs x done xs rfl ρ _ h fun ρ' h' => ?_
    refine for_of e I xs (done ++ [x]) ρ' h' (fun y pre post eq ρ K => hs y pre post (by rw [← eq, List.append_assoc]; rfl) ρ K) fun ρ h2 => he ρ ?_
    rw [List.append_assoc] at h2
    exact h2
def isWordD : D → Bool
  | .str z => isWordS z
  | _ => false
def isIntD : D → Bool
  | .int i => decide (-(10 ^ 60) < i) && decide (i < 10 ^ 60)
  | _ => false
def f_is_word : List D → M D := fun ds Q _ => match ds with
  | [d] => okV d ∧ Q (.bl (isWordD d))
  | _ => False
def f_is_int : List D → M D := fun ds Q _ => match ds with
  | [d] => okV d ∧ Q (.bl (isIntD d))
  | _ => False
def inRow (d : D) (a b : Int) : Bool := match d with
  | .int i => isIntD (.int i) && (decide (a ≤ i) && decide (i ≤ b))
  | _ => false
def f_within : List D → M D := fun ds Q _ => match ds with
  | [d, .int a, .int b] => okV d ∧ Q (.bl (inRow d a b))
  | _ => False
def d_len (k : Kd) : D := .int (places k).length
theorem size_small {n : Nat} (h : n ≤ 1000) : n ≤ sizeLine := Nat.le_trans h (by decide)
theorem placesL_app (xs ys : List Kd) : placesL (xs ++ ys) = placesL xs ++ placesL ys := by
  rw [placesL_map, placesL_map, placesL_map, List.map_append, List.flatten_append]
end KP
/-! KP4: a dict from texts to kinds; its keys in order. -/
namespace KP
open PySem L2 FP
variable [FP.Tabl]
structure DInv (done : List Kd) (acc : List (Key × D)) : Prop where
  el : ∀ kv ∈ acc, ∃ j ∈ done, kv = (.inr (text j), typeD j)
  nd : (acc.map (·.1)).Nodup
  all : ∀ j ∈ done, Sum.inr (text j) ∈ acc.map (·.1)
theorem DInv.put {done : List Kd} {acc : List (Key × D)} (h : DInv done acc) (j : Kd) : DInv (done ++ [j]) (putKD acc (.inr (text j)) (typeD j)) := by
  unfold putKD
  by_cases q : (acc.any fun kv => decide (kv.1 = .inr (text j))) = true
  · rw [if_pos q]
    have ek : (acc.map fun kv => if kv.1 = .inr (text j) then (kv.1, typeD j) else kv).map (·.1) = acc.map (·.1) := by
      rw [List.map_map]
      apply List.map_congr_left
      intro kv _
      show (if kv.1 = .inr (text j) then (kv.1, typeD j) else kv).1 = kv.1
      split <;> rfl
    refine ⟨fun kv hkv => ?_, by rw [ek]; exact h.nd, fun i hi => ?_⟩
    · obtain ⟨kv0, h0, e⟩ := List.mem_map.mp hkv
      by_cases z : kv0.1 = .inr (text j)
      · rw [if_pos z] at e
        exact ⟨j, by simp, by rw [← e, z]⟩
      · rw [if_neg z] at e
        obtain ⟨i, hi, ei⟩ := h.el kv0 h0
        exact ⟨i, List.mem_append_left _ hi, by rw [← e, ei]⟩
    · rw [ek]
      rcases List.mem_append.mp hi with z | z
      · exact h.all i z
      · rw [List.mem_singleton.mp z]
        obtain ⟨kv, h1, h2⟩ := List.any_eq_true.mp q
        exact List.mem_map.mpr ⟨kv, h1, of_decide_eq_true h2⟩
  · rw [if_neg q]
    have nk : Sum.inr (text j) ∉ acc.map (·.1) := fun z => by
      obtain ⟨kv, h1, h2⟩ := List.mem_map.mp z
      exact q (List.any_eq_true.mpr ⟨kv, h1, decide_eq_true h2⟩)
    refine ⟨fun kv hkv => ?_, ?_, fun i hi => ?_⟩
    · rcases List.mem_append.mp hkv with z | z
      · obtain ⟨i, hi, ei⟩ := h.el kv z
        exact ⟨i, List.mem_append_left _ hi, ei⟩
      · exact ⟨j, by simp, List.mem_singleton.mp z⟩
    · rw [List.map_append]
      refine List.nodup_append.mpr ⟨h.nd, by simp, fun a ha b hb e => ?_⟩
      have eb : b = Sum.inr (text j) := by simpa using hb
      rw [e, eb] at ha
      exact nk ha
    · rw [List.map_append]
      rcases List.mem_append.mp hi with z | z
      · exact List.mem_append_left _ (h.all i z)
      · rw [List.mem_singleton.mp z]
        exact List.mem_append_right _ (by simp)
theorem flatsD_strs : ∀ zs : List Str, flatsD (zs.map D.str) = some (zs.map V.str)
  | [] => rfl
  | z :: r => by
    rw [List.map_cons, flatsD, flatsD_strs r]
    rfl
theorem flat_strs : ∀ zs : List Str, (zs.map V.str).all flatV = true
  | [] => rfl
  | z :: r => by
    rw [List.map_cons, List.all_cons, flat_strs r]
    rfl
theorem inV_strs (z : Str) : ∀ zs : List Str, inV (.str z) (zs.map V.str) = decide (z ∈ zs)
  | [] => rfl
  | y :: r => by
    have ih := inV_strs z r
    unfold inV at ih ⊢
    rw [List.map_cons, List.any_cons, ih]
    have e : eqV (.str y) (.str z) = decide (y = z) := by
      show (y == z) = _
      rfl
    rw [e, Bool.eq_iff_iff]
    simp only [Bool.or_eq_true, decide_eq_true_eq, List.mem_cons]
    constructor
    · rintro (h | h)
      · exact .inl h.symm
      · exact .inr h
    · rintro (h | h)
      · exact .inl h.symm
      · exact .inr h
theorem inD_strs (z : Str) (zs : List Str) : inD (.str z) (.lst (zs.map D.str)) = some (decide (z ∈ zs)) := by
  show (match flatD (.str z), flatsD (zs.map D.str) with
    | some v, some vs => if flatV v = true ∧ vs.all flatV = true then some (inV v vs) else none
    | _, _ => none) = _
  rw [flatsD_strs]
  show (if flatV (.str z) = true ∧ (zs.map V.str).all flatV = true then some (inV (.str z) (zs.map V.str)) else none) = _
  rw [if_pos ⟨rfl, flat_strs zs⟩, inV_strs]
theorem atI_nat {α : Type} {xs : List α} {i : Int} (h0 : 0 ≤ i) (h1 : i < xs.length) : atI xs i = xs[i.toNat]? := by
  unfold atI ixN
  rw [if_pos h0, if_pos h1]
  rfl
end KP
/-! KP5: how a kind is read from signs, with no program in sight. -/
namespace KP
open PySem L2 FP
variable [FP.Tabl]
abbrev Rows := List (List Kd)
def takeEnd (pre : Rows) (row : List Kd) (w : Bool) (s : Str) : Bool × Rows × Bool :=
  if w then (false, pre ++ [row], w) else if s = " -> " then (true, pre ++ [row], true) else
    match pre.getLast?, row.getLast? with
    | some r0, some k => if 2 ≤ row.length ∧ k.as = [] then (true, pre.dropLast ++ [r0 ++ [.mk row.dropLast k.a]], false) else (false, pre, false)
    | _, _ => (false, pre, false)
def take1 (pre : Rows) (row : List Kd) (w : Bool) (s : Str) : Bool × Rows × Bool :=
  if s = "(" then (w && decide (pre.length + 2 ≤ 5), pre ++ [row] ++ [[]], w)
  else if s = " -> " ∨ s = ")" then takeEnd pre row w s
  else (w && isWordS s, pre ++ [row ++ [.mk [] s]], false)
structure OkR (rows : Rows) : Prop where
  n : rows.length ≤ 6
  r : ∀ row ∈ rows, row.length ≤ 2000
  k : ∀ row ∈ rows, ∀ k ∈ row, ord k ≤ 6 ∧ ∀ z ∈ places k, PyData.strOk z = true
/-! ### shapes are shaped -/
theorem shDs_of {n : Nat} : ∀ {ds : List D}, (∀ d ∈ ds, shD n d = true) → shDs n ds = true
  | [], _ => by rw [shDs]
  | d :: r, h => by
    rw [shDs, h d List.mem_cons_self, shDs_of fun e he => h e (List.mem_cons_of_mem _ he)]
    rfl
theorem OkR.dl {pre : Rows} {row : List Kd} (h : OkR (pre ++ [row])) : OkR pre := ⟨by have := h.n; rw [List.length_append] at this; have e : [row].length = 1 := rfl; omega, fun r hr => h.r r (List.mem_append_left _ hr), fun r hr => h.k r (List.mem_append_left _ hr)⟩
theorem eq_str {a b : Str} {Q : D → Prop} (q : Q (.bl (decide (a = b)))) : rdEq (.str a) (.str b) Q := q
end KP
/-! KP6: the signs of a text, and the shape that they tell, with no program in sight. -/
namespace KP
open PySem L2 FP
variable [FP.Tabl]
def isL (c : Nat) : Bool := decide (c ∈ letters)
def arrowL : List Nat := (" -> " : Str).cps.toList
def parL : List Nat := ("()" : Str).cps.toList
def lexO : Nat → List Nat → Option (List Str)
  | _, [] => some []
  | 0, _ :: _ => none
  | n + 1, c :: r =>
    if isL c = true then (lexO n (r.dropWhile isL)).map (List.cons (⟨(c :: r.takeWhile isL).toArray⟩ : Str))
    else if (c :: r).take 4 = arrowL then (lexO n (r.drop 3)).map (List.cons (" -> " : Str))
    else if c ∈ parL then (lexO n r).map (List.cons (⟨#[c]⟩ : Str))
    else none
def lexS (z : Str) : Option (List Str) := lexO z.cps.toList.length z.cps.toList
theorem lexO_nil (n : Nat) : lexO n [] = some [] := by cases n <;> rfl
theorem lexO_fuel : ∀ (n m : Nat) (xs : List Nat), xs.length ≤ n → xs.length ≤ m → lexO n xs = lexO m xs
  | n, m, [], _, _ => by rw [lexO_nil, lexO_nil]
  | 0, _, _ :: _, h, _ => by simp at h
  | _, 0, _ :: _, _, h => by simp at h
  | n + 1, m + 1, c :: r, h, h' => by
    have h1 : r.length ≤ n := by simpa using h
    have h2 : r.length ≤ m := by simpa using h'
    have hd : (r.dropWhile isL).length ≤ r.length := (List.dropWhile_sublist isL).length_le
    have hp : (r.drop 3).length ≤ r.length := by simp
    rw [lexO, lexO, lexO_fuel n m _ (Nat.le_trans hd h1) (Nat.le_trans hd h2), lexO_fuel n m _ (Nat.le_trans hp h1) (Nat.le_trans hp h2), lexO_fuel n m r h1 h2]
theorem lexO_cons (c : Nat) (r : List Nat) : lexO (c :: r).length (c :: r) =
    if isL c = true then (lexO (r.dropWhile isL).length (r.dropWhile isL)).map (List.cons (⟨(c :: r.takeWhile isL).toArray⟩ : Str))
    else if (c :: r).take 4 = arrowL then (lexO (r.drop 3).length (r.drop 3)).map (List.cons (" -> " : Str))
    else if c ∈ parL then (lexO r.length r).map (List.cons (⟨#[c]⟩ : Str))
    else none := by
  have hd : (r.dropWhile isL).length ≤ r.length := (List.dropWhile_sublist isL).length_le
  have hp : (r.drop 3).length ≤ r.length := by simp
  rw [List.length_cons, lexO, lexO_fuel r.length _ _ hd (Nat.le_refl _), lexO_fuel r.length _ _ hp (Nat.le_refl _)]
/-- what is found so far, and the rest -/
def Lex (z : Str) (found : List Str) (rest : List Nat) : Prop := lexS z = (lexO rest.length rest).map (found ++ ·)
theorem Lex.start (z : Str) : Lex z [] z.cps.toList := by
  unfold Lex lexS
  cases lexO z.cps.toList.length z.cps.toList <;> rfl
theorem Lex.stop {z : Str} {found : List Str} (h : Lex z found []) : lexS z = some found := by
  unfold Lex at h
  rw [h, lexO_nil]
  simp
theorem Lex.step {z : Str} {found : List Str} {rest rest' : List Nat} {s : Str} (h : Lex z found rest) (e : lexO rest.length rest = (lexO rest'.length rest').map (List.cons s)) : Lex z (found ++ [s]) rest' := by
  unfold Lex at h ⊢
  rw [h, e]
  cases lexO rest'.length rest' with
  | none => rfl
  | some ss => simp
theorem Lex.par {z : Str} {found : List Str} {c : Nat} {r : List Nat} (h : Lex z found (c :: r)) (hc : isL c = false) (ha : ¬ (c :: r).take 4 = arrowL) (hp : c ∈ parL) : Lex z (found ++ [⟨#[c]⟩]) r :=
  h.step (by rw [lexO_cons, if_neg (by rw [hc]; exact Bool.false_ne_true), if_neg ha, if_pos hp])
/-! ### places of a text -/
/-! ### signs are parts of the text -/
/-! ### the shape -/
/-- what holds between signs -/
structure RInv (rows : Rows) (w : Bool) (left : Nat) : Prop where
  ne : rows ≠ []
  n : rows.length ≤ 5
  len : ∀ row ∈ rows, row.length + left ≤ 1000
  k : ∀ (j : Nat) (row : List Kd), rows[j]? = some row → ∀ k ∈ row, ord k + j ≤ 4 ∧ ∀ z ∈ places k, PyData.strOk z = true
  last : w = false → ∀ row, rows.getLast? = some row → row ≠ []
theorem RInv.start (n : Nat) (h : n ≤ 1000) : RInv [[]] true n := by
  refine ⟨by simp, by simp, fun row hr => ?_, fun j row hr k hk => ?_, fun h => by cases h⟩
  · rw [List.mem_singleton.mp hr]
    simpa using h
  · have := List.mem_of_getElem? hr
    rw [List.mem_singleton.mp this] at hk
    cases hk
theorem snoc_get {α : Type} {pre : List α} {x y : α} {j : Nat} (h : (pre ++ [x])[j]? = some y) : pre[j]? = some y ∨ (j = pre.length ∧ y = x) := by
  by_cases hj : j < pre.length
  · rw [List.getElem?_append_left hj] at h
    exact .inl h
  · rw [List.getElem?_append_right (by omega)] at h
    cases q : j - pre.length with
    | zero =>
      rw [q] at h
      exact .inr ⟨by omega, (Option.some.inj h).symm⟩
    | succ m =>
      rw [q] at h
      simp at h
theorem RInv.put {pre : Rows} {row : List Kd} {w w' : Bool} {n : Nat} {k : Kd} (h : RInv (pre ++ [row]) w (n + 1)) (h1 : ord k + pre.length ≤ 4) (h2 : ∀ z ∈ places k, PyData.strOk z = true) : RInv (pre ++ [row ++ [k]]) w' n := by
  refine ⟨by simp, ?_, fun r hr => ?_, fun j r hr i hi => ?_, fun _ r hr => ?_⟩
  · have := h.n
    simpa using this
  · rcases List.mem_append.mp hr with q | q
    · have := h.len r (List.mem_append_left _ q)
      omega
    · rw [List.mem_singleton.mp q, List.length_append]
      have := h.len row (by simp)
      have e : [k].length = 1 := rfl
      omega
  · rcases snoc_get hr with q | ⟨ej, er⟩
    · refine h.k j r ?_ i hi
      rw [List.getElem?_append_left (List.getElem?_eq_some_iff.mp q).1]
      exact q
    · rw [er] at hi
      rcases List.mem_append.mp hi with z | z
      · refine h.k j row ?_ i z
        rw [ej, List.getElem?_append_right (Nat.le_refl _), Nat.sub_self]
        rfl
      · rw [List.mem_singleton.mp z, ej]
        exact ⟨h1, h2⟩
  · simp at hr
    rw [← hr]
    simp
theorem RInv.take {pre : Rows} {row : List Kd} {w : Bool} {n : Nat} {s : Str} (h : RInv (pre ++ [row]) w (n + 1)) (hs : PyData.strOk s = true) (ht : (take1 pre row w s).1 = true) : RInv (take1 pre row w s).2.1 (take1 pre row w s).2.2 n := by
  unfold take1 at ht ⊢
  by_cases h1 : s = "("
  · rw [if_pos h1] at ht ⊢
    rw [Bool.and_eq_true, decide_eq_true_eq] at ht
    obtain ⟨hw, hn⟩ := ht
    show RInv (pre ++ [row] ++ [[]]) w n
    refine ⟨by simp, ?_, fun r hr => ?_, fun j r hr i hi => ?_, fun hf => by rw [hw] at hf; cases hf⟩
    · rw [List.length_append, List.length_append]
      exact hn
    · rcases List.mem_append.mp hr with q | q
      · have := h.len r q
        omega
      · rw [List.mem_singleton.mp q]
        have := h.len row (by simp)
        show 0 + n ≤ _
        omega
    · rcases snoc_get hr with q | ⟨_, er⟩
      · exact h.k j r q i hi
      · rw [er] at hi
        cases hi
  · rw [if_neg h1] at ht ⊢
    by_cases h2 : s = " -> " ∨ s = ")"
    · rw [if_pos h2] at ht ⊢
      unfold takeEnd at ht ⊢
      cases w with
      | true =>
        rw [if_pos rfl] at ht
        cases ht
      | false =>
      rw [if_neg Bool.false_ne_true] at ht ⊢
      by_cases h3 : s = " -> "
      · rw [if_pos h3]
        refine ⟨h.ne, h.n, fun r hr => ?_, h.k, fun hf => by cases hf⟩
        have := h.len r hr
        omega
      · rw [if_neg h3] at ht ⊢
        rcases List.eq_nil_or_concat pre with rfl | ⟨pre', r0, rfl⟩
        · simp at ht
        · rw [List.concat_eq_append] at *
          rcases List.eq_nil_or_concat row with rfl | ⟨row', k, rfl⟩
          · simp at ht
          · rw [List.concat_eq_append] at *
            simp only [List.getLast?_append, List.getLast?_singleton, Option.some_or, List.dropLast_concat] at ht ⊢
            by_cases h4 : 2 ≤ (row' ++ [k]).length ∧ k.as = []
            · rw [if_pos h4]
              have hr : (pre' ++ [r0] ++ [row' ++ [k]])[pre'.length + 1]? = some (row' ++ [k]) := by
                rw [List.getElem?_append_right (by simp)]
                simp
              have hk := h.k _ _ hr
              have h5 : RInv (pre' ++ [r0]) true (n + 1) := by
                refine ⟨by simp, ?_, fun r hr => h.len r (List.mem_append_left _ hr), fun j r hr i hi => ?_, fun hf => by cases hf⟩
                · have := h.n
                  rw [List.length_append] at this
                  omega
                · refine h.k j r ?_ i hi
                  rw [List.getElem?_append_left (List.getElem?_eq_some_iff.mp hr).1]
                  exact hr
              refine h5.put ?_ ?_
              · have : ordL row' ≤ 4 - pre'.length := ordL_le fun i hi => by
                  have := (hk i (List.mem_append_left _ hi)).1
                  omega
                have h6 := (hk k (by simp)).1
                show ordL row' + pre'.length ≤ 4
                omega
              · intro z hz
                rw [places] at hz
                rcases List.mem_append.mp hz with q | q
                · rw [placesL_map] at q
                  obtain ⟨l, hl, hzl⟩ := List.mem_flatten.mp q
                  obtain ⟨i, hi, rfl⟩ := List.mem_map.mp hl
                  exact (hk i (List.mem_append_left _ hi)).2 z hzl
                · have e := List.mem_singleton.mp q
                  refine (hk k (by simp)).2 z ?_
                  rw [e]
                  cases k with
                  | mk as a =>
                    rw [places]
                    simp [Kd.a]
            · rw [if_neg h4] at ht
              cases ht
    · rw [if_neg h2]
      refine h.put ?_ ?_
      · show ordL [] + _ ≤ 4
        have := h.n
        rw [List.length_append] at this
        have e : [row].length = 1 := rfl
        rw [ordL]
        omega
      · intro z hz
        rw [places, placesL] at hz
        rw [List.mem_singleton.mp hz]
        exact hs
theorem RInv.split {rows : Rows} {w : Bool} {n : Nat} (h : RInv rows w n) : ∃ pre row, rows = pre ++ [row] ∧ rows.dropLast = pre ∧ rows.getLastD [] = row := by
  obtain ⟨pre, row, e⟩ := (List.eq_nil_or_concat rows).resolve_left h.ne
  rw [List.concat_eq_append] at e
  refine ⟨pre, row, e, ?_, ?_⟩
  · rw [e, List.dropLast_concat]
  · rw [e, List.getLastD_eq_getLast?]
    simp
end KP
/-! KP7: the loops over the signs of a text, by data. -/
namespace KP
open PySem L2 FP
variable [FP.Tabl]
/-- between the signs -/
def LI (z : Str) (m : Nat) (ρ : FP.Env) : Prop := ∃ (pre rest : List Nat) (found : List Str) (o : Sl), z.cps.toList = pre ++ rest ∧ m = rest.length ∧ ρ = [Sl.d (.str z), Sl.own (found.map .str), Sl.d (.int (pre.length : Int)), o] ∧ Lex z found rest ∧ found.length ≤ pre.length
theorem LI.start (z : Str) (o : Sl) : LI z z.cps.toList.length [Sl.d (.str z), Sl.own [], Sl.d (.int 0), o] := ⟨[], _, [], o, rfl, rfl, rfl, Lex.start z, Nat.le_refl _⟩
end KP
/-! KP8: what is told of plain kinds; what is read. -/
namespace KP
open PySem L2 FP
end KP
/-! KP9: readings of kinds; facts of parts and signed atoms. -/
namespace KP
open PySem L2 FP
variable [FP.Tabl]
/-! ### shaped data -/
theorem sh_str {n : Nat} {z : Str} (h : PyData.strOk z = true) : shD n (.str z) = true := by rw [shD]; exact h
theorem sh_int {n : Nat} {i : Int} : shD n (.int i) = true := by rw [shD]
theorem sh_lst {n : Nat} {xs : List D} (h : shDs n xs = true) : shD (n + 1) (.lst xs) = true := by rw [shD]; exact h
theorem sh_tup {n : Nat} {xs : List D} (h : shDs n xs = true) : shD (n + 1) (.tup xs) = true := by rw [shD]; exact h
theorem sh_nil {n : Nat} : shDs n [] = true := by rw [shDs]
theorem sh_cons {n : Nat} {x : D} {xs : List D} (h : shD n x = true) (h' : shDs n xs = true) : shDs n (x :: xs) = true := by
  rw [shDs, h, h']
  rfl
/-! ### parts, signed atoms -/
mutual
theorem signed_mem : ∀ (k : Kd) (b : Bool) (z : Str), z ∈ signed k b ∨ z ∈ signed k (!b) ↔ z ∈ places k
  | .mk as a, b, z => by
    have h := signedL_mem as (!b) z
    rw [signed, signed, places, Bool.not_not]
    rw [Bool.not_not] at h
    simp only [List.mem_append, List.mem_singleton]
    rw [← h]
    cases b with
    | true =>
      simp only [Bool.not_true, if_true, Bool.false_eq_true, if_false, List.mem_singleton, List.not_mem_nil]
      constructor
      · rintro ((h | h) | (h | h))
        · exact .inr h
        · exact .inl (.inl h)
        · exact h.elim
        · exact .inl (.inr h)
      · rintro ((h | h) | h)
        · exact .inl (.inr h)
        · exact .inr (.inr h)
        · exact .inl (.inl h)
    | false =>
      simp only [Bool.not_false, if_true, Bool.false_eq_true, if_false, List.mem_singleton, List.not_mem_nil]
      constructor
      · rintro ((h | h) | (h | h))
        · exact h.elim
        · exact .inl (.inl h)
        · exact .inr h
        · exact .inl (.inr h)
      · rintro ((h | h) | h)
        · exact .inl (.inr h)
        · exact .inr (.inr h)
        · exact .inr (.inl h)
theorem signedL_mem : ∀ (ks : List Kd) (b : Bool) (z : Str), z ∈ signedL ks b ∨ z ∈ signedL ks (!b) ↔ z ∈ placesL ks
  | [], b, z => by simp [signedL, placesL]
  | k :: r, b, z => by
    have h1 := signed_mem k b z
    have h2 := signedL_mem r b z
    rw [signedL, signedL, placesL]
    simp only [List.mem_append]
    rw [← h1, ← h2]
    constructor
    · rintro ((h | h) | (h | h))
      · exact .inl (.inl h)
      · exact .inr (.inl h)
      · exact .inl (.inr h)
      · exact .inr (.inr h)
    · rintro ((h | h) | (h | h))
      · exact .inl (.inl h)
      · exact .inr (.inl h)
      · exact .inl (.inr h)
      · exact .inr (.inr h)
end
theorem atoms_places (k : Kd) : sortU (signed k true ++ signed k false) = sortU (places k) := sortU_congr fun z => by
  rw [List.mem_append]
  exact signed_mem k true z
def f_law : List D → M D := fun ds Q _ => match ds with
  | [.fz xs] => (∃ ns : List Int, xs = ns.map D.int ∧ ns.length ≤ 63) ∧ Q (.bl true)
  | _ => False
end KP
/-! KP10: parts of parts; readings of rows of texts. -/
namespace KP
open PySem L2 FP
variable [FP.Tabl]
theorem ne_bl {a b : Bool} {Q : D → Prop} (q : Q (.bl (!decide (a = b)))) : rdNe (.bl a) (.bl b) Q := q
theorem eq_bl {a b : Bool} {Q : D → Prop} (q : Q (.bl (decide (a = b)))) : rdEq (.bl a) (.bl b) Q := q
end KP
/-! KP11: kinds changed: one kind in the place of an atom, other atoms; what is too large. -/
namespace KP
open PySem L2 FP
variable [FP.Tabl]
/-! ### a kind in the place of an atom -/
mutual
def put (z : Str) (j : Kd) : Kd → Kd
  | .mk as a => if a = z then .mk (putL z j as ++ j.as) j.a else .mk (putL z j as) a
def putL (z : Str) (j : Kd) : List Kd → List Kd
  | [] => []
  | k :: r => put z j k :: putL z j r
end
/-! ### other atoms -/
mutual
def ren (m : Str → Str) : Kd → Kd
  | .mk as a => .mk (renL m as) (m a)
def renL (m : Str → Str) : List Kd → List Kd
  | [] => []
  | k :: r => ren m k :: renL m r
end
mutual
theorem places_ren (m : Str → Str) : ∀ k, places (ren m k) = (places k).map m
  | .mk as a => by
    rw [ren, places, places, placesL_ren m as, List.map_append]
    rfl
theorem placesL_ren (m : Str → Str) : ∀ ks, placesL (renL m ks) = (placesL ks).map m
  | [] => rfl
  | k :: r => by
    rw [renL, placesL, placesL, places_ren m k, placesL_ren m r, List.map_append]
end
/-! ### sizes -/
theorem ordL_app : ∀ xs ys : List Kd, ordL (xs ++ ys) = max (ordL xs) (ordL ys)
  | [], ys => by rw [List.nil_append, ordL]; omega
  | x :: xs, ys => by
    rw [List.cons_append, ordL, ordL, ordL_app xs ys]
    first | exact (Nat.max_assoc _ _ _).symm | exact Nat.max_assoc _ _ _ | omega
/-! ### what is made, or is too large -/
def mapS (kvs : List (Str × Str)) (z : Str) : Str := ((kvs.find? fun p => decide (p.1 = z)).map (·.2)).getD z
/-! ### the law's own helpers -/
theorem cut_from (xs : List D) {n : Int} (h0 : 0 ≤ n) (h1 : n ≤ xs.length) : cutD xs (some n) none = xs.drop n.toNat := by
  unfold cutD
  have e1 : HT.sIx xs.length 0 (some n) = n.toNat := by
    show (if n < 0 then (n + (xs.length : Int)).toNat else min n.toNat xs.length) = _
    rw [if_neg (by omega)]
    omega
  have e2 : HT.sIx xs.length xs.length none = xs.length := rfl
  rw [e1, e2]
  exact List.take_of_length_le (by rw [List.length_drop]; exact Nat.le_refl _)
theorem Good.drop {as : List Kd} {a : Str} (g : Good (.mk as a)) (n : Nat) : Good (.mk (as.drop n) a) := by
  have e := List.take_append_drop n as
  have h1 : placesL as = placesL (as.take n) ++ placesL (as.drop n) := by rw [← placesL_app, e]
  have h2 : ordL as = max (ordL (as.take n)) (ordL (as.drop n)) := by rw [← ordL_app, e]
  refine ⟨fun z hz => g.w z ?_, ?_, ?_⟩
  · rw [places] at hz ⊢
    rcases List.mem_append.mp hz with q | q
    · exact List.mem_append_left _ (by rw [h1]; exact List.mem_append_right _ q)
    · exact List.mem_append_right _ q
  · have := g.p
    rw [places, List.length_append, h1, List.length_append] at this
    rw [places, List.length_append]
    omega
  · have := g.o
    rw [ord, h2] at this
    rw [ord]
    omega
end KP
/-! KP12: readings of operators and methods of kinds; drawn dicts. -/
namespace KP
open PySem L2 FP
end KP
/-! KP13: the text of a kind is read as this kind. -/
namespace KP
open PySem L2 FP
variable [FP.Tabl]
/-! ### the signs of a kind -/
mutual
def sigs : Kd → List Str
  | .mk as a => sigsL as ++ [a]
def sigsL : List Kd → List Str
  | [] => []
  | k :: r => (if k.as.isEmpty then sigs k else ("(" : Str) :: (sigs k ++ [(")" : Str)])) ++ ((" -> " : Str) :: sigsL r)
end
end KP
/-! KP14: the text of a kind is its signs. -/
namespace KP
open PySem L2 FP
variable [FP.Tabl]
def flat (ss : List Str) : List Nat := (ss.map fun s => s.cps.toList).flatten
/-! ### the signs of a kind stand apart -/
end KP
/-! KP15: kinds grown step by step (k09). -/
namespace KP
open PySem L2 FP
variable [FP.Tabl]
theorem Kd.places_eq (i : Kd) : places i = placesL i.as ++ [i.a] := by cases i with | mk bs b => rw [places]; rfl
theorem Kd.len_eq (i : Kd) : (places i).length = (placesL i.as).length + 1 := by rw [i.places_eq, List.length_append]; rfl
end KP
/-! KP16: kinds in the place of atoms, one behind the other; names there and back. -/
namespace KP
open PySem L2 FP
variable [FP.Tabl]
/-! ### names there and back -/
theorem mapS_mem {kvs : List (Str × Str)} (hn : (kvs.map (·.1)).Nodup) {p : Str × Str} (hp : p ∈ kvs) : mapS kvs p.1 = p.2 := by
  unfold mapS
  have h1 : (kvs.find? fun q => decide (q.1 = p.1)).isSome = true := List.find?_isSome.mpr ⟨p, hp, decide_eq_true rfl⟩
  obtain ⟨q, hq⟩ := Option.isSome_iff_exists.mp h1
  rw [hq]
  have h2 := List.mem_of_find?_eq_some hq
  have h3 : q.1 = p.1 := by simpa using List.find?_some hq
  have h4 : q = p := by
    have inj : ∀ (l : List (Str × Str)), (l.map (·.1)).Nodup → q ∈ l → p ∈ l → q = p := by
      intro l
      induction l with
      | nil => intro _ h; cases h
      | cons x l ih =>
        intro hn hq hp
        rw [List.map_cons, List.nodup_cons] at hn
        rcases List.mem_cons.mp hq with e | hq
        · rcases List.mem_cons.mp hp with e' | hp
          · rw [e, e']
          · exact absurd (List.mem_map.mpr ⟨p, hp, by rw [← h3, e]⟩) hn.1
        · rcases List.mem_cons.mp hp with e' | hp
          · exact absurd (List.mem_map.mpr ⟨q, hq, by rw [h3, e']⟩) hn.1
          · exact ih hn.2 hq hp
    exact inj kvs hn h2 hp
  show q.2 = p.2
  rw [h4]
end KP
/-! KP17: promises of the law k06. -/
namespace KP
open PySem L2 FP
variable [FP.Tabl]
/-- a dict from a kind's atoms to other words -/
structure Names (k : Kd) (kvs : List (Str × Str)) : Prop where
  keys : kvs.map (·.1) = sortU (signed k true ++ signed k false)
  nd : (kvs.map (·.2)).Nodup
  w : ∀ p ∈ kvs, isWordS p.2 = true
theorem Names.ndk {k : Kd} {kvs : List (Str × Str)} (h : Names k kvs) : (kvs.map (·.1)).Nodup := by rw [h.keys]; exact sortU_nodup _
theorem Names.mem {k : Kd} {kvs : List (Str × Str)} (h : Names k kvs) {z : Str} : z ∈ kvs.map (·.1) ↔ z ∈ places k := by rw [h.keys, atoms_places, sortU_mem]
theorem map_keys {kvs : List (Str × Str)} (h : (kvs.map (·.1)).Nodup) : (kvs.map (·.1)).map (mapS kvs) = kvs.map (·.2) := by
  rw [List.map_map]
  exact List.map_congr_left fun p hp => mapS_mem h hp
theorem nodup_len_le {α : Type} [DecidableEq α] : ∀ {xs ys : List α}, xs.Nodup → (∀ x ∈ xs, x ∈ ys) → xs.length ≤ ys.length
  | [], _, _, _ => Nat.zero_le _
  | x :: xs, ys, hn, h => by
    rw [List.nodup_cons] at hn
    have hx := h x List.mem_cons_self
    have h2 : ∀ y ∈ xs, y ∈ ys.erase x := fun y hy => by
      have ne : y ≠ x := fun q => hn.1 (by rw [← q]; exact hy)
      exact (List.mem_erase_of_ne ne).mpr (h y (List.mem_cons_of_mem _ hy))
    have ih := nodup_len_le hn.2 h2
    have e := List.length_erase_of_mem hx
    have pos : 0 < ys.length := List.length_pos_of_mem hx
    rw [List.length_cons]
    omega
/-- the atoms behind the change are the new words -/
theorem Names.new {k : Kd} {kvs : List (Str × Str)} (h : Names k kvs) : (∀ z ∈ sortU (signed (ren (mapS kvs) k) true ++ signed (ren (mapS kvs) k) false), z ∈ kvs.map (·.2)) ∧ kvs.length = (sortU (signed (ren (mapS kvs) k) true ++ signed (ren (mapS kvs) k) false)).length := by
  have hm : ∀ z, z ∈ sortU (signed (ren (mapS kvs) k) true ++ signed (ren (mapS kvs) k) false) ↔ z ∈ kvs.map (·.2) := fun z => by
    rw [atoms_places, sortU_mem, places_ren, ← map_keys h.ndk, List.mem_map, List.mem_map]
    constructor
    · rintro ⟨x, hx, rfl⟩
      exact ⟨x, h.mem.mpr hx, rfl⟩
    · rintro ⟨x, hx, rfl⟩
      exact ⟨x, h.mem.mp hx, rfl⟩
  refine ⟨fun z hz => (hm z).mp hz, ?_⟩
  have h1 := nodup_len_le (sortU_nodup (signed (ren (mapS kvs) k) true ++ signed (ren (mapS kvs) k) false)) fun z hz => (hm z).mp hz
  have h2 := nodup_len_le h.nd fun z hz => (hm z).mpr hz
  rw [List.length_map] at h1 h2
  omega
/-! ### sizes -/
end KP
namespace KP
open PySem L2 FP
end KP
/-! KP18: a text is read exactly if it is the text of a kind: both readers, with no program in sight. -/
namespace KP
open PySem L2 FP
variable [FP.Tabl]
/-! ### signs -/
/-- the signs of a kind as an argument -/
def item (k : Kd) : List Str := if k.as.isEmpty then sigs k else ("(" : Str) :: (sigs k ++ [(")" : Str)])
theorem sigsL_cons (k : Kd) (r : List Kd) : sigsL (k :: r) = item k ++ ((" -> " : Str) :: sigsL r) := by
  rw [sigsL]
  rfl
theorem sigsL_app : ∀ xs ys : List Kd, sigsL (xs ++ ys) = sigsL xs ++ sigsL ys
  | [], ys => by rw [List.nil_append, sigsL, List.nil_append]
  | k :: r, ys => by rw [List.cons_append, sigsL_cons, sigsL_cons, sigsL_app r ys, List.append_assoc, List.cons_append]
theorem sigsL_one (k : Kd) : sigsL [k] = item k ++ [(" -> " : Str)] := by rw [sigsL_cons, sigsL]
theorem sigs_eq (k : Kd) : sigs k = sigsL k.as ++ [k.a] := by
  cases k with
  | mk as a => rw [sigs]; rfl
theorem item_plain {k : Kd} (h : k.as = []) : item k = [k.a] := by
  unfold item
  rw [h, sigs_eq, h, sigsL]
  rfl
theorem item_par {k : Kd} (h : k.as ≠ []) : item k = ("(" : Str) :: (sigs k ++ [(")" : Str)]) := by
  unfold item
  rw [if_neg fun q => h (List.isEmpty_iff.mp q)]
/-! ### the package's reader -/
def pres (pre : Rows) : List Str := (pre.map fun p => sigsL p ++ [("(" : Str)]).flatten
theorem pres_snoc (pre : Rows) (row : List Kd) : pres (pre ++ [row]) = pres pre ++ (sigsL row ++ [("(" : Str)]) := by
  unfold pres
  rw [List.map_append, List.flatten_append]
  simp
def RdOk (rows : Rows) : Prop := ∀ row ∈ rows, ∀ k ∈ row, ∀ z ∈ places k, isWordS z = true
def St (done : List Str) (pre : Rows) (row : List Kd) : Bool → Prop
  | true => done = pres pre ++ sigsL row
  | false => ∃ (r : List Kd) (k : Kd), row = r ++ [k] ∧ done = pres pre ++ (sigsL r ++ item k)
theorem RdOk.more {pre : Rows} {row : List Kd} (h : RdOk (pre ++ [row])) {k : Kd} (hk : ∀ z ∈ places k, isWordS z = true) : RdOk (pre ++ [row ++ [k]]) := fun r hr j hj => by
  rcases List.mem_append.mp hr with q | q
  · exact h r (List.mem_append_left _ q) j hj
  · rw [List.mem_singleton.mp q] at hj
    rcases List.mem_append.mp hj with q2 | q2
    · exact h row (List.mem_append_right _ (List.mem_singleton.mpr rfl)) j q2
    · rw [List.mem_singleton.mp q2]
      exact hk
theorem St.step {done : List Str} {pre : Rows} {row : List Kd} {w : Bool} {s : Str} (h : St done pre row w) (hr : RdOk (pre ++ [row])) (ht : (take1 pre row w s).1 = true) :
    ∃ (pre' : Rows) (row' : List Kd), (take1 pre row w s).2.1 = pre' ++ [row'] ∧ St (done ++ [s]) pre' row' (take1 pre row w s).2.2 ∧ RdOk (pre' ++ [row']) := by
  unfold take1 at ht ⊢
  by_cases h1 : s = "("
  · subst h1
    rw [if_pos rfl] at ht ⊢
    have hw : w = true := by
      have := Bool.and_eq_true_iff.mp ht
      exact this.1
    subst hw
    refine ⟨pre ++ [row], [], rfl, ?_, fun r hr' j hj => ?_⟩
    · show done ++ [("(" : Str)] = pres (pre ++ [row]) ++ sigsL []
      have h' : done = pres pre ++ sigsL row := h
      rw [pres_snoc, sigsL, List.append_nil, h', List.append_assoc]
    · rcases List.mem_append.mp hr' with q | q
      · exact hr r q j hj
      · rw [List.mem_singleton.mp q] at hj
        cases hj
  rw [if_neg h1] at ht ⊢
  by_cases h2 : s = " -> " ∨ s = ")"
  · rw [if_pos h2] at ht ⊢
    unfold takeEnd at ht ⊢
    cases w with
    | true => cases ht
    | false =>
      rw [if_neg Bool.false_ne_true] at ht ⊢
      obtain ⟨r, k, rfl, hd⟩ := h
      by_cases h3 : s = " -> "
      · subst h3
        rw [if_pos rfl] at ht ⊢
        refine ⟨pre, r ++ [k], rfl, ?_, hr⟩
        show done ++ [(" -> " : Str)] = pres pre ++ sigsL (r ++ [k])
        rw [hd, sigsL_app, sigsL_one]
        simp [List.append_assoc]
      · have h4 : s = ")" := h2.resolve_left h3
        subst h4
        rw [if_neg h3] at ht ⊢
        rw [List.getLast?_concat] at ht ⊢
        cases hp : pre.getLast? with
        | none =>
          rw [hp] at ht
          cases ht
        | some r0 =>
          rw [hp] at ht
          dsimp only at ht ⊢
          split at ht
          case isFalse => cases ht
          rename_i hc
          rw [if_pos hc]
          have hpre : pre = pre.dropLast ++ [r0] := by
            cases pre with
            | nil => cases hp
            | cons x xs =>
              have e := List.dropLast_concat_getLast (l := x :: xs) (List.cons_ne_nil _ _)
              rw [List.getLast?_eq_some_getLast (List.cons_ne_nil _ _)] at hp
              rw [Option.some.inj hp] at e
              exact e.symm
          generalize pre.dropLast = pp at hpre ⊢
          subst hpre
          have hrr : r ≠ [] := fun q => by
            subst q
            have := hc.1
            simp at this
          refine ⟨pp, r0 ++ [.mk (r ++ [k]).dropLast k.a], rfl, ⟨r0, .mk (r ++ [k]).dropLast k.a, rfl, ?_⟩, ?_⟩
          · rw [List.dropLast_concat, item_par (k := .mk r k.a) hrr, hd, pres_snoc, item_plain hc.2, sigs_eq]
            simp [List.append_assoc]
            rfl
          · rw [List.dropLast_concat]
            refine RdOk.more (fun q hq => hr q (List.mem_append_left _ hq)) fun z hz => ?_
            rw [places] at hz
            have hrow : ∀ j ∈ r ++ [k], ∀ z ∈ places j, isWordS z = true := hr _ (List.mem_append_right _ (List.mem_singleton.mpr rfl))
            rcases List.mem_append.mp hz with q | q
            · rw [placesL_map] at q
              obtain ⟨x, hx1, hx2⟩ := List.mem_flatten.mp q
              obtain ⟨j, hj1, rfl⟩ := List.mem_map.mp hx1
              exact hrow j (List.mem_append_left _ hj1) z hx2
            · rw [List.mem_singleton.mp q]
              refine hrow k (List.mem_append_right _ (List.mem_singleton.mpr rfl)) k.a ?_
              rw [k.places_eq]
              simp
  · rw [if_neg h2] at ht ⊢
    have hw := Bool.and_eq_true_iff.mp ht
    have hw1 : w = true := hw.1
    subst hw1
    have h' : done = pres pre ++ sigsL row := h
    refine ⟨pre, row ++ [.mk [] s], rfl, ⟨row, .mk [] s, rfl, ?_⟩, hr.more fun z hz => ?_⟩
    · rw [h', item_plain (k := .mk [] s) rfl, List.append_assoc]
      rfl
    · rw [places, placesL] at hz
      rw [List.mem_singleton.mp hz]
      exact hw.2
/-! ### the kind of a text -/
end KP
/-! KP19: the reader of law k04, with no program in sight. -/
namespace KP
open PySem L2 FP
variable [FP.Tabl]
abbrev Rd := List Nat → Option (Kd × List Nat)
/-! ### sound -/
/-! ### complete -/
def stops (r : List Nat) : Prop := r = [] ∨ ∃ r', r = 41 :: r'
/-! ### parentheses -/
/-! ### what the law finds due -/
end KP
/-! KP20: what the defs about texts of kinds promise (k04). -/
namespace KP
open PySem L2 FP
variable [FP.Tabl]
structure okT (z : Str) : Prop where
  o : okStr z
  l : z.length ≤ 990
def rowT (z : Str) : Option (Kd × List Nat) → D
  | none => .non
  | some (k, r) => .tup [plain k, .int ((z.cps.toList.length : Int) - (r.length : Int))]
end KP
/-! KP21: what the defs about kinds promise of any arguments (k07). -/
namespace KP
open PySem L2 FP
variable [FP.Tabl]
def okI : D → Prop
  | .ins c _ => c = "Type"
  | d => okV d
theorem okV.i {d : D} (h : okV d) : okI d := by
  cases d with
  | ins c fs => exact h.elim
  | _ => exact h
/-! ### words and numbers -/
/-! ### dicts of any data -/
/-! ### making -/
/-! ### reading -/
/-! ### the word for an error -/
end KP
/-! KP22: wrong arguments, as law k07 draws them. -/
namespace KP
open PySem L2 FP
variable [FP.Tabl]
theorem okT_of {z : Str} (h : (decide (z.length ≤ 990) && z.cps.toList.all fun c => decide (c < 1114112)) = true) : okT z := by
  simp only [Bool.and_eq_true, decide_eq_true_eq, List.all_eq_true] at h
  exact ⟨⟨by omega, h.2⟩, h.1⟩
/-- no word -/
structure OddP (d : D) : Prop where
  v : okV d
  w : isWordD d = false
theorem OddP.no {d : D} (h : OddP d) {a : Str} (e : d = .str a) (hw : isWordS a = true) {α : Prop} : α := by
  subst e
  have h2 : isWordS a = false := h.w
  rw [hw] at h2
  cases h2
end KP
/-! KP23: law k07's calls that are refused. -/
namespace KP
open PySem L2 FP
end KP
/-! KP24: wrong indices, operands and names, as law k07 draws them. -/
namespace KP
open PySem L2 FP
/-! ### dicts made of rows of pairs -/
/-! ### wrong dicts of names -/
/-! ### calls on known kinds -/
end KP
/-! KP25: plain libraries. -/
namespace KP
open PySem L2 FP
variable [FP.Tabl]
noncomputable instance : DecidableEq Kd := fun _ _ => Classical.propDecidable _
abbrev Lib := List (Str × Kd)
def keysL (L : Lib) : List Str := L.map (·.1)
def getL (L : Lib) (z : Str) : Option Kd := (L.find? fun p => decide (p.1 = z)).map (·.2)
theorem getL_nil (z : Str) : getL [] z = none := rfl
theorem getL_cons (p : Str × Kd) (L : Lib) (z : Str) : getL (p :: L) z = if p.1 = z then some p.2 else getL L z := by
  unfold getL
  rw [List.find?_cons]
  by_cases q : p.1 = z <;> simp [q]
theorem getL_app (L M : Lib) (z : Str) : getL (L ++ M) z = (getL L z).or (getL M z) := by
  induction L with
  | nil => rfl
  | cons p r ih =>
    rw [List.cons_append, getL_cons, getL_cons, ih]
    by_cases q : p.1 = z
    · rw [if_pos q, if_pos q]
      rfl
    · rw [if_neg q, if_neg q]
theorem getL_out {L : Lib} {z : Str} : getL L z = none ↔ z ∉ keysL L := by
  induction L with
  | nil => simp [getL, keysL]
  | cons p r ih =>
    rw [getL_cons]
    by_cases q : p.1 = z
    · rw [if_pos q]
      simp [keysL, q]
    · rw [if_neg q, ih]
      simp [keysL, Ne.symm q]
theorem getL_some {L : Lib} {z : Str} {k : Kd} (h : getL L z = some k) : (z, k) ∈ L := by
  induction L with
  | nil => cases h
  | cons p r ih =>
    rw [getL_cons] at h
    by_cases q : p.1 = z
    · rw [if_pos q] at h
      cases h
      rw [← q]
      exact List.mem_cons_self
    · rw [if_neg q] at h
      exact List.mem_cons_of_mem _ (ih h)
theorem getL_of {L : Lib} (nd : (keysL L).Nodup) {z : Str} {k : Kd} (h : (z, k) ∈ L) : getL L z = some k := by
  induction L with
  | nil => cases h
  | cons p r ih =>
    have nd2 : (p.1 :: keysL r).Nodup := nd
    rw [List.nodup_cons] at nd2
    rw [getL_cons]
    rcases List.mem_cons.mp h with e | e
    · rw [← e, if_pos rfl]
    · have hm : z ∈ keysL r := List.mem_map.mpr ⟨_, e, rfl⟩
      rw [if_neg fun q => nd2.1 (by rw [q]; exact hm)]
      exact ih nd2.2 e
theorem getL_in {L : Lib} {z : Str} (h : z ∈ keysL L) : ∃ k, getL L z = some k ∧ (z, k) ∈ L := by
  cases q : getL L z with
  | none => exact absurd h (getL_out.mp q)
  | some k => exact ⟨k, rfl, getL_some q⟩
theorem key_in {L : Lib} {z : Str} {k : Kd} (h : getL L z = some k) : z ∈ keysL L := List.mem_map.mpr ⟨_, getL_some h, rfl⟩
/-- libraries with the same parts -/
def sameL (L M : Lib) : Prop := ∀ z, getL L z = getL M z
theorem sameL.keys {L M : Lib} (h : sameL L M) (z : Str) : z ∈ keysL L ↔ z ∈ keysL M := by
  constructor
  · intro m
    obtain ⟨k, hk, _⟩ := getL_in m
    rw [h z] at hk
    exact key_in hk
  · intro m
    obtain ⟨k, hk, _⟩ := getL_in m
    rw [← h z] at hk
    exact key_in hk
theorem sameL.symm {L M : Lib} (h : sameL L M) : sameL M L := fun z => (h z).symm
theorem sameL.trans {L M N : Lib} (h : sameL L M) (g : sameL M N) : sameL L N := fun z => (h z).trans (g z)
/-- a library as the package has them -/
structure LibG (L : Lib) : Prop where
  nd : (keysL L).Nodup
  w : ∀ p ∈ L, isWordS p.1 = true
  g : ∀ p ∈ L, Good p.2
theorem LibG.same {L M : Lib} (h : LibG L) (s : sameL L M) (nm : (keysL M).Nodup) : LibG M := by
  have m : ∀ p ∈ M, p ∈ L := fun p hp => by
    have e := getL_of nm (show (p.1, p.2) ∈ M from hp)
    rw [← s p.1] at e
    exact getL_some e
  exact ⟨nm, fun p hp => h.w p (m p hp), fun p hp => h.g p (m p hp)⟩
theorem LibG.sub {L M : Lib} (h : LibG L) (s : M.Sublist L) : LibG M := ⟨h.nd.sublist (s.map _), fun p hp => h.w p (s.subset hp), fun p hp => h.g p (s.subset hp)⟩
theorem LibG.nil : LibG [] := ⟨List.nodup_nil, fun _ h => absurd h List.not_mem_nil, fun _ h => absurd h List.not_mem_nil⟩
/-! ### lines, texts -/
/-! ### dicts of libraries -/
/-- a part more, or another kind of one -/
def putL1 (L : Lib) (z : Str) (k : Kd) : Lib := if z ∈ keysL L then L.map (fun p => if p.1 = z then (p.1, k) else p) else L ++ [(z, k)]
theorem get_put (L : Lib) (z : Str) (k : Kd) (y : Str) : getL (putL1 L z k) y = if y = z then some k else getL L y := by
  unfold putL1
  by_cases hz : z ∈ keysL L
  · rw [if_pos hz]
    induction L with
    | nil => cases hz
    | cons p r ih =>
      rw [List.map_cons, getL_cons, getL_cons]
      have ih2 : getL (r.map fun p => if p.1 = z then (p.1, k) else p) y = if y = z ∧ z ∈ keysL r then some k else getL r y := by
        by_cases hr : z ∈ keysL r
        · rw [ih hr]
          by_cases q : y = z <;> simp [q, hr]
        · have e : (r.map fun p => if p.1 = z then (p.1, k) else p) = r := by
            conv => rhs; rw [← List.map_id r]
            refine List.map_congr_left fun x hx => ?_
            rw [if_neg fun q => hr (List.mem_map.mpr ⟨x, hx, q⟩)]
            rfl
          rw [e, if_neg fun q => hr q.2]
      rw [ih2]
      by_cases q1 : p.1 = z
      · rw [if_pos q1]
        by_cases q2 : y = z
        · rw [if_pos (show p.1 = y by rw [q1, q2]), if_pos q2]
        · have n1 : ¬ p.1 = y := fun e => q2 (by rw [← e, q1])
          have n2 : ¬ (y = z ∧ z ∈ keysL r) := fun c => q2 c.1
          rw [if_neg n1, if_neg n2, if_neg q2, if_neg n1]
      · rw [if_neg q1]
        have hr : z ∈ keysL r := (List.mem_cons.mp (show z ∈ p.1 :: keysL r from hz)).resolve_left fun e => q1 e.symm
        by_cases q2 : y = z
        · rw [if_neg (show ¬ p.1 = y from fun e => q1 (by rw [e, q2])), if_pos ⟨q2, hr⟩, if_pos q2]
        · have n2 : ¬ (y = z ∧ z ∈ keysL r) := fun c => q2 c.1
          rw [if_neg q2, if_neg n2]
  · rw [if_neg hz, getL_app, getL_cons, getL_nil]
    by_cases q : y = z
    · subst q
      rw [getL_out.mpr hz]
      show (if y = y then some k else none) = if y = y then some k else none
      rfl
    · rw [if_neg q, if_neg (show ¬ (z, k).1 = y from Ne.symm q)]
      cases getL L y <;> rfl
theorem keys_put (L : Lib) (z : Str) (k : Kd) : keysL (putL1 L z k) = if z ∈ keysL L then keysL L else keysL L ++ [z] := by
  unfold putL1
  by_cases hz : z ∈ keysL L
  · rw [if_pos hz, if_pos hz]
    unfold keysL
    rw [List.map_map]
    refine List.map_congr_left fun p _ => ?_
    show (if p.1 = z then (p.1, k) else p).1 = p.1
    split <;> rfl
  · rw [if_neg hz, if_neg hz]
    unfold keysL
    rw [List.map_append]
    rfl
theorem nd_put {L : Lib} (nd : (keysL L).Nodup) (z : Str) (k : Kd) : (keysL (putL1 L z k)).Nodup := by
  rw [keys_put]
  split
  · exact nd
  · rename_i hz
    exact List.nodup_append.mpr ⟨nd, by simp, fun a ha b hb e => hz (by rw [List.mem_singleton.mp hb] at e; rw [← e]; exact ha)⟩
theorem LibG.put {L : Lib} (h : LibG L) {z : Str} {k : Kd} (hz : isWordS z = true) (hk : Good k) : LibG (putL1 L z k) := by
  have key : ∀ p ∈ putL1 L z k, p = (z, k) ∨ p ∈ L := fun p hp => by
    have e := getL_of (nd_put h.nd z k) (show (p.1, p.2) ∈ putL1 L z k from hp)
    rw [get_put] at e
    by_cases q : p.1 = z
    · rw [if_pos q] at e
      cases e
      rw [← q]
      exact .inl rfl
    · rw [if_neg q] at e
      exact .inr (getL_some e)
  refine ⟨nd_put h.nd z k, fun p hp => ?_, fun p hp => ?_⟩
  · rcases key p hp with e | e
    · rw [e]
      exact hz
    · exact h.w p e
  · rcases key p hp with e | e
    · rw [e]
      exact hk
    · exact h.g p e
end KP
/-! KP26: what the defs about libraries promise. -/
namespace KP
open PySem L2 FP
variable [FP.Tabl]
/-! ### plain kinds compared -/
/-! ### the package's defs -/
def noL (d : D) : Prop := isiD ["Library"] (fun _ => true) d = some false
/-! ### readings of libraries -/
end KP
/-! KP27: readings of libraries. -/
namespace KP
open PySem L2 FP
end KP
/-! KP28: what expressions about libraries come to. -/
namespace KP
open PySem L2 FP
/-! ### tuples of texts compared -/
/-! ### libraries as operands -/
end KP
/-! KP29: libraries put together: what laws ask of the plain ones. -/
namespace KP
open PySem L2 FP
variable [FP.Tabl]
/-! ### plain facts -/
/-! ### the law's own helpers -/
def f_tokT : List D → M D := fun ds Q _ => match ds with
  | [.tok] => Q (.bl true)
  | _ => False
end KP
/-! KP30: the known libraries of the laws; drawn libraries. -/
namespace KP
open PySem L2 FP
variable [FP.Tabl]
def qa : Kd := .mk [] "a"
def qb : Kd := .mk [] "b"
def qc : Kd := .mk [] "c"
def qn : Kd := .mk [] "n"
def q1 : Lib := [("z", qn), ("s", .mk [qn] "n")]
def q2 : Lib := [("f", .mk [qa] "b"), ("g", .mk [qb] "c")]
def q3 : Lib := [("k", .mk [.mk [qa] "b"] "c"), ("x", qb)]
def q4 : Lib := [("k", .mk [.mk [qa] "b"] "a"), ("g", .mk [qa] "b"), ("y", qa)]
def q5 : Lib := [("p", .mk [qa, qb] "c"), ("y", qa), ("w", qb), ("h", .mk [qc] "a")]
end KP
/-! KP31: libraries put together: the plain laws; other names of parts. -/
namespace KP
open PySem L2 FP
variable [FP.Tabl]
section
variable {L M : Lib}
noncomputable def fin (L M : Lib) : Lib := L.filter fun p => decide (getL M p.1 = some p.2)
end
/-! ### other names -/
end KP
/-! KP32: libraries changed: what the defs promise; plain laws. -/
namespace KP
open PySem L2 FP
variable [FP.Tabl]
/-! ### any values asked for among the parts -/
def strsOf : List D → List Str
  | [] => []
  | .str z :: r => z :: strsOf r
  | _ :: r => strsOf r
/-! ### loops with a first bad one -/
end KP
/-! KP33: other names of parts and atoms: what the defs promise. -/
namespace KP
open PySem L2 FP
end KP
/-! KP34: lines of libraries read. -/
namespace KP
open PySem L2 FP
variable [FP.Tabl]
/-- a line that can be looked at: its halves are short -/
structure lineOk (z : Str) : Prop where
  h : ∀ h ∈ Txt.split z " : ", okT h
  l : z.length ≤ 4000
  n : (Txt.split z " : ").length ≤ 4000
end KP
/-! KP35: libraries changed step by step: plain laws and what the law's defs promise. -/
namespace KP
open PySem L2 FP
variable [FP.Tabl]
/-! ### dicts of names -/
/-! ### what the law's defs promise -/
/-! ### dicts made by the law -/
/-! ### the law itself -/
theorem end_v {N : Nd} {i : Nat} {f : DTE} {ρ : FP.Env} (d : D) (hf : Ev f ρ d) (h : N.nx (ρ.set i (.d d))) : dSet i f N ρ := hf _ _ h
theorem ev_prop {f : DTE} {ρ : FP.Env} {d : D} {cl : Str} {F : List D → M D} {fs : List (Str × D)} (ho : Ev f ρ (.ins cl fs)) (h : ∀ Q : D → Prop, Q d → F [.ins cl fs] Q F0) : Ev (dProp cl F f) ρ d := fun Q E q => ho _ _ ⟨rfl, h _ q⟩
theorem sp2 : Txt.split "g : b -> c" " : " = (["g", "b -> c"] : List Str) := by kernel_rfl
theorem ok2 : lineOk "g : b -> c" := ⟨fun h hh => by
  rw [sp2] at hh
  simp only [List.mem_cons, List.not_mem_nil, or_false] at hh
  rcases hh with rfl | rfl
  · exact okT_of (by decide +kernel)
  · exact okT_of (by decide +kernel), by decide +kernel, by rw [sp2]; decide⟩
end KP
/-! KP36: the lines of a library taken apart. -/
namespace KP
open PySem L2 FP
end KP
/-! KP37: spoilt lines tell no part. -/
namespace KP
open PySem L2 FP
end KP
/-! KP38: a line's separator exchanged; the law's spoilt lines. -/
namespace KP
open PySem L2 FP
end KP
/-! KP39: law k11: what its defs promise; spoilt lines; small steps. -/
namespace KP
open PySem L2 FP
variable [FP.Tabl]
/-! ### small steps -/
/-! ### reading lines -/
/-! ### what the law's defs promise -/
/-! ### spoilt lines -/
/-! ### lines in any order -/
theorem LibG.take {L : Lib} (h : LibG L) (n : Nat) : LibG (L.take n) := h.sub (List.take_sublist n L)
theorem LibG.drop {L : Lib} (h : LibG L) (n : Nat) : LibG (L.drop n) := h.sub (List.drop_sublist n L)
/-! ### nine lines -/
end KP
/-! KP40: nodes of programs: pure. -/
namespace KP
open PySem L2 FP
variable [FP.Tabl]
/-- a node: binders, head, number of arguments -/
abbrev Nod := Nat × Str × Nat
def headG (h : Str) : Bool := isWordS h || (levelS h).isSome
def okNodeD : D → Prop
  | .tup [x, y, z] => okV x ∧ okV y ∧ okV z
  | d => okV d
def rowOk (b : Nat) (n : Nod) : Bool := decide (b + n.1 ≤ 100) && (match levelS n.2.1 with
  | none => true
  | some l => decide (l < ((b + n.1 : Nat) : Int)))
/-! ### the law's own look -/
def xS (k : Nat) : Str := "x" ++ Str.ofString (toString (k : Int))
/-- heads as the law draws them -/
def headL : List Str := ["f", "g", "cons", "", "F", "x00", "?"]
def headW (h : Str) : Prop := h ∈ headL ∨ ∃ k, k < 100 ∧ h = xS k
theorem x_level : ∀ k < 100, levelS (xS k) = some (k : Int) ∧ isWordS (xS k) = false ∧ xS k ∉ (["f", "g", "cons"] : List Str) := by decide +kernel
end KP
/-! KP41: nodes of programs: what the package's defs promise; loops. -/
namespace KP
open PySem L2 FP
variable [FP.Tabl]
/-! ### loops by what is left -/
/-! ### places below places -/
def okNs : D → Prop
  | .tup xs => ∀ x ∈ xs, okNodeD x
  | d => okV d
theorem okNs.v {d : D} (h : okNs d) : okV d := by
  cases d with
  | tup xs => exact trivial
  | _ => exact h
/-! ### lists of ints compared -/
/-! ### small facts -/
def isTupD : D → Bool
  | .tup _ => true
  | _ => false
theorem isi_tup {d : D} (h : okV d) : ∃ n, tyName d = some n ∧ kitB n "tuple" = some (isTupD d) := by
  cases d with
  | fz _ => exact h.elim
  | ins _ _ => exact h.elim
  | cl _ => exact h.elim
  | fn _ _ => exact h.elim
  | non => exact ⟨_, rfl, by show kitB "NoneType" "tuple" = some false; decide +kernel⟩
  | bl _ => exact ⟨_, rfl, by show kitB "bool" "tuple" = some false; decide +kernel⟩
  | int _ => exact ⟨_, rfl, by show kitB "int" "tuple" = some false; decide +kernel⟩
  | str _ => exact ⟨_, rfl, by show kitB "str" "tuple" = some false; decide +kernel⟩
  | tup _ => exact ⟨_, rfl, by show kitB "tuple" "tuple" = some true; decide +kernel⟩
  | lst _ => exact ⟨_, rfl, by show kitB "list" "tuple" = some false; decide +kernel⟩
  | dct _ => exact ⟨_, rfl, by show kitB "dict" "tuple" = some false; decide +kernel⟩
  | tok => exact ⟨_, rfl, by show kitB "list" "tuple" = some false; decide +kernel⟩
end KP
/-! KP42: rows of nodes, the law's own look at lists of values. -/
namespace KP
open PySem L2 FP
variable [FP.Tabl]
/-! ### the law's own look at values -/
def oddL : List D := [.tup [.str "f", .int 0, .int 0], .tup [.int 0, .str "f"], .tup [.int 0, .str "f", .int 0, .int 0], .lst [.int 0, .str "f", .int 0], .non, .tup [.bl true, .str "f", .int 0]]
/-- a value as the law puts it into rows of nodes -/
def nodeC (d : D) : Prop := (∃ (b : Int) (h : Str) (c : Int), d = .tup [.int b, .str h, .int c] ∧ headW h ∧ -1 ≤ b ∧ b ≤ 900 ∧ -1 ≤ c ∧ c ≤ 900) ∨ d ∈ oddL
end KP
/-! KP43: plain programs. -/
namespace KP
open PySem L2 FP
variable [FP.Tabl]
/-- a plain program: binders, head, arguments -/
inductive Pt where
  | mk (b : Nat) (h : Str) (as : List Pt)
def Pt.b : Pt → Nat
  | .mk b _ _ => b
def Pt.h : Pt → Str
  | .mk _ h _ => h
def Pt.as : Pt → List Pt
  | .mk _ _ as => as
mutual
def nodesT : Pt → List Nod
  | .mk b h as => (b, h, as.length) :: nodesTs as
def nodesTs : List Pt → List Nod
  | [] => []
  | p :: r => nodesT p ++ nodesTs r
end
mutual
def sizeT : Pt → Nat
  | .mk _ _ as => 1 + sizeTs as
def sizeTs : List Pt → Nat
  | [] => 0
  | p :: r => sizeT p + sizeTs r
end
mutual
theorem nodes_len : ∀ p : Pt, (nodesT p).length = sizeT p
  | .mk b h as => by rw [nodesT, List.length_cons, nodes_lens as, sizeT, Nat.add_comm]
theorem nodes_lens : ∀ ps : List Pt, (nodesTs ps).length = sizeTs ps
  | [] => by rw [nodesTs, sizeTs]; rfl
  | p :: r => by rw [nodesTs, List.length_append, nodes_len p, nodes_lens r, sizeTs]
end
theorem size_pos (p : Pt) : 1 ≤ sizeT p := by
  cases p with
  | mk b h as =>
    rw [sizeT]
    omega
/-! ### drawn programs -/
/-! ### what the law's defs promise -/
/-! ### small steps -/
theorem x_len : ∀ k : Nat, k < 100 → (Str.ofString (toString (k : Int))).length ≤ 2 := by decide +kernel
end KP
/-! KP44: values near rows of nodes: small facts. -/
namespace KP
open PySem L2 FP
variable [FP.Tabl]
/-! ### steps -/
/-! ### values near nodes -/
theorem l_ok : ∀ h ∈ headL, PyData.strOk h = true ∧ (h.length ≤ 1000 ∧ (h.cps.toList.all fun c => decide (c < 1114112)) = true) := by decide +kernel
theorem x_ok : ∀ k < 100, PyData.strOk (xS k) = true ∧ ((xS k).length ≤ 1000 ∧ ((xS k).cps.toList.all fun c => decide (c < 1114112)) = true) := by decide +kernel
theorem headW.ok {h : Str} (w : headW h) : PyData.strOk h = true ∧ okStr h := by
  have e : PyData.strOk h = true ∧ (h.length ≤ 1000 ∧ (h.cps.toList.all fun c => decide (c < 1114112)) = true) := by
    rcases w with w | ⟨k, hk, rfl⟩
    · exact l_ok h w
    · exact x_ok k hk
  refine ⟨e.1, e.2.1, fun c hc => ?_⟩
  have h2 := e.2.2
  rw [List.all_eq_true] at h2
  exact of_decide_eq_true (h2 c hc)
theorem f_strOk : PyData.strOk "f" = true := by decide +kernel
theorem nodeC.sh {n : Nat} {d : D} (h : nodeC d) : shD (n + 1) d = true := by
  rcases h with ⟨b, h, c, rfl, w, _⟩ | h
  · exact sh_tup (sh_cons sh_int (sh_cons (sh_str w.ok.1) (sh_cons sh_int sh_nil)))
  · simp only [oddL, List.mem_cons, List.not_mem_nil, or_false] at h
    rcases h with rfl | rfl | rfl | rfl | rfl | rfl
    · exact sh_tup (sh_cons (sh_str f_strOk) (sh_cons sh_int (sh_cons sh_int sh_nil)))
    · exact sh_tup (sh_cons sh_int (sh_cons (sh_str f_strOk) sh_nil))
    · exact sh_tup (sh_cons sh_int (sh_cons (sh_str f_strOk) (sh_cons sh_int (sh_cons sh_int sh_nil))))
    · exact sh_lst (sh_cons sh_int (sh_cons (sh_str f_strOk) (sh_cons sh_int sh_nil)))
    · rw [shD]
    · exact sh_tup (sh_cons (by rw [shD]) (sh_cons (sh_str f_strOk) (sh_cons sh_int sh_nil)))
theorem nodeCs.sh {n : Nat} : ∀ {xs : List D}, (∀ x ∈ xs, nodeC x) → shDs (n + 1) xs = true
  | [], _ => sh_nil
  | x :: r, h => sh_cons (h x List.mem_cons_self).sh (nodeCs.sh fun y hy => h y (List.mem_cons_of_mem _ hy))
theorem okStr_f : okStr "f" := (headW.ok (.inl (by decide +kernel))).2
theorem nodeC.ok {d : D} (h : nodeC d) : okNodeD d := by
  rcases h with ⟨b, h, c, rfl, w, _⟩ | h
  · exact ⟨trivial, w.ok.2, trivial⟩
  · simp only [oddL, List.mem_cons, List.not_mem_nil, or_false] at h
    rcases h with rfl | rfl | rfl | rfl | rfl | rfl
    · exact ⟨okStr_f, trivial, trivial⟩
    · exact trivial
    · exact trivial
    · exact trivial
    · exact trivial
    · exact ⟨trivial, okStr_f, trivial⟩
/-! ### open rows -/
/-! ### odd values -/
/-! ### rows changed at a place -/
/-! ### what is taken -/
end KP
/-! KP45: steps over own lists. -/
namespace KP
open PySem L2 FP
end KP
/-! KP46: law k18: what is asked at the end. -/
namespace KP
open PySem L2 FP
/-! ### the four rows at the end -/
end KP
/-! KP47: plain programs and their rows of nodes: places, bound variables, ends, texts. -/
namespace KP
open PySem L2 FP
variable [FP.Tabl]
/-! ### places -/
def startsP : Nat → List Pt → List (Nat × Pt)
  | _, [] => []
  | i, p :: r => (i, p) :: startsP (i + sizeT p) r
def startsT (i : Nat) (ps : List Pt) : List Nat := (startsP i ps).map (·.1)
mutual
def kidsT : Nat → Pt → List (List Nat)
  | i, .mk _ _ as => startsT (i + 1) as :: kidsTs (i + 1) as
def kidsTs : Nat → List Pt → List (List Nat)
  | _, [] => []
  | i, p :: r => kidsT i p ++ kidsTs (i + sizeT p) r
end
mutual
def bndsT : Nat → Pt → List Nat
  | bd, .mk b _ as => bd :: bndsTs (bd + b) as
def bndsTs : Nat → List Pt → List Nat
  | _, [] => []
  | bd, p :: r => bndsT bd p ++ bndsTs bd r
end
mutual
def endsT : Nat → Pt → List Nat
  | i, .mk _ _ as => (i + 1 + sizeTs as) :: endsTs (i + 1) as
def endsTs : Nat → List Pt → List Nat
  | _, [] => []
  | i, p :: r => endsT i p ++ endsTs (i + sizeT p) r
end
/-! ### what the program's rows are -/
/-! ### a tree at a place of the rows -/
structure AtP (ns : List Nod) (K : List (List Nat)) (B E : List Nat) (p : Pt) (bd i : Nat) : Prop where
  n : ∃ r, ns.drop i = nodesT p ++ r
  k : ∃ r, K.drop i = kidsT i p ++ r
  b : ∃ r, B.drop i = bndsT bd p ++ r
  e : ∃ r, E.drop i = endsT i p ++ r
theorem drop_at {α : Type} {l a b : List α} {i n : Nat} (h : l.drop i = a ++ b) (hn : a.length = n) : l.drop (i + n) = b := by
  rw [← List.drop_drop, h, List.drop_left' hn]
end KP
/-! KP48: trees with heads in their scope are programs; their texts. -/
namespace KP
open PySem L2 FP
variable [FP.Tabl]
/-- a head: one of some words, or a variable in scope -/
def scH (W : Str → Prop) (inner : Nat) (h : Str) : Prop := W h ∨ ∃ k, k < inner ∧ h = xS k
mutual
def scT (W : Str → Prop) : Nat → Pt → Prop
  | bd, .mk b h as => b ≤ 15 ∧ as.length ≤ 15 ∧ bd + b ≤ 100 ∧ scH W (bd + b) h ∧ scTs W (bd + b) as
def scTs (W : Str → Prop) : Nat → List Pt → Prop
  | _, [] => True
  | bd, p :: r => scT W bd p ∧ scTs W bd r
end
theorem letter_no_digit : ∀ c ∈ letters, c ∉ digL := by decide +kernel
theorem word_level {z : Str} (h : isWordS z = true) : levelS z = none := by
  have hl := word_letters h
  unfold levelS
  split
  · rename_i x a e
    rw [e] at hl
    rw [if_neg]
    rintro ⟨_, h2⟩
    exact letter_no_digit a (hl a (by simp)) h2
  · rename_i x a b e
    rw [e] at hl
    rw [if_neg]
    rintro ⟨_, h2, _⟩
    exact letter_no_digit a (hl a (by simp)) h2
  · rfl
/-- the words that are meant are words -/
def WordsP (W : Str → Prop) : Prop := ∀ h, W h → isWordS h = true
section
variable {W : Str → Prop} (hW : WordsP W)
include hW
theorem scH.g {inner : Nat} {h : Str} (hi : inner ≤ 100) (o : scH W inner h) : headG h = true := by
  unfold headG
  rcases o with o | ⟨k, hk, rfl⟩
  · rw [hW h o]
    rfl
  · rw [(x_level k (by omega)).1]
    simp
theorem scH.row {bd b c : Nat} {h : Str} (hi : bd + b ≤ 100) (o : scH W (bd + b) h) : rowOk bd (b, h, c) = true := by
  unfold rowOk
  rw [decide_eq_true (show bd + b ≤ 100 from hi), Bool.true_and]
  rcases o with o | ⟨k, hk, rfl⟩
  · show (match levelS h with | none => true | some l => decide (l < ((bd + b : Nat) : Int))) = true
    rw [word_level (hW h o)]
  · show (match levelS (xS k) with | none => true | some l => decide (l < ((bd + b : Nat) : Int))) = true
    rw [(x_level k (by omega)).1]
    exact decide_eq_true (by omega)
theorem scH.ok {h : Str} (o : scH W 100 h) : PyData.strOk h = true ∧ okStr h ∧ h.length ≤ 8 := by
  rcases o with o | ⟨k, hk, rfl⟩
  · exact ⟨(strOk_iff h).mpr (word_ok (hW h o)).2, word_ok (hW h o), (word_len (hW h o)).2⟩
  · have hx := headW.ok (.inr ⟨k, hk, rfl⟩)
    refine ⟨hx.1, hx.2, ?_⟩
    unfold xS
    rw [str_len, str_app, List.length_append, ← str_len, ← str_len]
    have h2 := x_len k hk
    have h1 : ("x" : Str).length = 1 := by decide +kernel
    omega
end
/-! ### texts -/
section
variable {W : Str → Prop} (hW : WordsP W)
include hW
theorem scH.len {inner : Nat} {h : Str} (hi : inner ≤ 100) (o : scH W inner h) : h.length ≤ 8 := (scH.ok hW (o.imp (fun x => x) fun ⟨k, hk, e⟩ => ⟨k, by omega, e⟩)).2.2
end
end KP
/-! KP49: what the defs of programs promise; small steps. -/
namespace KP
open PySem L2 FP
variable [FP.Tabl]
/-- a program at hand -/
structure PG (W : Str → Prop) (p : Pt) : Prop where
  w : WordsP W
  s : scT W 0 p
  z : sizeT p ≤ 40
/-! ### texts -/
/-! ### programs told -/
/-- a tree at a place of a program -/
def AtT (p q : Pt) (bd i : Nat) : Prop := AtP (nodesT p) (kidsT 0 p) (bndsT 0 p) (endsT 0 p) q bd i
theorem AtT.lt {p q : Pt} {bd i : Nat} (h : AtT p q bd i) : i + sizeT q ≤ sizeT p := by
  obtain ⟨r, e⟩ := h.n
  have h1 := congrArg List.length e
  rw [List.length_drop, List.length_append, nodes_len, nodes_len] at h1
  have := size_pos q
  omega
/-! ### order and equality of nodes -/
/-! ### other words -/
/-! ### small steps -/
section
variable {ρ : FP.Env} {f fo fe fa : DTE} {g : DTA} {gs : DTS} {N : Nd} {i : Nat}
theorem ev_sortU {ss : List Str} (h : Ev f ρ (.lst (ss.map D.str))) (hl : ss.length < 4000) : Ev (dSortSet f) ρ (.lst ((sortU ss).map .str)) := fun Q E q => h _ _ ⟨ss, strsD_map ss, hl, q⟩
end
end KP
/-! KP50: small facts for the defs of programs. -/
namespace KP
open PySem L2 FP
variable [FP.Tabl]
theorem isi_own (c : Str) (fs : List (Str × D)) : isiD [c] (fun _ => true) (.ins c fs) = some true := by
  show (if c ∈ [c] then some true else none) = some true
  rw [if_pos List.mem_cons_self]
/-! ### dicts of words -/
end KP
/-! KP51: drawn plain programs with some words; law k15 in plain words. -/
namespace KP
open PySem L2 FP
/-! ### drawn -/
/-! ### words of a drawn program -/
/-! ### shown -/
end KP
/-! KP52: what a program tells, shown; the end of law k15. -/
namespace KP
open PySem L2 FP
/-! ### the other words of the law -/
end KP
/-! KP53: law k15: small steps and the last program. -/
namespace KP
open PySem L2 FP
end KP
/-! KP76: rooms, pure (k30). -/
namespace KP
open PySem L2 FP
variable [FP.Tabl]
abbrev RR := List (List Int)
abbrev TT := List (List Str)
def rwI (r : List Int) : D := .tup (r.map .int)
def rwS (r : List Str) : D := .tup (r.map .str)
def rwIL (r : List Int) : D := .lst (r.map .int)
def rwSL (r : List Str) : D := .lst (r.map .str)
def tupR (R : RR) : D := .tup (R.map rwI)
def tupT (T : TT) : D := .tup (T.map rwS)
def lstR (R : RR) : D := .lst (R.map rwIL)
def lstT (T : TT) : D := .lst (T.map rwSL)
def atR (R : RR) (o : Int) : List Int := R.getD o.toNat []
def atT (T : TT) (o : Int) : List Str := T.getD o.toNat []
def ascB {α : Type} (lt : α → α → Bool) (r : List α) : Bool := (r.zip r.tail).all fun p => lt p.1 p.2
theorem ascB_iff {α : Type} {lt : α → α → Bool} (tr : ∀ a b c, lt a b = true → lt b c = true → lt a c = true) : ∀ {r : List α}, ascB lt r = true ↔ r.Pairwise (fun a b => lt a b = true)
  | [] => ⟨fun _ => .nil, fun _ => rfl⟩
  | [a] => ⟨fun _ => List.pairwise_singleton _ _, fun _ => rfl⟩
  | a :: b :: r => by
    have ih := ascB_iff tr (r := b :: r)
    have e : ascB lt (a :: b :: r) = (lt a b && ascB lt (b :: r)) := rfl
    rw [e, Bool.and_eq_true, ih, List.pairwise_cons (a := a)]
    constructor
    · rintro ⟨h1, h2⟩
      refine ⟨fun c hc => ?_, h2⟩
      rcases List.mem_cons.mp hc with rfl | q
      · exact h1
      · exact tr _ _ _ h1 ((List.pairwise_cons.mp h2).1 c q)
    · rintro ⟨h1, h2⟩
      exact ⟨h1 b List.mem_cons_self, h2⟩
def ltI (a b : Int) : Bool := decide (a < b)
theorem ascI_iff {r : List Int} : ascB ltI r = true ↔ r.Pairwise (· < ·) := by
  rw [ascB_iff (fun a b c h g => by unfold ltI at *; rw [decide_eq_true_iff] at *; omega)]
  unfold ltI
  simp only [decide_eq_true_iff]
theorem ascS_iff {r : List Str} : ascB (fun a b => ltS a b) r = true ↔ r.Pairwise (fun a b => ltS a b = true) := ascB_iff (lt := fun a b => ltS a b) (fun _ _ _ h g => ltS_trans h g)
def idxI (n : Nat) (r : List Int) : Bool := (r.all fun x => decide (0 ≤ x) && decide (x < (n : Int))) && ascB ltI r
def okRow (n i : Nat) (r : List Int) : Bool := idxI n r && decide ((i : Int) ∈ r)
def antiB (R : RR) (i : Nat) (r : List Int) : Bool := r.any fun o => !decide (o = (i : Int)) && decide ((i : Int) ∈ atR R o)
def gapB (R : RR) (r : List Int) : Bool := r.any fun o => (atR R o).any fun x => !decide (x ∈ r)
def loopOk (R : RR) (i : Nat) (r : List Int) : Bool := !antiB R i r && !gapB R r
def reachB (R : RR) : Bool := ((decide (1 ≤ R.length) && decide (R.length ≤ 60)) && R.zipIdx.all (fun p => okRow R.length p.2 p.1)) && R.zipIdx.all (fun p => loopOk R p.2 p.1)
def wordRow (r : List Str) : Bool := r.all isWordS && ascB (fun a b => ltS a b) r
def truthsB (R : RR) (T : TT) : Bool := (decide (T.length = R.length) && T.all wordRow) && R.zipIdx.all (fun p => p.1.all fun o => (atT T p.2).all fun a => decide (a ∈ atT T o))
def roomB (R : RR) (T : TT) : Bool := reachB R && truthsB R T
def rowL (n i : Nat) (r : List Int) : Bool := (decide (r = sortUI r) && decide ((i : Int) ∈ r)) && decide ((r.filter fun x => !(decide (0 ≤ x) && decide (x < (n : Int)))) = [])
def stepL (R : RR) (T : TT) (i : Nat) (o : Int) : Bool := (!(!decide (o = (i : Int)) && decide ((i : Int) ∈ atR R o)) && decide (((atR R o).filter fun x => !decide (x ∈ atR R i)) = [])) && decide (((atT T i).filter fun a => !decide (a ∈ atT T o)) = [])
def roomL (R : RR) (T : TT) : Bool := (((decide (1 ≤ R.length) && decide (R.length ≤ 60)) && decide (T.length = R.length)) && (List.range R.length).all fun i => rowL R.length i (atR R i) && decide (atT T i = sortU (atT T i))) && (List.range R.length).all fun i => (atR R i).all fun o => stepL R T i o
/-- a room, said plainly -/
structure RoomP (R : RR) (T : TT) : Prop where
  n1 : 1 ≤ R.length
  n60 : R.length ≤ 60
  len : T.length = R.length
  asc : ∀ i : Nat, i < R.length → (atR R i).Pairwise (· < ·)
  rng : ∀ i : Nat, i < R.length → ∀ x ∈ atR R i, 0 ≤ x ∧ x < (R.length : Int)
  self : ∀ i : Nat, i < R.length → (i : Int) ∈ atR R i
  ascT : ∀ i : Nat, i < R.length → (atT T i).Pairwise (fun a b => ltS a b = true)
  anti : ∀ i : Nat, i < R.length → ∀ o ∈ atR R i, o ≠ (i : Int) → (i : Int) ∉ atR R o
  trans : ∀ i : Nat, i < R.length → ∀ o ∈ atR R i, ∀ x ∈ atR R o, x ∈ atR R i
  up : ∀ i : Nat, i < R.length → ∀ o ∈ atR R i, ∀ a ∈ atT T i, a ∈ atT T o
theorem atR_some {R : RR} {i : Nat} {r : List Int} (h : R[i]? = some r) : atR R i = r := by
  show R.getD ((i : Int)).toNat [] = r
  rw [Int.toNat_natCast, List.getD_eq_getElem?_getD, h]
  rfl
theorem atT_some {T : TT} {i : Nat} {r : List Str} (h : T[i]? = some r) : atT T i = r := by
  show T.getD ((i : Int)).toNat [] = r
  rw [Int.toNat_natCast, List.getD_eq_getElem?_getD, h]
  rfl
theorem atR_get {R : RR} {i : Nat} (h : i < R.length) : R[i]? = some (atR R i) := by
  rw [List.getElem?_eq_getElem h, atR_some (List.getElem?_eq_getElem h)]
theorem atT_get {T : TT} {i : Nat} (h : i < T.length) : T[i]? = some (atT T i) := by
  rw [List.getElem?_eq_getElem h, atT_some (List.getElem?_eq_getElem h)]
theorem zipIdx_all {α : Type} {xs : List α} {f : α × Nat → Bool} : xs.zipIdx.all f = true ↔ ∀ (i : Nat) (x : α), xs[i]? = some x → f (x, i) = true := by
  rw [List.all_eq_true]
  constructor
  · intro h i x hx
    exact h (x, i) (List.mem_zipIdx_iff_getElem?.mpr hx)
  · rintro h ⟨x, i⟩ hm
    exact h i x (List.mem_zipIdx_iff_getElem?.mp hm)
theorem zipR_all {R : RR} {f : List Int × Nat → Bool} : R.zipIdx.all f = true ↔ ∀ i : Nat, i < R.length → f (atR R i, i) = true := by
  rw [zipIdx_all]
  constructor
  · intro h i hi
    exact h i _ (atR_get hi)
  · intro h i x hx
    have hi := (List.getElem?_eq_some_iff.mp hx).1
    have := h i hi
    rw [atR_some hx] at this
    exact this
theorem idxI_iff {n : Nat} {r : List Int} : idxI n r = true ↔ (∀ x ∈ r, 0 ≤ x ∧ x < (n : Int)) ∧ r.Pairwise (· < ·) := by
  unfold idxI
  rw [Bool.and_eq_true, ascI_iff, List.all_eq_true]
  simp only [Bool.and_eq_true, decide_eq_true_iff]
theorem antiB_no {R : RR} {i : Nat} {r : List Int} : (!antiB R i r) = true ↔ ∀ o ∈ r, o ≠ (i : Int) → (i : Int) ∉ atR R o := by
  unfold antiB
  simp
theorem gapB_no {R : RR} {r : List Int} : (!gapB R r) = true ↔ ∀ o ∈ r, ∀ x ∈ atR R o, x ∈ r := by
  unfold gapB
  simp
theorem reachB_iff {R : RR} : reachB R = true ↔ 1 ≤ R.length ∧ R.length ≤ 60 ∧ ∀ i : Nat, i < R.length → (atR R i).Pairwise (· < ·) ∧ (∀ x ∈ atR R i, 0 ≤ x ∧ x < (R.length : Int)) ∧ (i : Int) ∈ atR R i ∧ (∀ o ∈ atR R i, o ≠ (i : Int) → (i : Int) ∉ atR R o) ∧ ∀ o ∈ atR R i, ∀ x ∈ atR R o, x ∈ atR R i := by
  unfold reachB
  rw [Bool.and_eq_true, Bool.and_eq_true, Bool.and_eq_true, zipR_all, zipR_all, decide_eq_true_iff, decide_eq_true_iff]
  unfold okRow loopOk
  simp only [Bool.and_eq_true, antiB_no, gapB_no, idxI_iff, decide_eq_true_iff]
  constructor
  · rintro ⟨⟨⟨a, b⟩, c⟩, d⟩
    exact ⟨a, b, fun i hi => ⟨(c i hi).1.2, (c i hi).1.1, (c i hi).2, (d i hi).1, (d i hi).2⟩⟩
  · rintro ⟨a, b, c⟩
    exact ⟨⟨⟨a, b⟩, fun i hi => ⟨⟨(c i hi).2.1, (c i hi).1⟩, (c i hi).2.2.1⟩⟩, fun i hi => (c i hi).2.2.2⟩
theorem truthsB_iff {R : RR} {T : TT} : truthsB R T = true ↔ T.length = R.length ∧ (∀ t ∈ T, (∀ a ∈ t, isWordS a = true) ∧ t.Pairwise (fun a b => ltS a b = true)) ∧ ∀ i : Nat, i < R.length → ∀ o ∈ atR R i, ∀ a ∈ atT T i, a ∈ atT T o := by
  unfold truthsB
  rw [Bool.and_eq_true, Bool.and_eq_true, zipR_all, decide_eq_true_iff]
  unfold wordRow
  simp only [List.all_eq_true, Bool.and_eq_true, ascS_iff, decide_eq_true_iff, and_assoc]
theorem mem_atT {T : TT} {t : List Str} (h : t ∈ T) : ∃ i : Nat, i < T.length ∧ atT T i = t := by
  obtain ⟨i, hi⟩ := List.mem_iff_getElem?.mp h
  exact ⟨i, (List.getElem?_eq_some_iff.mp hi).1, atT_some hi⟩
theorem atT_mem {T : TT} {i : Nat} (h : i < T.length) : atT T i ∈ T := List.mem_of_getElem? (atT_get h)
theorem atR_mem {R : RR} {i : Nat} (h : i < R.length) : atR R i ∈ R := List.mem_of_getElem? (atR_get h)
def WordsT (T : TT) : Prop := ∀ t ∈ T, ∀ a ∈ t, isWordS a = true
theorem roomB_iff {R : RR} {T : TT} : roomB R T = true ↔ RoomP R T ∧ WordsT T := by
  unfold roomB
  rw [Bool.and_eq_true, reachB_iff, truthsB_iff]
  constructor
  · rintro ⟨⟨a, b, c⟩, d, e, f⟩
    exact ⟨⟨a, b, d, fun i hi => (c i hi).1, fun i hi => (c i hi).2.1, fun i hi => (c i hi).2.2.1, fun i hi => (e _ (atT_mem (d ▸ hi))).2, fun i hi => (c i hi).2.2.2.1, fun i hi => (c i hi).2.2.2.2, f⟩, fun t ht => (e t ht).1⟩
  · rintro ⟨p, w⟩
    refine ⟨⟨p.n1, p.n60, fun i hi => ⟨p.asc i hi, p.rng i hi, p.self i hi, p.anti i hi, p.trans i hi⟩⟩, p.len, fun t ht => ⟨w t ht, ?_⟩, p.up⟩
    obtain ⟨i, hi, rfl⟩ := mem_atT ht
    exact p.ascT i (p.len ▸ hi)
theorem sortUI_fix {r : List Int} : r = sortUI r ↔ r.Pairwise (· < ·) := by
  constructor
  · intro h
    have u : UpI r := by rw [h]; exact sortI_up _
    have nd : r.Nodup := by rw [h]; exact (sortI_perm _).nodup_iff.mpr (nubI_nodup _)
    exact (u.and nd).imp fun {a b} hab => by omega
  · intro h
    exact sortUI_eq h fun k => Iff.rfl
theorem sortU_fix {r : List Str} : r = sortU r ↔ r.Pairwise (fun a b => ltS a b = true) := by
  constructor
  · intro h
    have u : UpS r := by rw [h]; exact sortS_up _
    have nd : r.Nodup := by rw [h]; exact sortU_nodup _
    exact (u.and nd).imp fun {a b} hab => by
      cases q : ltS a b with
      | true => rfl
      | false => exact absurd (ltS_tri q hab.1) hab.2
  · intro h
    have u : UpS r := h.imp fun {a b} hab => ltS_asym hab
    have nd : r.Nodup := h.imp fun {a b} hab e => by
      subst e
      rw [ltS_irrefl] at hab
      cases hab
    exact upS_eq u (sortS_up _) (nodup_perm nd (sortU_nodup r) fun k => sortU_mem.symm)
theorem filter_nil {α : Type} {p : α → Bool} {r : List α} : r.filter (fun x => !p x) = [] ↔ ∀ x ∈ r, p x = true := by
  rw [List.filter_eq_nil_iff]
  simp
theorem roomL_iff {R : RR} {T : TT} : roomL R T = true ↔ RoomP R T := by
  unfold roomL rowL stepL
  simp only [Bool.and_eq_true, List.all_eq_true, decide_eq_true_iff, List.mem_range, filter_nil, sortUI_fix, sortU_fix]
  simp only [Bool.not_eq_true', Bool.and_eq_false_iff, decide_eq_false_iff_not, Bool.not_eq_false', decide_eq_true_iff]
  constructor
  · rintro ⟨⟨⟨⟨a, b⟩, c⟩, d⟩, e⟩
    exact ⟨a, b, c, fun i hi => (d i hi).1.1.1, fun i hi => (d i hi).1.2, fun i hi => (d i hi).1.1.2, fun i hi => (d i hi).2, fun i hi o ho hne h => ((e i hi o ho).1.1).elim (fun q => hne q) (fun q => q h), fun i hi o ho => (e i hi o ho).1.2, fun i hi o ho => (e i hi o ho).2⟩
  · rintro p
    refine ⟨⟨⟨⟨p.n1, p.n60⟩, p.len⟩, fun i hi => ⟨⟨⟨p.asc i hi, p.self i hi⟩, p.rng i hi⟩, p.ascT i hi⟩⟩, fun i hi o ho => ⟨⟨?_, p.trans i hi o ho⟩, p.up i hi o ho⟩⟩
    by_cases q : o = (i : Int)
    · exact .inl q
    · exact .inr (p.anti i hi o ho q)
theorem room_same {R : RR} {T : TT} (w : WordsT T) : roomL R T = roomB R T := by
  rw [Bool.eq_iff_iff, roomL_iff, roomB_iff]
  exact ⟨fun h => ⟨h, w⟩, fun h => h.1⟩
end KP
/-! KP77: rooms, readings and specs (k30). -/
namespace KP
open PySem L2 FP
variable [FP.Tabl]
/-! ### ints among ints -/
theorem flatsD_ints : ∀ r : List Int, flatsD (r.map D.int) = some (r.map V.int)
  | [] => rfl
  | y :: r => by
    rw [List.map_cons, flatsD, flatsD_ints r]
    rfl
theorem flat_ints : ∀ r : List Int, (r.map V.int).all flatV = true
  | [] => rfl
  | y :: r => by
    rw [List.map_cons, List.all_cons, flat_ints r]
    rfl
theorem inV_ints (z : Int) : ∀ zs : List Int, inV (.int z) (zs.map V.int) = decide (z ∈ zs)
  | [] => rfl
  | y :: r => by
    have ih := inV_ints z r
    unfold inV at ih ⊢
    rw [List.map_cons, List.any_cons, ih]
    have e : eqV (.int y) (.int z) = decide (y = z) := by
      show (y == z) = _
      rfl
    rw [e, Bool.eq_iff_iff]
    simp only [Bool.or_eq_true, decide_eq_true_eq, List.mem_cons]
    exact ⟨fun h => h.elim (fun q => .inl q.symm) .inr, fun h => h.elim (fun q => .inl q.symm) .inr⟩
theorem inD_ints (z : Int) (zs : List Int) : inD (.int z) (.lst (zs.map D.int)) = some (decide (z ∈ zs)) := by
  show (match flatD (.int z), flatsD (zs.map D.int) with
    | some v, some vs => if flatV v = true ∧ vs.all flatV = true then some (inV v vs) else none
    | _, _ => none) = _
  rw [flatsD_ints]
  show (if flatV (.int z) = true ∧ (zs.map V.int).all flatV = true then some (inV (.int z) (zs.map V.int)) else none) = _
  rw [if_pos ⟨rfl, flat_ints zs⟩, inV_ints]
theorem in_intsL {z : Int} {zs : List Int} {Q : D → Prop} (q : Q (.bl (decide (z ∈ zs)))) : rdIn (.int z) (.lst (zs.map .int)) Q := by
  unfold rdIn
  rw [inD_ints]
  exact q
theorem in_intsT {z : Int} {zs : List Int} {Q : D → Prop} (q : Q (.bl (decide (z ∈ zs)))) : rdIn (.int z) (rwI zs) Q := by
  unfold rdIn
  rw [show inD (.int z) (rwI zs) = some (decide (z ∈ zs)) from inD_ints z zs]
  exact q
theorem notIn_intsL {z : Int} {zs : List Int} {Q : D → Prop} (q : Q (.bl (!decide (z ∈ zs)))) : rdNotIn (.int z) (.lst (zs.map .int)) Q := by
  unfold rdNotIn
  rw [inD_ints]
  exact q
theorem notIn_intsT {z : Int} {zs : List Int} {Q : D → Prop} (q : Q (.bl (!decide (z ∈ zs)))) : rdNotIn (.int z) (rwI zs) Q := by
  unfold rdNotIn
  rw [show inD (.int z) (rwI zs) = some (decide (z ∈ zs)) from inD_ints z zs]
  exact q
theorem notIn_strsL {z : Str} {zs : List Str} {Q : D → Prop} (q : Q (.bl (!decide (z ∈ zs)))) : rdNotIn (.str z) (.lst (zs.map .str)) Q := by
  unfold rdNotIn
  rw [inD_strs]
  exact q
theorem in_rowS {z : Str} {zs : List Str} {Q : D → Prop} (q : Q (.bl (decide (z ∈ zs)))) : rdIn (.str z) (rwS zs) Q := by
  unfold rdIn
  rw [show inD (.str z) (rwS zs) = some (decide (z ∈ zs)) from inD_strs z zs]
  exact q
/-! ### equality of data that things are written as -/
structure Enc {α : Type} [DecidableEq α] (ok : α → Prop) (e : α → D) (n : Nat) where
  f : α → PyData
  py : ∀ x, toPy (e x) = some (f x)
  eqv : ∀ x y, PyData.eqv (f x) (f y) = decide (x = y)
  sh : ∀ x, ok x → shD n (e x) = true
def encI : Enc (fun _ : Int => True) D.int 0 := ⟨PyData.int, fun _ => rfl, fun x y => by rw [PyData.eqv]; rfl, fun _ _ => sh_int⟩
def encS : Enc (fun z : Str => PyData.strOk z = true) D.str 0 := ⟨PyData.str, fun _ => rfl, fun x y => by rw [PyData.eqv]; rfl, fun _ h => sh_str h⟩
theorem toPys_map {α : Type} {e : α → D} {f : α → PyData} (h : ∀ x, toPy (e x) = some (f x)) : ∀ xs : List α, toPys (xs.map e) = some (xs.map f)
  | [] => by rw [List.map_nil, toPys]; rfl
  | x :: xs => by rw [List.map_cons, toPys, h x, toPys_map h xs]; rfl
theorem eqvAll_map {α : Type} [DecidableEq α] {f : α → PyData} (h : ∀ x y, PyData.eqv (f x) (f y) = decide (x = y)) : ∀ xs ys : List α, PyData.eqvAll (xs.map f) (ys.map f) = decide (xs = ys)
  | [], [] => by rw [List.map_nil, PyData.eqvAll]; simp
  | z :: r, [] => by rw [List.map_nil, List.map_cons, PyData.eqvAll]; simp
  | [], z :: r => by rw [List.map_nil, List.map_cons, PyData.eqvAll]; simp
  | z :: r, y :: t => by
    rw [List.map_cons, List.map_cons, PyData.eqvAll, h, eqvAll_map h r t, Bool.eq_iff_iff, Bool.and_eq_true, decide_eq_true_iff, decide_eq_true_iff, decide_eq_true_iff, List.cons.injEq]
theorem shDs_map {α : Type} {e : α → D} {n : Nat} {xs : List α} (h : ∀ x ∈ xs, shD n (e x) = true) : shDs n (xs.map e) = true := shDs_of fun d hd => by
  obtain ⟨x, hx, rfl⟩ := List.mem_map.mp hd
  exact h x hx
section
variable {α : Type} [DecidableEq α] {ok : α → Prop} {e : α → D} {n : Nat}
def Enc.lst (E : Enc ok e n) : Enc (fun xs : List α => ∀ x ∈ xs, ok x) (fun xs => .lst (xs.map e)) (n + 1) := ⟨fun xs => .list (xs.map E.f), fun xs => by rw [toPy, toPys_map E.py], fun xs ys => by rw [PyData.eqv, eqvAll_map E.eqv], fun xs h => sh_lst (shDs_map fun x hx => E.sh x (h x hx))⟩
def Enc.tup (E : Enc ok e n) : Enc (fun xs : List α => ∀ x ∈ xs, ok x) (fun xs => .tup (xs.map e)) (n + 1) := ⟨fun xs => .tuple (xs.map E.f), fun xs => by rw [toPy, toPys_map E.py], fun xs ys => by rw [PyData.eqv, eqvAll_map E.eqv], fun xs h => sh_tup (shDs_map fun x hx => E.sh x (h x hx))⟩
theorem Enc.eq (E : Enc ok e n) {x y : α} {Q : D → Prop} (hn : n ≤ 64) (hx : ok x) (hy : ok y) (hs : eqS (e x) (e y) = none) (q : Q (.bl (decide (x = y)))) : rdEq (e x) (e y) Q := by
  obtain ⟨p, p1, p2, p3⟩ := shD_py n (e x) (E.sh x hx)
  obtain ⟨r, r1, r2, r3⟩ := shD_py n (e y) (E.sh y hy)
  rw [E.py] at p1 r1
  cases p1
  cases r1
  unfold rdEq
  rw [hs]
  exact ⟨_, _, E.py x, E.py y, sh_shaped p2 (Nat.le_trans p3 hn), sh_shaped r2 (Nat.le_trans r3 hn), by rw [E.eqv]; exact q⟩
theorem Enc.ne (E : Enc ok e n) {x y : α} {Q : D → Prop} (hn : n ≤ 64) (hx : ok x) (hy : ok y) (hs : eqS (e x) (e y) = none) (q : Q (.bl (!decide (x = y)))) : rdNe (e x) (e y) Q := by
  obtain ⟨p, p1, p2, p3⟩ := shD_py n (e x) (E.sh x hx)
  obtain ⟨r, r1, r2, r3⟩ := shD_py n (e y) (E.sh y hy)
  rw [E.py] at p1 r1
  cases p1
  cases r1
  unfold rdNe
  rw [hs]
  exact ⟨_, _, E.py x, E.py y, sh_shaped p2 (Nat.le_trans p3 hn), sh_shaped r2 (Nat.le_trans r3 hn), by rw [E.eqv]; exact q⟩
def Enc.pair {β : Type} [DecidableEq β] {ok2 : β → Prop} {e2 : β → D} (E : Enc ok e n) (F : Enc ok2 e2 n) : Enc (fun p : α × β => ok p.1 ∧ ok2 p.2) (fun p => .tup [e p.1, e2 p.2]) (n + 1) := ⟨fun p => .tuple [E.f p.1, F.f p.2], fun p => by rw [toPy, toPys, toPys, toPys, E.py, F.py], fun p q => by
  rw [PyData.eqv, PyData.eqvAll, PyData.eqvAll, PyData.eqvAll, E.eqv, F.eqv, Bool.and_true, Bool.eq_iff_iff, Bool.and_eq_true, decide_eq_true_iff, decide_eq_true_iff, decide_eq_true_iff, Prod.ext_iff], fun p h => sh_tup (sh_cons (E.sh _ h.1) (sh_cons (F.sh _ h.2) sh_nil))⟩
def Enc.pairL {β : Type} [DecidableEq β] {ok2 : β → Prop} {e2 : β → D} (E : Enc ok e n) (F : Enc ok2 e2 n) : Enc (fun p : α × β => ok p.1 ∧ ok2 p.2) (fun p => .lst [e p.1, e2 p.2]) (n + 1) := ⟨fun p => .list [E.f p.1, F.f p.2], fun p => by rw [toPy, toPys, toPys, toPys, E.py, F.py], fun p q => by
  rw [PyData.eqv, PyData.eqvAll, PyData.eqvAll, PyData.eqvAll, E.eqv, F.eqv, Bool.and_true, Bool.eq_iff_iff, Bool.and_eq_true, decide_eq_true_iff, decide_eq_true_iff, decide_eq_true_iff, Prod.ext_iff], fun p h => sh_lst (sh_cons (E.sh _ h.1) (sh_cons (F.sh _ h.2) sh_nil))⟩
end
/-! ### comprehensions of two and three clauses -/
section
variable {ρ : FP.Env}
theorem ev_lc2 {α β : Type} {f : DTE} {w w1 : DTI} {T T1 : Tg} {vs vs1 : List Nat} {xs : List α} (e : α → D) (ys : α → List β) (e1 g : α → β → D) (hw : EvI w ρ (xs.map e)) (hl : xs.length ≤ 4000) (hb : ∀ x ∈ xs, ∃ ρ2, T.put (e x) (wipeD ρ vs) = some ρ2 ∧ EvI w1 ρ2 ((ys x).map (e1 x)) ∧ (ys x).length ≤ 4000 ∧ ∀ y ∈ ys x, ∃ ρ3, T1.put (e1 x y) (wipeD ρ2 vs1) = some ρ3 ∧ Ev f ρ3 (g x y)) :
    Ev (dLc2 w T dYes w1 T1 dYes f vs vs1) ρ (.lst ((xs.map fun x => (ys x).map (g x)).flatten)) := fun Q E q => hw _ _ ⟨by show (xs.map e).length ≤ 4000; rw [List.length_map]; exact hl, lcS_of e (fun x => (ys x).map (g x)) xs _ (fun x hx k hk => by
  obtain ⟨ρ2, h1, h2, h3, h4⟩ := hb x hx
  refine ⟨ρ2, h1, ?_⟩
  refine h2 _ _ ⟨by show ((ys x).map (e1 x)).length ≤ 4000; rw [List.length_map]; exact h3, ?_⟩
  refine lcD_F (e1 x) (g x) (fun _ => true) (ys x) _ (fun y hy K hK => ?_) ?_
  · obtain ⟨ρ3, h5, h6⟩ := h4 y hy
    exact ⟨ρ3, h5, h6 _ _ hK⟩
  · rw [List.filter_eq_self.mpr fun _ _ => rfl]
    exact hk) q⟩
abbrev EvB (fb : DTB) (ρ : FP.Env) (rs : List D) : Prop := ∀ K : List D → Prop, K rs → fb ρ K
theorem evB_last {f : DTE} {d : D} (h : Ev f ρ d) : EvB (dLastB f) ρ [d] := fun K k => h _ _ k
theorem evB_more {α : Type} {w : DTI} {T : Tg} {fb : DTB} {vs : List Nat} {c : Nat} {xs : List α} (e : α → D) (g : α → List D) (hw : EvI w ρ (xs.map e)) (hl : xs.length ≤ c) (hb : ∀ x ∈ xs, ∃ ρ2, T.put (e x) (wipeD ρ vs) = some ρ2 ∧ EvB fb ρ2 (g x)) : EvB (dMoreB w T dYes fb vs c) ρ ((xs.map g).flatten) := fun K k => hw _ _ ⟨by rw [List.length_map]; exact hl, lcS_of e g xs _ (fun x hx k hk => by
  obtain ⟨ρ2, h1, h2⟩ := hb x hx
  exact ⟨ρ2, h1, h2 _ hk⟩) k⟩
theorem ev_lcN {α : Type} {w : DTI} {T : Tg} {fb : DTB} {vs : List Nat} {c : Nat} {xs : List α} (e : α → D) (g : α → List D) (hw : EvI w ρ (xs.map e)) (hl : xs.length ≤ c) (hb : ∀ x ∈ xs, ∃ ρ2, T.put (e x) (wipeD ρ vs) = some ρ2 ∧ EvB fb ρ2 (g x)) : Ev (dLcN3 w T dYes fb vs c) ρ (.lst ((xs.map g).flatten)) := fun Q E q => hw _ _ ⟨by rw [List.length_map]; exact hl, lcS_of e g xs _ (fun x hx k hk => by
  obtain ⟨ρ2, h1, h2⟩ := hb x hx
  exact ⟨ρ2, h1, h2 _ hk⟩) q⟩
theorem ev_allV {f : DTE} {bs : List Bool} {ds : List D} (h : Ev f ρ (.lst ds)) (e : ds = bs.map D.bl) : Ev (dCB rdAll (dCons f dNil)) ρ (.bl (bs.all id)) := ev_cb (a1 h a0) fun Q q => ⟨_, by rw [e]; exact blsD_map _, q⟩
theorem ev_anyV {f : DTE} {bs : List Bool} {ds : List D} (h : Ev f ρ (.lst ds)) (e : ds = bs.map D.bl) : Ev (dCB rdAny (dCons f dNil)) ρ (.bl (bs.any id)) := ev_cb (a1 h a0) fun Q q => ⟨_, by rw [e]; exact blsD_map _, q⟩
theorem ev_allF {α : Type} {f : DTE} {xs : List α} (g : α → Bool) (h : Ev f ρ (.lst (xs.map fun x => D.bl (g x)))) : Ev (dCB rdAll (dCons f dNil)) ρ (.bl (xs.all g)) := Ev.eq (ev_allV (bs := xs.map g) h (by rw [List.map_map]; rfl)) (by rw [List.all_map]; rfl)
theorem ev_anyF {α : Type} {f : DTE} {xs : List α} (g : α → Bool) (h : Ev f ρ (.lst (xs.map fun x => D.bl (g x)))) : Ev (dCB rdAny (dCons f dNil)) ρ (.bl (xs.any g)) := Ev.eq (ev_anyV (bs := xs.map g) h (by rw [List.map_map]; rfl)) (by rw [List.any_map]; rfl)
/-- lo <= n <= hi of numbers -/
theorem ev_chainV {rd rd' : RD2} {fa fb fc : DTE} {x y z : D} {b b2 : Bool} (ha : Ev fa ρ x) (hb : Ev fb ρ y) (hc : Ev fc ρ z) (h1 : ∀ Q : D → Prop, Q (.bl b) → rd x y Q) (h2 : ∀ Q : D → Prop, Q (.bl b2) → rd' y z Q) : Ev (dChain rd rd' fa fb fc) ρ (.bl (b && b2)) := fun Q E q => by
  refine ha _ _ (hb _ _ (h1 _ ?_))
  show bit b _ _
  cases b with
  | true => exact hc _ _ (h2 _ q)
  | false => exact q
end
/-- a loop that looks at each and ends at the first that fails -/
theorem for_chk {α : Type} {T : Tg} {b : DTS} {N : Nd} (e : α → D) (ok : α → Bool) (S : FP.Env → Prop) (R : D) : ∀ (xs : List α) (ρ : FP.Env), S ρ → (∀ x ∈ xs, ∀ ρ, S ρ → ∃ ρ2, T.put (e x) ρ = some ρ2 ∧ ∀ N' : Nd, (ok x = false → ∀ ρ, N'.rt R ρ) → (ok x = true → ∀ ρ, S ρ → N'.nx ρ) → b N' ρ2) → (xs.all ok = false → ∀ ρ, N.rt R ρ) → (xs.all ok = true → ∀ ρ, S ρ → N.nx ρ) → forD T b N (xs.map e) ρ
  | [], ρ, s, _, _, h => h rfl ρ s
  | x :: xs, ρ, s, hb, hx, hn => by
    obtain ⟨ρ2, h1, h3⟩ := hb x List.mem_cons_self ρ s
    refine ⟨ρ2, h1, h3 _ (fun q => hx (by rw [List.all_cons, q, Bool.false_and])) fun q ρ' s' => ?_⟩
    refine for_chk e ok S R xs ρ' s' (fun y hy => hb y (List.mem_cons_of_mem _ hy)) (fun r => hx ?_) (fun r => hn ?_)
    · rw [List.all_cons, q, Bool.true_and]; exact r
    · rw [List.all_cons, q, Bool.true_and]; exact r
theorem enumD_zip {α : Type} (f : α → D) : ∀ (xs : List α) (k : Nat), enumD k (xs.map f) = (xs.zipIdx k).map fun p => .tup [.int (p.2 : Nat), f p.1]
  | [], _ => rfl
  | x :: xs, k => by
    rw [List.map_cons, enumD, enumD_zip f xs (k + 1), List.zipIdx_cons, List.map_cons]
/-! ### any values as rows -/
def intsT : D → Option (List Int)
  | .tup xs => intsD xs
  | _ => none
def strsT : D → Option (List Str)
  | .tup xs => strsD xs
  | _ => none
def rowsOf {α : Type} (f : D → Option α) : List D → Option (List α)
  | [] => some []
  | d :: r => match f d, rowsOf f r with
    | some x, some xs => some (x :: xs)
    | _, _ => none
theorem intsD_back : ∀ {ds : List D} {r : List Int}, intsD ds = some r → ds = r.map D.int
  | [], r, h => by cases h; rfl
  | d :: ds, r, h => by
    obtain ⟨i, ms, rfl, h2, rfl⟩ := intsD_inv h
    rw [intsD_back h2]
    rfl
theorem intsT_row (r : List Int) : intsT (rwI r) = some r := intsD_map r
theorem strsT_row (r : List Str) : strsT (rwS r) = some r := strsD_map r
theorem intsT_back {d : D} {r : List Int} (h : intsT d = some r) : d = rwI r := by
  cases d with
  | tup xs => exact congrArg D.tup (intsD_back h)
  | _ => cases h
theorem strsT_back {d : D} {r : List Str} (h : strsT d = some r) : d = rwS r := by
  cases d with
  | tup xs => exact congrArg D.tup (strsD_back h)
  | _ => cases h
theorem rowsOf_map {α : Type} {f : D → Option α} {e : α → D} (h : ∀ x, f (e x) = some x) : ∀ xs : List α, rowsOf f (xs.map e) = some xs
  | [] => rfl
  | x :: xs => by rw [List.map_cons, rowsOf, h x, rowsOf_map h xs]
theorem rowsOf_back {α : Type} {f : D → Option α} {e : α → D} (h : ∀ d x, f d = some x → d = e x) : ∀ (ds : List D) (xs : List α), rowsOf f ds = some xs → ds = xs.map e
  | [], xs, q => by cases q; rfl
  | d :: ds, xs, q => by
    rw [rowsOf] at q
    cases q1 : f d with
    | none => rw [q1] at q; cases q
    | some x =>
      cases q2 : rowsOf f ds with
      | none => rw [q1, q2] at q; cases q
      | some ys =>
        rw [q1, q2] at q
        cases q
        rw [h d x q1, rowsOf_back h ds ys q2]
        rfl
theorem rowsOf_all {α : Type} {f : D → Option α} : ∀ (ds : List D), (∀ d ∈ ds, (f d).isSome = true) → ∃ xs, rowsOf f ds = some xs
  | [], _ => ⟨[], rfl⟩
  | d :: ds, h => by
    obtain ⟨ys, q2⟩ := rowsOf_all ds fun x hx => h x (List.mem_cons_of_mem _ hx)
    have h1 := h d List.mem_cons_self
    cases q1 : f d with
    | none => rw [q1] at h1; cases h1
    | some x => exact ⟨x :: ys, by rw [rowsOf, q1, q2]⟩
def idxD (n : Nat) (d : D) : Bool := match intsT d with
  | some r => idxI n r
  | none => false
def okRowD (n i : Nat) (d : D) : Bool := match intsT d with
  | some r => okRow n i r
  | none => false
def wordRowD (d : D) : Bool := match strsT d with
  | some r => wordRow r
  | none => false
def reachQ (rows : List D) : Bool := match rowsOf intsT rows with
  | some R => reachB R
  | none => false
def truthsQ (R : RR) (rows : List D) : Bool := match rowsOf strsT rows with
  | some T => truthsB R T
  | none => false
def reachD : D → Bool
  | .tup rows => reachQ rows
  | _ => false
def truthsD (R : RR) : D → Bool
  | .tup rows => truthsQ R rows
  | _ => false
theorem reachD_R (R : RR) : reachD (tupR R) = reachB R := by
  show reachQ (R.map rwI) = _
  unfold reachQ
  rw [rowsOf_map intsT_row]
theorem truthsD_T (R : RR) (T : TT) : truthsD R (tupT T) = truthsB R T := by
  show truthsQ R (T.map rwS) = _
  unfold truthsQ
  rw [rowsOf_map strsT_row]
theorem rwsR {rows : List D} {R : RR} (h : rowsOf intsT rows = some R) : rows = R.map rwI := rowsOf_back (fun _ _ => intsT_back) _ _ h
theorem rwsT {rows : List D} {T : TT} (h : rowsOf strsT rows = some T) : rows = T.map rwS := rowsOf_back (fun _ _ => strsT_back) _ _ h
theorem reachD_len {rows : List D} (h : (decide (1 ≤ rows.length) && decide (rows.length ≤ 60)) = false) : reachD (.tup rows) = false := by
  show reachQ rows = false
  unfold reachQ
  cases q : rowsOf intsT rows with
  | none => rfl
  | some R =>
    rw [rwsR q, List.length_map] at h
    show reachB R = false
    unfold reachB
    rw [h, Bool.false_and, Bool.false_and]
theorem reachD_rows {rows : List D} (h : rows.zipIdx.all (fun p => okRowD rows.length p.2 p.1) = false) : reachD (.tup rows) = false := by
  show reachQ rows = false
  unfold reachQ
  cases q : rowsOf intsT rows with
  | none => rfl
  | some R =>
    rw [rwsR q, List.length_map, List.zipIdx_map, List.all_map] at h
    show reachB R = false
    unfold reachB
    have e : (((fun p : D × Nat => okRowD R.length p.2 p.1) ∘ Prod.map rwI id) : List Int × Nat → Bool) = fun p => okRow R.length p.2 p.1 := funext fun p => by
      show okRowD R.length p.2 (rwI p.1) = _
      unfold okRowD
      rw [intsT_row]
    rw [e] at h
    rw [h, Bool.and_false, Bool.false_and]
theorem rws_R {rows : List D} (h : rows.zipIdx.all (fun p => okRowD rows.length p.2 p.1) = true) : ∃ R : RR, rows = R.map rwI ∧ R.zipIdx.all (fun p => okRow R.length p.2 p.1) = true := by
  have h' := h
  rw [zipIdx_all] at h
  obtain ⟨R, hR⟩ := rowsOf_all (f := intsT) rows fun d hd => by
    obtain ⟨i, hi⟩ := List.mem_iff_getElem?.mp hd
    have := h i d hi
    unfold okRowD at this
    cases q : intsT d with
    | some r => rfl
    | none => rw [q] at this; cases this
  have e := rwsR hR
  refine ⟨R, e, ?_⟩
  rw [e, List.length_map, List.zipIdx_map, List.all_map] at h'
  rw [← h']
  congr 1
  funext p
  show _ = okRowD R.length p.2 (rwI p.1)
  unfold okRowD
  rw [intsT_row]
theorem truthsD_len {R : RR} {rows : List D} (h : ¬ rows.length = R.length) : truthsD R (.tup rows) = false := by
  show truthsQ R rows = false
  unfold truthsQ
  cases q : rowsOf strsT rows with
  | none => rfl
  | some T =>
    rw [rwsT q, List.length_map] at h
    show truthsB R T = false
    unfold truthsB
    rw [decide_eq_false h, Bool.false_and, Bool.false_and]
theorem truthsD_rows {R : RR} {rows : List D} (h : rows.all wordRowD = false) : truthsD R (.tup rows) = false := by
  show truthsQ R rows = false
  unfold truthsQ
  cases q : rowsOf strsT rows with
  | none => rfl
  | some T =>
    rw [rwsT q, List.all_map] at h
    show truthsB R T = false
    unfold truthsB
    have e : (wordRowD ∘ rwS : List Str → Bool) = wordRow := funext fun r => by
      show wordRowD (rwS r) = _
      unfold wordRowD
      rw [strsT_row]
    rw [e] at h
    rw [h, Bool.and_false, Bool.false_and]
theorem rws_T {rows : List D} (h : rows.all wordRowD = true) : ∃ T : TT, rows = T.map rwS ∧ T.all wordRow = true := by
  have h' := h
  rw [List.all_eq_true] at h
  obtain ⟨T, hT⟩ := rowsOf_all (f := strsT) rows fun d hd => by
    have := h d hd
    unfold wordRowD at this
    cases q : strsT d with
    | some r => rfl
    | none => rw [q] at this; cases this
  have e := rwsT hT
  refine ⟨T, e, ?_⟩
  rw [e, List.all_map] at h'
  rw [← h']
  congr 1
  funext r
  show _ = wordRowD (rwS r)
  unfold wordRowD
  rw [strsT_row]
/-! ### specs -/
def okR : D → Prop
  | .ins c _ => c = "Room"
  | d => okV d
theorem okV.r {d : D} (h : okV d) : okR d := by
  cases d with
  | ins _ _ => exact h.elim
  | _ => exact h
structure SmRow (d : D) : Prop where
  v : okV d
  len : ∀ xs, d = .tup xs → xs.length ≤ 60
  el : ∀ xs, d = .tup xs → ∀ x ∈ xs, okV x
structure SmD (d : D) : Prop where
  v : okR d
  len : ∀ xs, d = .tup xs → xs.length ≤ 900
  row : ∀ xs, d = .tup xs → ∀ x ∈ xs, SmRow x
def roomF (R : RR) (T : TT) : List (Str × D) := [("own_reach", tupR R), ("own_truths", tupT T), ("own_pairs", .tup ((R.zip T).map fun p => .tup [rwI p.1, rwS p.2]))]
def roomO (R : RR) (T : TT) : D := .ins "Room" (roomF R T)
abbrev roomX : XD := ⟨"InvalidRoom", []⟩
def f_isidx : List D → M D := fun ds Q _ => match ds with
  | [d, .int k] => ∃ n : Nat, k = n ∧ n ≤ 60 ∧ SmRow d ∧ Q (.bl (idxD n d))
  | _ => False
def f_iswt : List D → M D := fun ds Q _ => match ds with
  | [d] => SmRow d ∧ Q (.bl (wordRowD d))
  | _ => False
def f_isreach : List D → M D := fun ds Q _ => match ds with
  | [d] => SmD d ∧ Q (.bl (reachD d))
  | _ => False
def f_aretruths : List D → M D := fun ds Q _ => match ds with
  | [x, d] => ∃ R, x = tupR R ∧ reachB R = true ∧ SmD x ∧ SmD d ∧ Q (.bl (truthsD R d))
  | _ => False
def f_initRoom : List D → ((List (Str × D)) → Prop) → (XD → Prop) → Prop := fun ds Q Ex => match ds with
  | [x, y] => SmD x ∧ SmD y ∧ (∀ R T, x = tupR R → y = tupT T → roomB R T = true → Q (roomF R T)) ∧ ((¬ ∃ R T, x = tupR R ∧ y = tupT T ∧ roomB R T = true) → Ex roomX)
  | _ => False
end KP
/-! KP78: small steps for rooms (k30). -/
namespace KP
open PySem L2 FP
variable [FP.Tabl]
section
variable {ρ : FP.Env}
theorem ev_lcI {w : DTI} {T : Tg} {f : DTE} {vs : List Nat} {xs : List D} (g : D → D) (hw : EvI w ρ xs) (hl : xs.length ≤ sizeLine) (hb : ∀ x ∈ xs, ∃ ρ2, T.put x (wipeD ρ vs) = some ρ2 ∧ Ev f ρ2 (g x)) : Ev (dLc w T dYes f vs) ρ (.lst (xs.map g)) := ev_lc (fun x => x) g (xs := xs) (by rw [List.map_id']; exact hw) hl hb
theorem isTup_ex {d : D} (h : isTupD d = true) : ∃ xs, d = .tup xs := by
  cases d with
  | tup xs => exact ⟨xs, rfl⟩
  | _ => cases h
theorem ev_tupC {i : Nat} {d : D} (h : okR d) (hr : ρ[i]? = some (.d d)) : Ev (dIsiC "tuple" ["Room"] (dVar i)) ρ (.bl (isTupD d)) := fun Q E q => by
  show (match ρ[i]? with | some (Sl.d x) => isiC "tuple" ["Room"] x Q | _ => False)
  rw [hr]
  show isiC "tuple" ["Room"] d Q
  have go : okV d → isiC "tuple" ["Room"] d Q := fun hv => by
    obtain ⟨n, hn, hk⟩ := isi_tup hv
    cases d with
    | ins _ _ => exact hv.elim
    | fz _ => exact hv.elim
    | cl _ => exact hv.elim
    | fn _ _ => exact hv.elim
    | _ => cases hn; exact ⟨_, hk, q⟩
  cases d with
  | ins c fs => exact ⟨List.mem_singleton.mpr h, q⟩
  | _ => exact go h
end
theorem inRow_n {i : Int} {n : Nat} (hn : n ≤ 60) : inRow (.int i) 0 ((n : Int) - 1) = (decide (0 ≤ i) && decide (i < (n : Int))) := by
  show ((decide (-10 ^ 60 < i) && decide (i < 10 ^ 60)) && (decide (0 ≤ i) && decide (i ≤ (n : Int) - 1))) = _
  by_cases h : 0 ≤ i ∧ i < (n : Int)
  · rw [decide_eq_true h.1, decide_eq_true h.2, decide_eq_true (p := -10 ^ 60 < i) (by omega), decide_eq_true (p := i < 10 ^ 60) (by omega), decide_eq_true (p := i ≤ (n : Int) - 1) (by omega)]
    rfl
  · have e : (decide (0 ≤ i) && decide (i < (n : Int))) = false := by
      rw [Bool.and_eq_false_iff, decide_eq_false_iff_not, decide_eq_false_iff_not]
      omega
    have e2 : (decide (0 ≤ i) && decide (i ≤ (n : Int) - 1)) = false := by
      rw [Bool.and_eq_false_iff, decide_eq_false_iff_not, decide_eq_false_iff_not]
      omega
    rw [e, e2, Bool.and_false]
theorem idxD_no {n : Nat} {d : D} (h : isTupD d = false) : idxD n d = false := by
  cases d with
  | tup _ => cases h
  | _ => rfl
theorem wordRowD_no {d : D} (h : isTupD d = false) : wordRowD d = false := by
  cases d with
  | tup _ => cases h
  | _ => rfl
theorem reachD_no {d : D} (h : isTupD d = false) : reachD d = false := by
  cases d with
  | tup _ => cases h
  | _ => rfl
theorem truthsD_no {R : RR} {d : D} (h : isTupD d = false) : truthsD R d = false := by
  cases d with
  | tup _ => cases h
  | _ => rfl
theorem intsD_all : ∀ {xs : List D}, (∀ x ∈ xs, ∃ i, x = .int i) → ∃ r : List Int, xs = r.map D.int
  | [], _ => ⟨[], rfl⟩
  | x :: xs, h => by
    obtain ⟨i, rfl⟩ := h x List.mem_cons_self
    obtain ⟨r, e⟩ := intsD_all fun y hy => h y (List.mem_cons_of_mem _ hy)
    exact ⟨i :: r, by rw [e]; rfl⟩
theorem strsD_all : ∀ {xs : List D}, (∀ x ∈ xs, ∃ i, x = .str i) → ∃ r : List Str, xs = r.map D.str
  | [], _ => ⟨[], rfl⟩
  | x :: xs, h => by
    obtain ⟨i, rfl⟩ := h x List.mem_cons_self
    obtain ⟨r, e⟩ := strsD_all fun y hy => h y (List.mem_cons_of_mem _ hy)
    exact ⟨i :: r, by rw [e]; rfl⟩
theorem idx_yes {xs : List D} {n : Nat} (hn : n ≤ 60) (h : (xs.all fun x => inRow x 0 ((n : Int) - 1)) = true) : ∃ r : List Int, xs = r.map D.int ∧ (r.all fun x => decide (0 ≤ x) && decide (x < (n : Int))) = true := by
  have h0 := h
  rw [List.all_eq_true] at h
  obtain ⟨r, rfl⟩ := intsD_all (xs := xs) fun x hx => by
    have := h x hx
    cases x with
    | int i => exact ⟨i, rfl⟩
    | _ => cases this
  refine ⟨r, rfl, ?_⟩
  rw [List.all_map] at h0
  rw [← h0]
  congr 1
  funext x
  exact (inRow_n hn).symm
theorem idx_no {xs : List D} {n : Nat} (hn : n ≤ 60) (h : (xs.all fun x => inRow x 0 ((n : Int) - 1)) = false) : idxD n (.tup xs) = false := by
  unfold idxD
  cases q : intsT (.tup xs) with
  | none => rfl
  | some r =>
    have e : xs = r.map D.int := intsD_back q
    rw [e, List.all_map] at h
    show idxI n r = false
    unfold idxI
    have e2 : ((fun x => inRow x 0 ((n : Int) - 1)) ∘ D.int) = fun x : Int => decide (0 ≤ x) && decide (x < (n : Int)) := funext fun x => inRow_n hn
    rw [e2] at h
    rw [h, Bool.false_and]
theorem word_yes {xs : List D} (h : (xs.all isWordD) = true) : ∃ r : List Str, xs = r.map D.str ∧ r.all isWordS = true := by
  have h0 := h
  rw [List.all_eq_true] at h
  obtain ⟨r, rfl⟩ := strsD_all (xs := xs) fun x hx => by
    have := h x hx
    cases x with
    | str i => exact ⟨i, rfl⟩
    | _ => cases this
  refine ⟨r, rfl, ?_⟩
  rw [List.all_map] at h0
  exact h0
theorem word_no {xs : List D} (h : (xs.all isWordD) = false) : wordRowD (.tup xs) = false := by
  unfold wordRowD
  cases q : strsT (.tup xs) with
  | none => rfl
  | some r =>
    have e : xs = r.map D.str := by
      have := strsT_back q
      unfold rwS at this
      exact D.tup.inj this
    rw [e, List.all_map] at h
    show wordRow r = false
    unfold wordRow
    have e2 : (isWordD ∘ D.str) = isWordS := rfl
    rw [e2] at h
    rw [h, Bool.false_and]
theorem zipD_map {α β : Type} (f : α → D) (g : β → D) : ∀ (xs : List α) (ys : List β), zipD (xs.map f) (ys.map g) = (xs.zip ys).map fun p => D.tup [f p.1, g p.2]
  | [], _ => rfl
  | _ :: _, [] => rfl
  | x :: xs, y :: ys => by
    have ih := zipD_map f g xs ys
    unfold zipD at ih ⊢
    rw [List.map_cons, List.map_cons, List.zipWith_cons_cons, ih, List.zip_cons_cons, List.map_cons]
    rfl
theorem cut_tl {α : Type} (f : α → D) : ∀ xs : List α, cutD (xs.map f) (some 1) none = xs.tail.map f
  | [] => rfl
  | x :: xs => by
    rw [cut_from _ (by omega) (by rw [List.map_cons, List.length_cons]; omega)]
    rfl
/-- the neighbours of a row -/
theorem ev_nei {ρ : FP.Env} {α : Type} {e : α → D} {xs : List α} {f : DTE} (hf : Ev f ρ (.tup (xs.map e))) (hl : xs.length ≤ 1000) : EvI (dIList (dLz (dCons f (dCons (dSl f (dOSome (dC (.int 1))) dONone) dNil)))) ρ ((xs.zip xs.tail).map fun p => D.tup [e p.1, e p.2]) := fun Q E q => hf _ _ (hf _ _ ⟨xs.map e, xs.tail.map e, rfl, by rw [← cut_tl]; rfl, by
  rw [zipD_map, List.length_map, List.length_zip]
  exact size_small (by omega), by
  rw [zipD_map]
  exact q⟩)
theorem atI_row {α : Type} {e : α → D} {rows : List α} {o : Int} {d r : α} (h0 : 0 ≤ o) (h1 : o < (rows.length : Int)) (h : rows.getD o.toNat d = r) : atI (rows.map e) o = some (e r) := by
  rw [atI_nat h0 (by rw [List.length_map]; exact h1), List.getElem?_map]
  rw [List.getD_eq_getElem?_getD] at h
  have hl : o.toNat < rows.length := by omega
  rw [List.getElem?_eq_getElem hl] at h ⊢
  rw [← h]
  rfl
theorem atI_R {R : RR} {o : Int} {e : List Int → D} (h0 : 0 ≤ o) (h1 : o < (R.length : Int)) : atI (R.map e) o = some (e (atR R o)) := atI_row h0 h1 rfl
theorem atI_T {R : TT} {o : Int} {e : List Str → D} (h0 : 0 ≤ o) (h1 : o < (R.length : Int)) : atI (R.map e) o = some (e (atT R o)) := atI_row h0 h1 rfl
theorem lt_strs {a b : Str} {Q : D → Prop} (q : Q (.bl (ltS a b))) : rdLt (.str a) (.str b) Q := by
  show Q (.bl (decide (a.cps.toList < b.cps.toList)))
  have e : ltS a b = decide (a.cps.toList < b.cps.toList) := by
    rw [Bool.eq_iff_iff, ltS_iff, decide_eq_true_iff]
  rw [← e]
  exact q
theorem leN {a b : Nat} {Q : D → Prop} (q : Q (.bl (decide (a ≤ b)))) : rdLe (.int (a : Nat)) (.int (b : Nat)) Q := by
  show Q (.bl (decide ((a : Int) ≤ (b : Int))))
  rw [show decide ((a : Int) ≤ (b : Int)) = decide (a ≤ b) from decide_eq_decide.mpr ⟨fun h => by omega, fun h => by omega⟩]
  exact q
theorem ev_enum {ρ : FP.Env} {α : Type} {f : DTE} {xs : List α} (e : α → D) (h : Ev f ρ (.tup (xs.map e))) : EvI (dIEnum (dCons f dNil)) ρ (xs.zipIdx.map fun p => D.tup [.int (p.2 : Nat), e p.1]) := fun Q E q => h _ _ ⟨_, rfl, by
  rw [enumD_zip]
  exact q⟩
theorem ev_enumI {ρ : FP.Env} {f : DTE} {xs : List D} (h : Ev f ρ (.tup xs)) : EvI (dIEnum (dCons f dNil)) ρ (xs.zipIdx.map fun p => D.tup [.int (p.2 : Nat), p.1]) := by
  have := ev_enum (xs := xs) (fun x => x) (by rw [List.map_id']; exact h)
  exact this
def memD (i : Nat) (d : D) : Bool := match intsT d with
  | some r => decide ((i : Int) ∈ r)
  | none => false
theorem okRowD_eq (n i : Nat) (d : D) : (idxD n d && memD i d) = okRowD n i d := by
  unfold idxD memD okRowD
  cases intsT d with
  | none => rfl
  | some r => rfl
theorem idxD_ex {n : Nat} {d : D} (h : idxD n d = true) : ∃ r, d = rwI r := by
  unfold idxD at h
  cases q : intsT d with
  | none => rw [q] at h; cases h
  | some r => exact ⟨r, intsT_back q⟩
theorem memD_row (i : Nat) (r : List Int) : memD i (rwI r) = decide ((i : Int) ∈ r) := by
  unfold memD
  rw [intsT_row]
theorem zip_in {α : Type} {xs : List α} {p : α × Nat} (h : p ∈ xs.zipIdx) : xs[p.2]? = some p.1 := List.mem_zipIdx_iff_getElem?.mp h
theorem okRow_in {R : RR} (h : R.zipIdx.all (fun p => okRow R.length p.2 p.1) = true) : ∀ i : Nat, i < R.length → (atR R i).Pairwise (· < ·) ∧ (∀ x ∈ atR R i, 0 ≤ x ∧ x < (R.length : Int)) ∧ (i : Int) ∈ atR R i := fun i hi => by
  have := zipR_all.mp h i hi
  unfold okRow at this
  rw [Bool.and_eq_true, idxI_iff, decide_eq_true_iff] at this
  exact ⟨this.1.2, this.1.1, this.2⟩
theorem evB_moreB {ρ : FP.Env} {α : Type} {w : DTI} {T : Tg} {fb : DTB} {vs : List Nat} {c : Nat} {xs : List α} (e : α → D) (g : α → List Bool) (hw : EvI w ρ (xs.map e)) (hl : xs.length ≤ c) (hb : ∀ x ∈ xs, ∃ ρ2, T.put (e x) (wipeD ρ vs) = some ρ2 ∧ EvB fb ρ2 ((g x).map D.bl)) : EvB (dMoreB w T dYes fb vs c) ρ (((xs.map g).flatten).map D.bl) := by
  rw [List.map_flatten, List.map_map]
  exact evB_more e _ hw hl hb
theorem ev_lcNB {ρ : FP.Env} {α : Type} {w : DTI} {T : Tg} {fb : DTB} {vs : List Nat} {c : Nat} {xs : List α} (e : α → D) (g : α → List Bool) (hw : EvI w ρ (xs.map e)) (hl : xs.length ≤ c) (hb : ∀ x ∈ xs, ∃ ρ2, T.put (e x) (wipeD ρ vs) = some ρ2 ∧ EvB fb ρ2 ((g x).map D.bl)) : Ev (dLcN3 w T dYes fb vs c) ρ (.lst (((xs.map g).flatten).map D.bl)) := by
  rw [List.map_flatten, List.map_map]
  exact ev_lcN e _ hw hl hb
theorem all_fl {α : Type} (xs : List α) (g : α → List Bool) : ((xs.map g).flatten).all id = xs.all fun x => (g x).all id := by
  rw [List.all_flatten, List.all_map]
  rfl
theorem any_fl {α : Type} (xs : List α) (g : α → List Bool) : ((xs.map g).flatten).any id = xs.any fun x => (g x).any id := by
  rw [List.any_flatten, List.any_map]
  rfl
/-- any over two clauses -/
theorem ev_any2 {ρ : FP.Env} {α β : Type} {f : DTE} {w w1 : DTI} {T T1 : Tg} {vs vs1 : List Nat} {xs : List α} (e : α → D) (ys : α → List β) (e1 : α → β → D) (g : α → β → Bool) (hw : EvI w ρ (xs.map e)) (hl : xs.length ≤ 4000) (hb : ∀ x ∈ xs, ∃ ρ2, T.put (e x) (wipeD ρ vs) = some ρ2 ∧ EvI w1 ρ2 ((ys x).map (e1 x)) ∧ (ys x).length ≤ 4000 ∧ ∀ y ∈ ys x, ∃ ρ3, T1.put (e1 x y) (wipeD ρ2 vs1) = some ρ3 ∧ Ev f ρ3 (.bl (g x y))) :
    Ev (dCB rdAny (dCons (dLc2 w T dYes w1 T1 dYes f vs vs1) dNil)) ρ (.bl (xs.any fun x => (ys x).any (g x))) := by
  have h := ev_anyV (bs := (xs.map fun x => (ys x).map (g x)).flatten) (ev_lc2 (f := f) (T1 := T1) (vs1 := vs1) e ys e1 (fun x y => D.bl (g x y)) hw hl hb) (by
    rw [List.map_flatten, List.map_map]
    congr 1
    apply List.map_congr_left
    intro x _
    show (ys x).map (fun y => D.bl (g x y)) = ((ys x).map (g x)).map D.bl
    rw [List.map_map]
    rfl)
  rw [any_fl] at h
  have e2 : (fun x => ((ys x).map (g x)).any id) = fun x => (ys x).any (g x) := funext fun x => by
    rw [List.any_map]
    rfl
  rw [e2] at h
  exact h
theorem asc_len {n : Nat} {r : List Int} (h : r.Pairwise (· < ·)) (h2 : ∀ x ∈ r, 0 ≤ x ∧ x < (n : Int)) : r.length ≤ n := by
  have hnd : r.Nodup := h.imp fun {a b} hab => by omega
  have := nodup_len_le (xs := r.map Int.toNat) (ys := List.range n) (by
    refine List.Pairwise.map _ (fun a b hab => hab) ?_
    exact h.imp_of_mem fun {a b} ha hb hab => by
      have h1 := h2 a ha
      have h3 := h2 b hb
      omega) fun x hx => by
    obtain ⟨y, hy, rfl⟩ := List.mem_map.mp hx
    have := h2 y hy
    rw [List.mem_range]
    omega
  rw [List.length_map, List.length_range] at this
  exact this
section
variable {ρ : FP.Env} {f fa fb : DTE}
theorem vLenT {xs : List D} (h : Ev f ρ (.tup xs)) : Ev (dCB rdLen (dCons f dNil)) ρ (.int (xs.length : Nat)) := ev_cb (a1 h a0) fun Q q => q
theorem vLenL {xs : List D} (h : Ev f ρ (.lst xs)) : Ev (dCB rdLen (dCons f dNil)) ρ (.int (xs.length : Nat)) := ev_cb (a1 h a0) fun Q q => q
theorem vLstT {xs : List D} (h : Ev f ρ (.tup xs)) : Ev (dCB rdList (dCons f dNil)) ρ (.lst xs) := ev_cb (a1 h a0) fun Q q => q
theorem vNeN {a c : Nat} (ha : Ev fa ρ (.int (a : Nat))) (hb : Ev fb ρ (.int (c : Nat))) : EvT (dB (dOp rdNe fa fb)) ρ (!decide (a = c)) := b_v (ev_op (x := .int (a : Nat)) (y := .int (c : Nat)) ha hb fun Q q => by
  show Q (.bl (!decide (((a : Nat) : Int) = ((c : Nat) : Int))))
  rw [show decide (((a : Nat) : Int) = ((c : Nat) : Int)) = decide (a = c) from decide_eq_decide.mpr ⟨fun h => by omega, fun h => by omega⟩]
  exact q)
theorem vRng {n : Nat} (hn : n ≤ 1000) (h : Ev f ρ (.int (n : Nat))) : EvI (dIRng1 (dCons f dNil)) ρ ((List.range n).map fun k : Nat => D.int ((0 : Int) + k)) := fun Q E q => h _ _ ⟨by omega, by omega, by
  rw [Int.toNat_natCast]
  exact q⟩
end
end KP
/-! KP79: rooms as objects, specs (k30). -/
namespace KP
open PySem L2 FP
variable [FP.Tabl]
theorem reachD_ex {d : D} (h : reachD d = true) : ∃ R, d = tupR R := by
  cases d with
  | tup rows =>
    have h2 : reachQ rows = true := h
    unfold reachQ at h2
    cases q : rowsOf intsT rows with
    | none => rw [q] at h2; cases h2
    | some R => exact ⟨R, congrArg D.tup (rwsR q)⟩
  | _ => cases h
theorem truthsD_ex {R : RR} {d : D} (h : truthsD R d = true) : ∃ T, d = tupT T := by
  cases d with
  | tup rows =>
    have h2 : truthsQ R rows = true := h
    unfold truthsQ at h2
    cases q : rowsOf strsT rows with
    | none => rw [q] at h2; cases h2
    | some T => exact ⟨T, congrArg D.tup (rwsT q)⟩
  | _ => cases h
theorem tupR_inj {R R' : RR} (h : tupR R = tupR R') : R = R' := by
  have h2 : R.map rwI = R'.map rwI := D.tup.inj h
  have a := rowsOf_map intsT_row R
  rw [h2, rowsOf_map intsT_row R'] at a
  exact (Option.some.inj a).symm
theorem tupT_inj {R R' : TT} (h : tupT R = tupT R') : R = R' := by
  have h2 : R.map rwS = R'.map rwS := D.tup.inj h
  have a := rowsOf_map strsT_row R
  rw [h2, rowsOf_map strsT_row R'] at a
  exact (Option.some.inj a).symm
theorem flat_le {k : Nat} : ∀ {T : TT}, (∀ t ∈ T, t.length ≤ k) → T.flatten.length ≤ T.length * k
  | [], _ => Nat.zero_le _
  | t :: T, h => by
    have ih := flat_le (T := T) (k := k) fun x hx => h x (List.mem_cons_of_mem _ hx)
    have h1 := h t List.mem_cons_self
    rw [List.flatten_cons, List.length_append, List.length_cons, Nat.succ_mul]
    omega
theorem flatW_len {T : TT} (h1 : T.length ≤ 60) (h2 : ∀ t ∈ T, t.length ≤ 60) : T.flatten.length < 4000 := by
  have h := flat_le (T := T) (k := 60) h2
  have : T.length * 60 ≤ 60 * 60 := Nat.mul_le_mul_right 60 h1
  omega
theorem atI_zip {R : RR} {T : TT} {k : Int} (hl : T.length = R.length) (h0 : 0 ≤ k) (h1 : k < (R.length : Int)) : atI ((R.zip T).map fun p => D.tup [rwI p.1, rwS p.2]) k = some (.tup [rwI (atR R k), rwS (atT T k)]) := by
  have e := atI_row (e := fun p : List Int × List Str => D.tup [rwI p.1, rwS p.2]) (rows := R.zip T) (o := k) (d := ([], [])) (r := (atR R k, atT T k)) h0 (by rw [List.length_zip]; omega) (by
    unfold atR atT
    have hk : k.toNat < R.length := by omega
    have hk2 : k.toNat < T.length := by omega
    rw [List.getD_eq_getElem?_getD, List.getD_eq_getElem?_getD, List.getD_eq_getElem?_getD, List.getElem?_eq_getElem hk, List.getElem?_eq_getElem hk2, List.getElem?_eq_getElem (by rw [List.length_zip]; omega), List.getElem_zip]
    rfl)
  exact e
def tS (n : Nat) : Str := Str.ofString (toString (n : Int))
theorem tS_len {n : Nat} (h : n < 100000) : (tS n).length ≤ 7 := by
  have h2 := PyProof.Rows.toString_length_le (v := (n : Int)) (by omega) (k := 6) (by decide) (by
    have : (10 : Int) ^ 6 = 1000000 := by decide
    omega)
  unfold tS
  omega
def tellW (n k : Nat) : Str := ((tS n ++ " worlds, ") ++ tS k) ++ " atoms"
theorem seq_setS {w : World} {i : Nat} {f : DTE} {g : DTS} {N : Nd} {ρ : FP.Env} {ss : List Str} (hf : Ev f ρ (.lst (ss.map .str))) (hl : ss.length < 4000) (hg : g N (ρ.set i (.hv fun a => SetSO w a ss))) : dSeq (dSetS w i f) g N ρ := hf _ _ ⟨ss, strsD_map ss, hl, hg⟩
theorem dj1 {ρ : FP.Env} {f : DTE} {g : DJT} {acc y : Str} {Q : Str → Prop} {E : XD → Prop} (h : Ev f ρ (.str y)) (hl : (acc ++ y).length ≤ sizeLine) (k : g ρ (acc ++ y) Q E) : dJCons f g ρ acc Q E := h _ _ ⟨hl, k⟩
theorem ev_fmtN {ρ : FP.Env} {f : DTE} {n : Nat} (hn : n ≤ 100000) (h : Ev f ρ (.int (n : Nat))) : Ev (dFmt f) ρ (.str (tS n)) := fun Q E q => h _ _ ⟨by
  rw [Int.natAbs_natCast]
  by_cases h0 : n = 0
  · subst h0
    decide
  · have := (Nat.log2_lt h0 (k := 17)).mpr (by omega)
    omega, q⟩
theorem ev_tellW {ρ : FP.Env} {f1 f3 : DTE} {n k : Nat} (hn : n < 100000) (hk : k < 100000) (h1 : Ev f1 ρ (.int (n : Nat))) (h3 : Ev f3 ρ (.int (k : Nat))) : Ev (dJoined (dJCons (dFmt f1) (dJCons (dC (.str " worlds, ")) (dJCons (dFmt f3) (dJCons (dC (.str " atoms")) dJNil))))) ρ (.str (tellW n k)) := fun Q E q => by
  have l1 := tS_len hn
  have l3 := tS_len hk
  have l2 : (" worlds, " : Str).length = 9 := by decide +kernel
  have l4 : (" atoms" : Str).length = 6 := by decide +kernel
  have e0 : Str.empty ++ tS n = tS n := app_empty _
  show dJCons _ _ ρ Str.empty (fun z => Q (.str z)) E
  refine dj1 (ev_fmtN (by omega) h1) (by rw [e0]; exact size_small (by omega)) ?_
  rw [e0]
  refine dj1 (fun Q E q => q) (by rw [len_app]; exact size_small (by omega)) ?_
  refine dj1 (ev_fmtN (by omega) h3) (by rw [len_app, len_app]; exact size_small (by omega)) ?_
  refine dj1 (fun Q E q => q) (by rw [len_app, len_app, len_app]; exact size_small (by omega)) ?_
  exact q
def f_fldW (g : RR → TT → D) : List D → M D := fun ds Q _ => match ds with
  | [x] => ∃ R T, x = roomO R T ∧ Q (g R T)
  | _ => False
def f_atomsW : List D → M D := fun ds Q _ => match ds with
  | [x] => ∃ R T, x = roomO R T ∧ T.length ≤ 60 ∧ (∀ t ∈ T, t.length ≤ 60) ∧ Q (.tup ((sortU T.flatten).map .str))
  | _ => False
def f_reqW : List D → M D := fun ds Q _ => match ds with
  | [x, .int k] => ∃ R T, x = roomO R T ∧ R.length ≤ 60 ∧ 0 ≤ k ∧ k < (R.length : Int) ∧ Q .non
  | _ => False
def f_getW : List D → M D := fun ds Q _ => match ds with
  | [x, .int k] => ∃ R T, x = roomO R T ∧ R.length ≤ 60 ∧ T.length = R.length ∧ 0 ≤ k ∧ k < (R.length : Int) ∧ Q (.tup [rwI (atR R k), rwS (atT T k)])
  | _ => False
def f_strW : List D → M D := fun ds Q _ => match ds with
  | [x] => ∃ R T, x = roomO R T ∧ R.length ≤ 60 ∧ T.length ≤ 60 ∧ (∀ t ∈ T, t.length ≤ 60) ∧ Q (.str (tellW R.length (sortU T.flatten).length))
  | _ => False
def OkT (T : TT) : Prop := ∀ t ∈ T, ∀ a ∈ t, PyData.strOk a = true
def f_eqW : List D → M D := fun ds Q _ => match ds with
  | [x, y] => ∃ R T, x = roomO R T ∧ OkT T ∧ ((∃ R' T', y = roomO R' T' ∧ OkT T' ∧ Q (.bl (decide (R = R') && decide (T = T')))) ∨ (isiD ["Room"] (fun _ => true) y = some false ∧ Q (.bl false)))
  | _ => False
theorem words_ok {T : TT} (h : WordsT T) : OkT T := fun t ht a ha => (strOk_iff _).mpr (word_ok (h t ht a ha)).2
abbrev encR := (encI.tup).tup
abbrev encT := (encS.tup).tup
abbrev encRL := (encI.lst).lst
abbrev encTL := (encS.lst).lst
theorem eqTR {R R' : RR} {Q : D → Prop} (q : Q (.bl (decide (R = R')))) : rdEq (tupR R) (tupR R') Q := encR.eq (by omega) (fun _ _ _ _ => trivial) (fun _ _ _ _ => trivial) rfl q
theorem eqTT {T T' : TT} (h : OkT T) (h' : OkT T') {Q : D → Prop} (q : Q (.bl (decide (T = T')))) : rdEq (tupT T) (tupT T') Q := encT.eq (by omega) h h' rfl q
theorem neLR {R R' : RR} {Q : D → Prop} (q : Q (.bl (!decide (R = R')))) : rdNe (lstR R) (lstR R') Q := encRL.ne (by omega) (fun _ _ _ _ => trivial) (fun _ _ _ _ => trivial) rfl q
theorem neLT {T T' : TT} (h : OkT T) (h' : OkT T') {Q : D → Prop} (q : Q (.bl (!decide (T = T')))) : rdNe (lstT T) (lstT T') Q := encTL.ne (by omega) h h' rfl q
theorem neI1 {r r' : List Int} {Q : D → Prop} (q : Q (.bl (!decide (r = r')))) : rdNe (rwIL r) (rwIL r') Q := encI.lst.ne (by omega) (fun _ _ => trivial) (fun _ _ => trivial) rfl q
theorem neS1 {r r' : List Str} (h : ∀ a ∈ r, PyData.strOk a = true) (h' : ∀ a ∈ r', PyData.strOk a = true) {Q : D → Prop} (q : Q (.bl (!decide (r = r')))) : rdNe (rwSL r) (rwSL r') Q := encS.lst.ne (by omega) h h' rfl q
theorem nePairs {xs ys : List (List Int × List Str)} (h : ∀ p ∈ xs, ∀ a ∈ p.2, PyData.strOk a = true) (h' : ∀ p ∈ ys, ∀ a ∈ p.2, PyData.strOk a = true) {Q : D → Prop} (q : Q (.bl (!decide (xs = ys)))) : rdNe (.lst (xs.map fun p => .tup [rwI p.1, rwS p.2])) (.lst (ys.map fun p => .tup [rwI p.1, rwS p.2])) Q := ((encI.tup).pair encS.tup).lst.ne (by omega) (fun p hp => ⟨fun _ _ => trivial, h p hp⟩) (fun p hp => ⟨fun _ _ => trivial, h' p hp⟩) rfl q
theorem eqBoth {R R' : RR} {T T' : TT} (h : OkT T) (h' : OkT T') {Q : D → Prop} (q : Q (.bl (decide (R = R') && decide (T = T')))) : rdEq (.lst [lstR R, lstT T]) (.lst [lstR R', lstT T']) Q := (encRL.pairL encTL).eq (x := (R, T)) (y := (R', T')) (by omega) ⟨fun _ _ _ _ => trivial, h⟩ ⟨fun _ _ _ _ => trivial, h'⟩ rfl (by
  have e : decide ((R, T) = (R', T')) = (decide (R = R') && decide (T = T')) := by
    rw [Bool.eq_iff_iff, Bool.and_eq_true, decide_eq_true_iff, decide_eq_true_iff, decide_eq_true_iff, Prod.mk.injEq]
  rw [e]
  exact q)
end KP
/-! KP80: specs of the law's own defs about rooms (k30). -/
namespace KP
open PySem L2 FP
variable [FP.Tabl]
section
variable {ρ : FP.Env} {f : DTE}
theorem vRng2 {n : Nat} (hn : n ≤ 1000) (h : Ev f ρ (.int (n : Nat))) : EvI (dIRng1 (dCons f dNil)) ρ ((List.range n).map fun k : Nat => D.int (k : Nat)) := by
  have := vRng hn h
  have e : (fun k : Nat => D.int ((0 : Int) + k)) = fun k : Nat => D.int (k : Nat) := funext fun k => by rw [Int.zero_add]
  rw [e] at this
  exact this
theorem ev_sortUI {r : List Int} (h : Ev f ρ (rwIL r)) (hl : r.length < 64) : Ev (dSortSetI f) ρ (rwIL (sortUI r)) := fun Q E q => h _ _ ⟨r, intsD_map r, hl, q⟩
end
theorem end_for {w : DTI} {T : Tg} {b : DTS} {N : Nd} {ρ : FP.Env} (ds : List D) (hw : EvI w ρ ds) (h : forD T b N ds ρ) : dFor w T b N ρ := hw _ _ h
def roomD (R : RR) (T : TT) : D := .dct [(.inr "reach", lstR R), (.inr "truths", lstT T)]
structure SmL (R : RR) (T : TT) : Prop where
  n : R.length ≤ 60
  m : T.length ≤ 60
  r : ∀ r ∈ R, r.length ≤ 60
  t : ∀ t ∈ T, t.length ≤ 60
  w : WordsT T
theorem SmL.ok (s : SmL R T) : OkT T := words_ok s.w
theorem SmL.tupR (s : SmL R T) : SmD (tupR R) := ⟨trivial, fun xs h => by
  cases h
  rw [List.length_map]
  have := s.n
  omega, fun xs h x hx => by
  cases h
  obtain ⟨r, hr, rfl⟩ := List.mem_map.mp hx
  exact ⟨trivial, fun ys e => by cases e; rw [List.length_map]; exact s.r r hr, fun ys e y hy => by
    cases e
    obtain ⟨i, _, rfl⟩ := List.mem_map.mp hy
    exact trivial⟩⟩
theorem SmL.tupT (s : SmL R T) : SmD (tupT T) := ⟨trivial, fun xs h => by
  cases h
  rw [List.length_map]
  have := s.m
  omega, fun xs h x hx => by
  cases h
  obtain ⟨r, hr, rfl⟩ := List.mem_map.mp hx
  exact ⟨trivial, fun ys e => by cases e; rw [List.length_map]; exact s.t r hr, fun ys e y hy => by
    cases e
    obtain ⟨i, hi, rfl⟩ := List.mem_map.mp hy
    exact word_ok (s.w r hr i hi)⟩⟩
def f_lawroom : List D → M D := fun ds Q _ => match ds with
  | [x, y] => ∃ R T, x = lstR R ∧ y = lstT T ∧ SmL R T ∧ Q (.bl (roomL R T))
  | _ => False
def f_madeW : List D → M D := fun ds Q _ => match ds with
  | [x] => ∃ R T, x = roomD R T ∧ SmL R T ∧ roomB R T = true ∧ Q (roomO R T)
  | _ => False
/-- whether two values make a room -/
def f_ismade : List D → M D := fun ds Q _ => match ds with
  | [x, y] => SmD x ∧ SmD y ∧ (∀ R T, x = tupR R → y = tupT T → roomB R T = true → Q (.bl true)) ∧ ((¬ ∃ R T, x = tupR R ∧ y = tupT T ∧ roomB R T = true) → Q (.bl false))
  | _ => False
def f_toldW : List D → M D := fun ds Q _ => match ds with
  | [x] => ∃ R T, x = roomD R T ∧ SmL R T ∧ roomB R T = true ∧ Q (.bl true)
  | _ => False
theorem mem_atR_len {R : RR} {o : Int} (h : ∀ r ∈ R, r.length ≤ 60) : (atR R o).length ≤ 60 := by
  unfold atR
  rw [List.getD_eq_getElem?_getD]
  cases q : R[o.toNat]? with
  | none => exact Nat.zero_le _
  | some r => exact h r (List.mem_of_getElem? q)
theorem mem_atT_len {T : TT} {o : Int} (h : ∀ r ∈ T, r.length ≤ 60) : (atT T o).length ≤ 60 := by
  unfold atT
  rw [List.getD_eq_getElem?_getD]
  cases q : T[o.toNat]? with
  | none => exact Nat.zero_le _
  | some r => exact h r (List.mem_of_getElem? q)
theorem atT_ok {T : TT} {o : Int} (h : OkT T) : ∀ a ∈ atT T o, PyData.strOk a = true := by
  unfold atT
  rw [List.getD_eq_getElem?_getD]
  cases q : T[o.toNat]? with
  | none => exact fun a ha => by cases ha
  | some r => exact h r (List.mem_of_getElem? q)
theorem bools3 (a b c : Bool) : (!a || (!b || !c)) = !((a && b) && c) := by
  cases a <;> cases b <;> cases c <;> rfl
theorem lenW {R : RR} {T : TT} {Q : D → Prop} (h : R.length ≤ 60) (q : Q (.int (R.length : Nat))) : rdLenM "Room" (f_fldW fun R _ => .int (R.length : Nat)) [roomO R T] Q := ⟨rfl, R, T, rfl, ⟨by omega, by omega⟩, q⟩
theorem strW {R : RR} {T : TT} {Q : D → Prop} (s : SmL R T) (q : Q (.str (tellW R.length (sortU T.flatten).length))) : rdStrM "Room" f_strW [roomO R T] Q := ⟨rfl, R, T, rfl, s.n, s.m, s.t, q⟩
theorem ixW {R : RR} {T : TT} {k : Int} {Q : D → Prop} (s : SmL R T) (hl : T.length = R.length) (h0 : 0 ≤ k) (h1 : k < (R.length : Int)) (q : Q (.tup [rwI (atR R k), rwS (atT T k)])) : rdIxM "Room" f_getW (roomO R T) (.int k) Q := ⟨rfl, R, T, rfl, s.n, hl, h0, h1, q⟩
theorem dgR {R : RR} {T : TT} {Q : D → Prop} (q : Q (lstR R)) : rdDGet (roomD R T) (.str "reach") Q := ⟨.inr "reach", lstR R, rfl, by first | rfl | kernel_rfl, q⟩
theorem dgT {R : RR} {T : TT} {Q : D → Prop} (q : Q (lstT T)) : rdDGet (roomD R T) (.str "truths") Q := ⟨.inr "truths", lstT T, rfl, by first | rfl | kernel_rfl, q⟩
section
variable {ρ : FP.Env} {f : DTE} {R : RR} {T : TT}
theorem ev_dgR (h : Ev f ρ (roomD R T)) : Ev (dOp rdDGet f (dC (.str "reach"))) ρ (lstR R) := ev_op h (fun Q E q => q) fun Q q => dgR q
theorem ev_dgT (h : Ev f ρ (roomD R T)) : Ev (dOp rdDGet f (dC (.str "truths"))) ρ (lstT T) := ev_op h (fun Q E q => q) fun Q q => dgT q
abbrev EvX' (f : DTE) (ρ : FP.Env) (x : XD) : Prop := ∀ (Q : D → Prop) (E : XD → Prop), E x → f ρ Q E
theorem evX_make {cl : Str} {F : List D → ((List (Str × D)) → Prop) → (XD → Prop) → Prop} {n : Nat} {ga : DTA} {ds : List D} {x : XD} (ha : EvA ga ρ ds) (hn : ds.length = n) (h : ∀ (Q : List (Str × D) → Prop) (E : XD → Prop), E x → F ds Q E) : EvX' (dMake cl F n ga) ρ x := fun Q E q => ha _ _ ⟨hn, h _ _ q⟩
theorem evX_op {rd : RD2} {fa fb : DTE} {x : XD} (h : EvX' fa ρ x) : EvX' (dOp rd fa fb) ρ x := fun Q E q => h _ _ q
theorem evX_cb {rd : RDL} {fa : DTE} {x : XD} (h : EvX' fa ρ x) : EvX' (dCB rd (dCons fa dNil)) ρ x := fun Q E q => h _ _ q
theorem make_yes {x y : D} {R : RR} {T : TT} (s1 : SmD x) (s2 : SmD y) (e1 : x = tupR R) (e2 : y = tupT T) (hB : roomB R T = true) (Q : List (Str × D) → Prop) (E : XD → Prop) (q : Q (roomF R T)) : f_initRoom [x, y] Q E := ⟨s1, s2, fun R' T' h1 h2 _ => by
  subst e1 e2
  cases tupR_inj h1
  cases tupT_inj h2
  exact q, fun h => absurd ⟨R, T, e1, e2, hB⟩ h⟩
theorem make_no {x y : D} (s1 : SmD x) (s2 : SmD y) (h : ¬ ∃ R T, x = tupR R ∧ y = tupT T ∧ roomB R T = true) (Q : List (Str × D) → Prop) (E : XD → Prop) (q : E roomX) : f_initRoom [x, y] Q E := ⟨s1, s2, fun R' T' h1 h2 h3 => absurd ⟨R', T', h1, h2, h3⟩ h, fun _ => q⟩
end
theorem ev_strN {ρ : FP.Env} {f : DTE} {n : Nat} (hn : n ≤ 100000) (h : Ev f ρ (.int (n : Nat))) : Ev (dCB rdStr (dCons f dNil)) ρ (.str (tS n)) := ev_cb (a1 h a0) fun Q q => ⟨by
  rw [Int.natAbs_natCast]
  by_cases h0 : n = 0
  · subst h0
    decide
  · have := (Nat.log2_lt h0 (k := 17)).mpr (by omega)
    omega, q⟩
theorem ev_tellS {ρ : FP.Env} {f1 f3 : DTE} {n k : Nat} (hn : n < 100000) (hk : k < 100000) (h1 : Ev f1 ρ (.int (n : Nat))) (h3 : Ev f3 ρ (.int (k : Nat))) : Ev (dOp rdAdd (dOp rdAdd (dOp rdAdd (dCB rdStr (dCons f1 dNil)) (dC (.str " worlds, "))) (dCB rdStr (dCons f3 dNil))) (dC (.str " atoms"))) ρ (.str (tellW n k)) := by
  have l1 := tS_len hn
  have l3 := tS_len hk
  have l2 : (" worlds, " : Str).length = 9 := by decide +kernel
  have l4 : (" atoms" : Str).length = 6 := by decide +kernel
  refine ev_op (x := .str ((tS n ++ " worlds, ") ++ tS k)) (y := .str " atoms") (ev_op (x := .str (tS n ++ " worlds, ")) (y := .str (tS k)) (ev_op (x := .str (tS n)) (y := .str " worlds, ") (ev_strN (by omega) h1) (fun Q E q => q) fun Q q => ⟨?_, q⟩) (ev_strN (by omega) h3) fun Q q => ⟨?_, q⟩) (fun Q E q => q) fun Q q => ⟨?_, q⟩
  · exact size_small (by omega)
  · rw [len_app]
    exact size_small (by omega)
  · rw [len_app, len_app]
    exact size_small (by omega)
theorem ev_lzT {ρ : FP.Env} {f g : DTE} {xs ys : List D} (hf : Ev f ρ (.tup xs)) (hg : Ev g ρ (.tup ys)) (hl : xs.length ≤ 1000) : Ev (dLz (dCons f (dCons g dNil))) ρ (.lst (zipD xs ys)) := fun Q E q => hf _ _ (hg _ _ ⟨xs, ys, rfl, rfl, by
  unfold zipD
  rw [List.length_zipWith]
  exact size_small (by omega), q⟩)
/-- the worlds of a room with their atoms, one by one -/
theorem zip_range {R : RR} {T : TT} (hl : T.length = R.length) : (List.range R.length).map (fun k : Nat => ((atR R k, atT T k) : List Int × List Str)) = R.zip T := by
  refine List.ext_getElem? fun i => ?_
  rw [List.getElem?_map]
  by_cases h : i < R.length
  · have e1 : (R.zip T)[i]? = some (atR R i, atT T i) := List.getElem?_zip_eq_some.mpr ⟨atR_get h, atT_get (by omega)⟩
    rw [List.getElem?_range h, e1]
    rfl
  · rw [List.getElem?_eq_none (by rw [List.length_range]; omega), List.getElem?_eq_none (by rw [List.length_zip]; omega)]
    rfl
end KP
/-! KP81: drawn rooms, pure (k30). -/
namespace KP
open PySem L2 FP
variable [FP.Tabl]
/-! ### a room in another order -/
def idxO : List Int → Int → Nat
  | [], _ => 0
  | x :: r, k => if x = k then 0 else idxO r k + 1
theorem idxO_get : ∀ {os : List Int} {k : Int}, k ∈ os → os[idxO os k]? = some k
  | x :: r, k, h => by
    unfold idxO
    by_cases e : x = k
    · rw [if_pos e, e]
      rfl
    · rw [if_neg e, List.getElem?_cons_succ]
      exact idxO_get ((List.mem_cons.mp h).resolve_left fun q => e q.symm)
theorem idxO_first : ∀ {os : List Int} {k : Int} {m : Nat}, m < idxO os k → os[m]? ≠ some k
  | [], _, _, h => by cases h
  | x :: r, k, m, h => by
    unfold idxO at h
    by_cases e : x = k
    · rw [if_pos e] at h
      cases h
    · rw [if_neg e] at h
      cases m with
      | zero => exact fun q => e (Option.some.inj q)
      | succ m =>
        rw [List.getElem?_cons_succ]
        exact idxO_first (os := r) (k := k) (m := m) (by omega)
theorem idxO_lt {os : List Int} {k : Int} (h : k ∈ os) : idxO os k < os.length := (List.getElem?_eq_some_iff.mp (idxO_get h)).1
theorem idxO_self {os : List Int} {j : Nat} {k : Int} (nd : os.Nodup) (h : os[j]? = some k) : idxO os k = j := nodup_ix nd (idxO_get (List.mem_of_getElem? h)) h
def turnR (os : List Int) (R : RR) : RR := os.map fun o => sortI ((atR R o).map fun x => ((idxO os x : Nat) : Int))
def turnT (os : List Int) (T : TT) : TT := os.map fun o => atT T o
structure Ord (n : Nat) (os : List Int) : Prop where
  len : os.length = n
  nd : os.Nodup
  mem : ∀ x, x ∈ os ↔ 0 ≤ x ∧ x < (n : Int)
theorem sortI_mem {l : List Int} {x : Int} : x ∈ sortI l ↔ x ∈ l := (sortI_perm l).mem_iff
theorem sortI_asc {l : List Int} (h : l.Nodup) : (sortI l).Pairwise (· < ·) := ((sortI_up l).and ((sortI_perm l).nodup_iff.mpr h)).imp fun {a b} hab => by
  have h1 : a ≤ b := hab.1
  have h2 : a ≠ b := hab.2
  omega
theorem sortS_asc {l : List Str} (h : l.Nodup) : (sortS l).Pairwise (fun a b => ltS a b = true) := ((sortS_up l).and ((sortS_perm l).nodup_iff.mpr h)).imp fun {a b} hab => by
  cases q : ltS a b with
  | true => rfl
  | false => exact absurd (ltS_tri q hab.1) hab.2
theorem asc_nodup {l : List Int} (h : l.Pairwise (· < ·)) : l.Nodup := h.imp fun {a b} hab => by omega
theorem map_nodup {α β : Type} {f : α → β} {l : List α} (h : l.Nodup) (inj : ∀ x ∈ l, ∀ y ∈ l, f x = f y → x = y) : (l.map f).Nodup := by
  induction l with
  | nil => exact List.nodup_nil
  | cons x r ih =>
    rw [List.map_cons, List.nodup_cons]
    obtain ⟨h1, h2⟩ := List.nodup_cons.mp h
    refine ⟨fun q => ?_, ih h2 fun a ha b hb => inj a (List.mem_cons_of_mem _ ha) b (List.mem_cons_of_mem _ hb)⟩
    obtain ⟨y, hy, e⟩ := List.mem_map.mp q
    have := inj y (List.mem_cons_of_mem _ hy) x List.mem_cons_self e
    subst this
    exact h1 hy
section
variable {n : Nat} {os : List Int} {R : RR} {T : TT}
theorem Ord.at (o : Ord n os) {k : Nat} (h : k < n) : ∃ y, os[k]? = some y ∧ y ∈ os ∧ 0 ≤ y ∧ y < (n : Int) := by
  have hl : k < os.length := by rw [o.len]; exact h
  have hm := List.getElem_mem hl
  exact ⟨os[k], List.getElem?_eq_getElem hl, hm, (o.mem _).mp hm⟩
theorem turnR_at {k : Nat} {y : Int} (h : os[k]? = some y) : atR (turnR os R) (k : Int) = sortI ((atR R y).map fun x => ((idxO os x : Nat) : Int)) := atR_some (by
  unfold turnR
  rw [List.getElem?_map, h]
  rfl)
theorem turnT_at {k : Nat} {y : Int} (h : os[k]? = some y) : atT (turnT os T) (k : Int) = atT T y := atT_some (by
  unfold turnT
  rw [List.getElem?_map, h]
  rfl)
theorem RoomP.rngI (p : RoomP R T) {y : Int} (h0 : 0 ≤ y) (h1 : y < (R.length : Int)) : ∀ x ∈ atR R y, 0 ≤ x ∧ x < (R.length : Int) := by
  have := p.rng y.toNat (by omega)
  rw [Int.toNat_of_nonneg h0] at this
  exact this
theorem turn_room (p : RoomP R T) (o : Ord R.length os) : RoomP (turnR os R) (turnT os T) := by
  have lr : (turnR os R).length = R.length := by
    unfold turnR
    rw [List.length_map, o.len]
  have lt : (turnT os T).length = R.length := by
    unfold turnT
    rw [List.length_map, o.len]
  have nat : ∀ y : Int, 0 ≤ y → y < (R.length : Int) → ∃ i : Nat, i < R.length ∧ y = (i : Int) := fun y h0 h1 => ⟨y.toNat, by omega, (Int.toNat_of_nonneg h0).symm⟩
  have mem : ∀ {k : Nat} {y : Int}, os[k]? = some y → ∀ x, x ∈ atR (turnR os R) (k : Int) ↔ ∃ z ∈ atR R y, ((idxO os z : Nat) : Int) = x := fun h x => by rw [turnR_at h, sortI_mem, List.mem_map]
  have inos : ∀ {y : Int}, y ∈ os → ∀ z ∈ atR R y, z ∈ os := fun {y} hy z hz => by
    obtain ⟨h0, h1⟩ := (o.mem y).mp hy
    exact (o.mem z).mpr (p.rngI h0 h1 z hz)
  have inj : ∀ {a b : Int}, a ∈ os → b ∈ os → idxO os a = idxO os b → a = b := fun {a b} ha hb e => by
    have h1 := idxO_get ha
    rw [e, idxO_get hb] at h1
    exact (Option.some.inj h1).symm
  refine ⟨by rw [lr]; exact p.n1, by rw [lr]; exact p.n60, by rw [lr, lt], ?_, ?_, ?_, ?_, ?_, ?_, ?_⟩
  · intro k hk
    rw [lr] at hk
    obtain ⟨y, e, hy, h0, h1⟩ := o.at hk
    rw [turnR_at e]
    obtain ⟨i, hi, rfl⟩ := nat y h0 h1
    exact sortI_asc (map_nodup (asc_nodup (p.asc i hi)) fun a ha b hb q => inj (inos hy a ha) (inos hy b hb) (Int.ofNat.inj q))
  · intro k hk x hx
    rw [lr] at hk ⊢
    obtain ⟨y, e, hy, h0, h1⟩ := o.at hk
    obtain ⟨z, hz, rfl⟩ := (mem e x).mp hx
    have := idxO_lt (inos hy z hz)
    rw [o.len] at this
    omega
  · intro k hk
    rw [lr] at hk
    obtain ⟨y, e, hy, h0, h1⟩ := o.at hk
    obtain ⟨i, hi, rfl⟩ := nat y h0 h1
    exact (mem e _).mpr ⟨(i : Int), p.self i hi, by rw [idxO_self o.nd e]⟩
  · intro k hk
    rw [lr] at hk
    obtain ⟨y, e, hy, h0, h1⟩ := o.at hk
    obtain ⟨i, hi, rfl⟩ := nat y h0 h1
    rw [turnT_at e]
    exact p.ascT i hi
  · intro k hk x hx hne hin
    rw [lr] at hk
    obtain ⟨y, e, hy, h0, h1⟩ := o.at hk
    obtain ⟨i, hi, rfl⟩ := nat y h0 h1
    obtain ⟨z, hz, rfl⟩ := (mem e x).mp hx
    have hzo := inos hy z hz
    obtain ⟨u, hu, e2⟩ := (mem (idxO_get hzo) _).mp hin
    have huo := inos hzo u hu
    have e3 : idxO os u = k := Int.ofNat.inj e2
    have e4 := idxO_get huo
    rw [e3, e] at e4
    have e5 : u = (i : Int) := (Option.some.inj e4).symm
    subst e5
    refine p.anti i hi z hz (fun q => hne ?_) hu
    rw [q, idxO_self o.nd e]
  · intro k hk x hx v hv
    rw [lr] at hk
    obtain ⟨y, e, hy, h0, h1⟩ := o.at hk
    obtain ⟨i, hi, rfl⟩ := nat y h0 h1
    obtain ⟨z, hz, rfl⟩ := (mem e x).mp hx
    obtain ⟨u, hu, rfl⟩ := (mem (idxO_get (inos hy z hz)) v).mp hv
    exact (mem e _).mpr ⟨u, p.trans i hi z hz u hu, rfl⟩
  · intro k hk x hx a ha
    rw [lr] at hk
    obtain ⟨y, e, hy, h0, h1⟩ := o.at hk
    obtain ⟨i, hi, rfl⟩ := nat y h0 h1
    obtain ⟨z, hz, rfl⟩ := (mem e x).mp hx
    rw [turnT_at e] at ha
    rw [turnT_at (idxO_get (inos hy z hz))]
    exact p.up i hi z hz a ha
end
/-! ### a room drawn from the top down -/
structure Part (n : Nat) (as : List Str) (w : Nat) (R : RR) (T : TT) : Prop where
  lr : R.length = n
  lt : T.length = n
  asc : ∀ i : Nat, w ≤ i → i < n → (atR R i).Pairwise (· < ·)
  rng : ∀ i : Nat, w ≤ i → i < n → ∀ x ∈ atR R i, (i : Int) ≤ x ∧ x < (n : Int)
  self : ∀ i : Nat, w ≤ i → i < n → (i : Int) ∈ atR R i
  trans : ∀ i : Nat, w ≤ i → i < n → ∀ o ∈ atR R i, ∀ x ∈ atR R o, x ∈ atR R i
  ascT : ∀ i : Nat, w ≤ i → i < n → (atT T i).Pairwise (fun a b => ltS a b = true)
  inA : ∀ i : Nat, w ≤ i → i < n → ∀ a ∈ atT T i, a ∈ as
  up : ∀ i : Nat, w ≤ i → i < n → ∀ o ∈ atR R i, ∀ a ∈ atT T i, a ∈ atT T o
structure Fnd (n w : Nat) (R : RR) (found : List Int) : Prop where
  nd : found.Nodup
  me : (w : Int) ∈ found
  rng : ∀ x ∈ found, (w : Int) ≤ x ∧ x < (n : Int)
  clo : ∀ x ∈ found, x ≠ (w : Int) → ∀ y ∈ atR R x, y ∈ found
theorem atR_set {R : RR} {w : Nat} {r : List Int} (h : w < R.length) {i : Int} (h0 : 0 ≤ i) : atR (R.set w r) i = if i = (w : Int) then r else atR R i := by
  unfold atR
  rw [List.getD_eq_getElem?_getD, List.getD_eq_getElem?_getD, List.getElem?_set]
  by_cases e : i = (w : Int)
  · subst e
    rw [if_pos rfl, Int.toNat_natCast, if_pos rfl, if_pos h]
    rfl
  · rw [if_neg e, if_neg (by omega)]
theorem atT_set {R : TT} {w : Nat} {r : List Str} (h : w < R.length) {i : Int} (h0 : 0 ≤ i) : atT (R.set w r) i = if i = (w : Int) then r else atT R i := by
  unfold atT
  rw [List.getD_eq_getElem?_getD, List.getD_eq_getElem?_getD, List.getElem?_set]
  by_cases e : i = (w : Int)
  · subst e
    rw [if_pos rfl, Int.toNat_natCast, if_pos rfl, if_pos h]
    rfl
  · rw [if_neg e, if_neg (by omega)]
section
variable {n w : Nat} {as : List Str} {R : RR} {T : TT}
theorem Fnd.one (h : w < n) : Fnd n w R [(w : Int)] := ⟨List.nodup_cons.mpr ⟨List.not_mem_nil, List.nodup_nil⟩, List.mem_singleton.mpr rfl, fun x hx => by
  rw [List.mem_singleton.mp hx]
  omega, fun x hx hne => absurd (List.mem_singleton.mp hx) hne⟩
theorem Fnd.more {found : List Int} (f : Fnd n w R found) (p : Part n as (w + 1) R T) {o : Nat} (h1 : w < o) (h2 : o < n) : Fnd n w R (found ++ (atR R (o : Int)).filter fun x => !decide (x ∈ found)) := by
  have key : ∀ x ∈ (atR R (o : Int)).filter (fun x => !decide (x ∈ found)), x ∈ atR R (o : Int) ∧ x ∉ found := fun x hx => by
    obtain ⟨a, b⟩ := List.mem_filter.mp hx
    exact ⟨a, by simpa using b⟩
  refine ⟨List.nodup_append.mpr ⟨f.nd, (asc_nodup (p.asc o h1 h2)).filter _, fun a ha b hb e => (key b hb).2 (e ▸ ha)⟩, List.mem_append_left _ f.me, fun x hx => ?_, fun x hx hne y hy => ?_⟩
  · rcases List.mem_append.mp hx with q | q
    · exact f.rng x q
    · have := p.rng o h1 h2 x (key x q).1
      omega
  · by_cases hyf : y ∈ found
    · exact List.mem_append_left _ hyf
    · refine List.mem_append_right _ (List.mem_filter.mpr ⟨?_, by simpa using hyf⟩)
      rcases List.mem_append.mp hx with q | q
      · exact absurd (f.clo x q hne y hy) hyf
      · exact p.trans o h1 h2 x (key x q).1 y hy
theorem Part.step {found : List Int} {ts : List Str} (p : Part n as (w + 1) R T) (hw : w < n) (f : Fnd n w R found) (hn : ts.Nodup) (ha : ∀ a ∈ ts, a ∈ as) (hu : ∀ a ∈ ts, ∀ x ∈ found, x ≠ (w : Int) → a ∈ atT T x) : Part n as w (R.set w (sortI found)) (T.set w (sortS ts)) := by
  have hR : w < R.length := by rw [p.lr]; exact hw
  have hT : w < T.length := by rw [p.lt]; exact hw
  have smem : ∀ a, a ∈ sortS ts ↔ a ∈ ts := fun a => (sortS_perm ts).mem_iff
  have eR : ∀ {i : Int}, 0 ≤ i → atR (R.set w (sortI found)) i = if i = (w : Int) then sortI found else atR R i := fun h => atR_set hR h
  have eT : ∀ {i : Int}, 0 ≤ i → atT (T.set w (sortS ts)) i = if i = (w : Int) then sortS ts else atT T i := fun h => atT_set hT h
  refine ⟨by rw [List.length_set, p.lr], by rw [List.length_set, p.lt], ?_, ?_, ?_, ?_, ?_, ?_, ?_⟩
  · intro i h1 h2
    rw [eR (by omega)]
    by_cases e : (i : Int) = (w : Int)
    · rw [if_pos e]
      exact sortI_asc f.nd
    · rw [if_neg e]
      exact p.asc i (by omega) h2
  · intro i h1 h2 x
    rw [eR (by omega)]
    by_cases e : (i : Int) = (w : Int)
    · rw [if_pos e, sortI_mem, e]
      exact f.rng x
    · rw [if_neg e]
      exact p.rng i (by omega) h2 x
  · intro i h1 h2
    rw [eR (by omega)]
    by_cases e : (i : Int) = (w : Int)
    · rw [if_pos e, sortI_mem, e]
      exact f.me
    · rw [if_neg e]
      exact p.self i (by omega) h2
  · intro i h1 h2 o
    rw [eR (i := (i : Int)) (by omega)]
    by_cases e : (i : Int) = (w : Int)
    · rw [if_pos e, sortI_mem]
      intro ho x
      have hr := f.rng o ho
      rw [eR (by omega)]
      by_cases e2 : o = (w : Int)
      · rw [if_pos e2]
        exact id
      · rw [if_neg e2, sortI_mem]
        exact f.clo o ho e2 x
    · rw [if_neg e]
      intro ho x
      have hr := p.rng i (by omega) h2 o ho
      rw [eR (by omega), if_neg (by omega)]
      exact p.trans i (by omega) h2 o ho x
  · intro i h1 h2
    rw [eT (by omega)]
    by_cases e : (i : Int) = (w : Int)
    · rw [if_pos e]
      exact sortS_asc hn
    · rw [if_neg e]
      exact p.ascT i (by omega) h2
  · intro i h1 h2 a
    rw [eT (by omega)]
    by_cases e : (i : Int) = (w : Int)
    · rw [if_pos e, smem]
      exact ha a
    · rw [if_neg e]
      exact p.inA i (by omega) h2 a
  · intro i h1 h2 o
    rw [eR (i := (i : Int)) (by omega), eT (i := (i : Int)) (by omega)]
    by_cases e : (i : Int) = (w : Int)
    · rw [if_pos e, if_pos e, sortI_mem]
      intro ho a hat
      have hr := f.rng o ho
      rw [eT (by omega)]
      by_cases e2 : o = (w : Int)
      · rw [if_pos e2]
        exact hat
      · rw [if_neg e2]
        exact hu a ((smem a).mp hat) o ho e2
    · rw [if_neg e, if_neg e]
      intro ho a hat
      have hr := p.rng i (by omega) h2 o ho
      rw [eT (by omega), if_neg (by omega)]
      exact p.up i (by omega) h2 o ho a hat
theorem Part.room (p : Part n as 0 R T) (h1 : 1 ≤ n) (h2 : n ≤ 60) : RoomP R T := by
  have e := p.lr
  subst e
  refine ⟨h1, h2, p.lt, fun i hi => p.asc i (Nat.zero_le _) hi, fun i hi x hx => ?_, fun i hi => p.self i (Nat.zero_le _) hi, fun i hi => p.ascT i (Nat.zero_le _) hi, fun i hi o ho hne hin => ?_, fun i hi => p.trans i (Nat.zero_le _) hi, fun i hi => p.up i (Nat.zero_le _) hi⟩
  · have := p.rng i (Nat.zero_le _) hi x hx
    omega
  · have h3 := p.rng i (Nat.zero_le _) hi o ho
    have h4 := p.rng o.toNat (Nat.zero_le _) (by omega) (i : Int) (by rw [Int.toNat_of_nonneg (by omega)]; exact hin)
    omega
theorem Part.start (hr : R.length = n) (ht : T.length = n) : Part n as n R T := ⟨hr, ht, fun i h1 h2 => by omega, fun i h1 h2 => by omega, fun i h1 h2 => by omega, fun i h1 h2 => by omega, fun i h1 h2 => by omega, fun i h1 h2 => by omega, fun i h1 h2 => by omega⟩
end
end KP
/-! KP82: specs of drawn rooms; small steps (k30). -/
namespace KP
open PySem L2 FP
variable [FP.Tabl]
def f_turned : List D → M D := fun ds Q _ => match ds with
  | [.lst xs, y, z] => ∃ (os : List Int) (R : RR) (T : TT), xs = os.map .int ∧ y = lstR R ∧ z = lstT T ∧ Ord R.length os ∧ RoomP R T ∧ Q (roomD (turnR os R) (turnT os T))
  | _ => False
structure Drawn (as : List Str) (R : RR) (T : TT) : Prop where
  p : RoomP R T
  sz : R.length ≤ 5
  inA : ∀ t ∈ T, ∀ a ∈ t, a ∈ as
structure Atoms (as : List Str) : Prop where
  len : as.length ≤ 3
  nd : as.Nodup
  w : ∀ a ∈ as, isWordS a = true
theorem Drawn.row {as : List Str} {R : RR} {T : TT} (d : Drawn as R T) : ∀ r ∈ R, r.length ≤ 5 := fun r hr => by
  obtain ⟨i, hi⟩ := List.mem_iff_getElem?.mp hr
  have hl := (List.getElem?_eq_some_iff.mp hi).1
  have h := asc_len (d.p.asc i hl) (d.p.rng i hl)
  rw [atR_some hi] at h
  have := d.sz
  omega
theorem Drawn.rowT {as : List Str} {R : RR} {T : TT} (d : Drawn as R T) (A : Atoms as) : ∀ t ∈ T, t.length ≤ 3 := fun t ht => by
  obtain ⟨i, hi⟩ := List.mem_iff_getElem?.mp ht
  have hl := (List.getElem?_eq_some_iff.mp hi).1
  have h := d.p.ascT i (by rw [← d.p.len]; exact hl)
  rw [atT_some hi] at h
  have nd : t.Nodup := h.imp fun {a b} hab e => by
    subst e
    rw [ltS_irrefl] at hab
    cases hab
  exact Nat.le_trans (nodup_len_le nd (d.inA t ht)) A.len
theorem Drawn.words {as : List Str} {R : RR} {T : TT} (d : Drawn as R T) (A : Atoms as) : WordsT T := fun t ht a ha => A.w a (d.inA t ht a ha)
theorem Drawn.sm {as : List Str} {R : RR} {T : TT} (d : Drawn as R T) (A : Atoms as) : SmL R T := ⟨by have := d.sz; omega, by rw [d.p.len]; have := d.sz; omega, fun r hr => by have := d.row r hr; omega, fun t ht => by have := d.rowT A t ht; omega, d.words A⟩
theorem Drawn.room {as : List Str} {R : RR} {T : TT} (d : Drawn as R T) (A : Atoms as) : roomB R T = true := roomB_iff.mpr ⟨d.p, d.words A⟩
def f_drawnR : List D → M D := fun ds Q _ => match ds with
  | [.tok, x] => ∃ as : List Str, x = .lst (as.map .str) ∧ Atoms as ∧ ∀ R T, Drawn as R T → Q (roomD R T)
  | _ => False
section
variable {ρ : FP.Env} {N : Nd} {gs s : DTS} {i j : Nat}
theorem seq_o2App {fk fe : DTE} {as : List Addr} {kvs : List (Key × List D)} (y : D) (kk : Key) (n : Nat) (xs : List D) (d : D) (h : ρ[i]? = some (.o2 as (.dl kvs))) (hk : Ev fk ρ y) (hy : keyD y = some kk) (hn : (kvs.map (·.1))[n]? = some kk) (hf : ∀ m, m < n → (kvs.map (·.1))[m]? ≠ some kk) (hx : (kvs.map (·.2))[n]? = some xs) (he : Ev fe ρ d) (hl : xs.length < sizeLine)
    (hg : gs N (ρ.set i (.o2 as (.dl (setNth kvs n (xs ++ [d])))))) : dSeq (dO2App i fk fe) gs N ρ := by
  unfold dSeq dO2App
  rw [h]
  exact hk _ _ ⟨kk, n, xs, hy, hn, hf, hx, he _ _ ⟨hl, hg⟩⟩
theorem end_o2App {fk fe : DTE} {as : List Addr} {kvs : List (Key × List D)} (y : D) (kk : Key) (n : Nat) (xs : List D) (d : D) (h : ρ[i]? = some (.o2 as (.dl kvs))) (hk : Ev fk ρ y) (hy : keyD y = some kk) (hn : (kvs.map (·.1))[n]? = some kk) (hf : ∀ m, m < n → (kvs.map (·.1))[m]? ≠ some kk) (hx : (kvs.map (·.2))[n]? = some xs) (he : Ev fe ρ d) (hl : xs.length < sizeLine)
    (hg : N.nx (ρ.set i (.o2 as (.dl (setNth kvs n (xs ++ [d])))))) : dO2App i fk fe N ρ := by
  unfold dO2App
  rw [h]
  exact hk _ _ ⟨kk, n, xs, hy, hn, hf, hx, he _ _ ⟨hl, hg⟩⟩
theorem seq_up {as : List Addr} {xss : List (List D)} (h : ρ[i]? = some (.o2 as (.ll xss))) (hs : dSeq s gs N (ρ.set i (.own (xss.map .lst)))) : dSeq (dUp i s) gs N ρ := by
  unfold dSeq dUp
  rw [h]
  exact hs
theorem frz2 {xs : List D} (h : ρ[i]? = some (.own xs)) (hs : s N (ρ.set i (.d (.lst xs)))) : dFrz2 i s N ρ := by
  unfold dFrz2
  rw [h]
  exact hs
theorem seq_par22 {g1 g2 : DTL} (xss yss : List (List D)) (h1 : ∀ (Q : List (List D) → Prop) (E : XD → Prop), Q xss → g1 ρ Q E) (h2 : ∀ (Q : List (List D) → Prop) (E : XD → Prop), Q yss → g2 ρ Q E) (hg : ∀ as bs, gs N ((ρ.set i (.o2 as (.ll xss))).set j (.o2 bs (.ll yss)))) : dSeq (dPar22 i j g1 g2) gs N ρ := h1 _ _ (h2 _ _ hg)
theorem ev_lcL {w : DTI} {T : Tg} {g : DTA} {vs : List Nat} {ρ : FP.Env} {α : Type} (e : α → D) (r : α → List D) {xs : List α} (hw : EvI w ρ (xs.map e)) (hl : xs.length ≤ sizeLine) (hb : ∀ x ∈ xs, ∃ ρ2, T.put (e x) (wipeD ρ vs) = some ρ2 ∧ EvA g ρ2 (r x)) : ∀ (Q : List (List D) → Prop) (E : XD → Prop), Q (xs.map r) → dLc2N w T g vs ρ Q E := fun Q E q => hw _ _ ⟨by rw [List.length_map]; exact hl, by
  clear hw hl
  induction xs generalizing Q with
  | nil => exact q
  | cons x xs ih =>
    obtain ⟨ρ2, h1, h2⟩ := hb x List.mem_cons_self
    exact ⟨ρ2, h1, h2 _ _ (ih (fun y hy => hb y (List.mem_cons_of_mem _ hy)) _ q)⟩⟩
theorem end_ownSetP {fk fe : DTE} {xs : List D} {m : Int} {n : Nat} (P : D → Prop) (h : ρ[i]? = some (.own xs)) (he : EvP fe ρ P) (hk : Ev fk ρ (.int m)) (hm : ixN xs.length m = some n) (hn : ∀ d, P d → N.nx (ρ.set i (.own (xs.set n d)))) : dOwnSet i fk fe N ρ := he _ _ fun d hd => by
  rw [h]
  exact hk _ _ ⟨n, hm, hn d hd⟩
theorem upD {as : List Addr} {kvs : List (Key × List D)} (h : ρ[i]? = some (.o2 as (.dl kvs))) (hs : s N (ρ.set i (.od (kvs.map fun p => (p.1, .lst p.2))))) : dUpD i s N ρ := by
  unfold dUpD
  rw [h]
  exact hs
theorem evP_cb {rd : RDL} {f : DTE} {P P' : D → Prop} (h : EvP f ρ P) (k : ∀ d, P d → ∀ Q : D → Prop, (∀ d', P' d' → Q d') → rd [d] Q) : EvP (dCB rd (dCons f dNil)) ρ P' := fun Q E q => h _ _ fun d hd => k d hd Q q
/-- a comprehension whose tests may be anything -/
theorem ev_lcSub {α : Type} {w : DTI} {T : Tg} {ft : DTT} {fe : DTE} {vs : List Nat} {xs : List α} (e : α → D) (hw : EvI w ρ (xs.map e)) (hl : xs.length ≤ sizeLine) (hb : ∀ x ∈ xs, ∃ ρ2, T.put (e x) (wipeD ρ vs) = some ρ2 ∧ (∀ (Q : Bool → Prop) (E : XD → Prop), (∀ b, Q b) → ft ρ2 Q E) ∧ Ev fe ρ2 (e x)) : EvP (dLc w T ft fe vs) ρ (fun d => ∃ ys : List α, ys.Sublist xs ∧ d = .lst (ys.map e)) := fun Q E q => hw _ _ ⟨by rw [List.length_map]; exact hl, by
  have go : ∀ (xs : List α) (Q : List D → Prop), (∀ x ∈ xs, ∃ ρ2, T.put (e x) (wipeD ρ vs) = some ρ2 ∧ (∀ (Q : Bool → Prop) (E : XD → Prop), (∀ b, Q b) → ft ρ2 Q E) ∧ Ev fe ρ2 (e x)) → (∀ ys : List α, ys.Sublist xs → Q (ys.map e)) → lcD (fun d k => ∃ ρ2, T.put d (wipeD ρ vs) = some ρ2 ∧ ft ρ2 (fun b => bit b (fe ρ2 (fun r => k (some r)) F0) (k none)) F0) (xs.map e) Q := by
    intro xs
    induction xs with
    | nil => exact fun Q _ h => h [] (List.Sublist.refl _)
    | cons x xs ih =>
      intro Q hb h
      obtain ⟨ρ2, h1, h2, h3⟩ := hb x List.mem_cons_self
      refine ⟨ρ2, h1, h2 _ _ fun b => ?_⟩
      cases b with
      | true => exact h3 _ _ (ih _ (fun y hy => hb y (List.mem_cons_of_mem _ hy)) fun ys hs => h (x :: ys) (hs.cons_cons x))
      | false => exact ih _ (fun y hy => hb y (List.mem_cons_of_mem _ hy)) fun ys hs => h ys (hs.cons x)
  exact go xs _ hb fun ys hs => q _ ⟨ys, hs, rfl⟩⟩
end
theorem range_at {n x : Nat} {pre post : List Nat} (h : List.range n = pre ++ x :: post) : x = pre.length ∧ pre.length < n := by
  have h1 : (pre ++ x :: post)[pre.length]? = some x := by simp
  rw [← h] at h1
  obtain ⟨h2, h3⟩ := List.getElem?_eq_some_iff.mp h1
  rw [List.length_range] at h2
  rw [List.getElem_range] at h3
  exact ⟨h3.symm, h2⟩
theorem perm_ints {ys : List D} {xs : List Int} (h : ys.Perm (xs.map D.int)) : ∃ os : List Int, ys = os.map D.int ∧ os.Perm xs := by
  obtain ⟨os, rfl⟩ := intsD_all (xs := ys) fun y hy => by
    obtain ⟨i, _, e⟩ := List.mem_map.mp (h.mem_iff.mp hy)
    exact ⟨i, e.symm⟩
  refine ⟨os, rfl, ?_⟩
  have h2 := h.filterMap (fun d => match d with | .int i => some i | _ => none)
  rw [List.filterMap_map, List.filterMap_map] at h2
  have e : ((fun d : D => match d with | .int i => some i | _ => none) ∘ D.int) = fun i : Int => some i := rfl
  rw [e, List.filterMap_some, List.filterMap_some] at h2
  exact h2
theorem ord_of {n : Nat} {os : List Int} (h : os.Perm ((List.range n).map fun k : Nat => (k : Int))) : Ord n os := ⟨by rw [h.length_eq, List.length_map, List.length_range], h.nodup_iff.mpr (map_nodup List.nodup_range fun a _ b _ e => Int.ofNat.inj e), fun x => by
  rw [h.mem_iff, List.mem_map]
  constructor
  · rintro ⟨k, hk, rfl⟩
    have := List.mem_range.mp hk
    omega
  · rintro ⟨h0, h1⟩
    exact ⟨x.toNat, List.mem_range.mpr (by omega), Int.toNat_of_nonneg h0⟩⟩
theorem eqI1 {r r' : List Int} {Q : D → Prop} (q : Q (.bl (decide (r = r')))) : rdEq (rwIL r) (rwIL r') Q := encI.lst.eq (by omega) (fun _ _ => trivial) (fun _ _ => trivial) rfl q
theorem Fnd.len {n w : Nat} {R : RR} {found : List Int} (f : Fnd n w R found) : found.length ≤ n := by
  have h := asc_len (n := n) (sortI_asc f.nd) fun x hx => by
    have := f.rng x (sortI_mem.mp hx)
    omega
  rw [(sortI_perm found).length_eq] at h
  exact h
end KP
/-! KP83: bent rooms (k30). -/
namespace KP
open PySem L2 FP
variable [FP.Tabl]
def f_bentR : List D → M D := fun ds Q _ => match ds with
  | [.tok, x] => ∃ as R T, x = roomD R T ∧ Atoms as ∧ Drawn as R T ∧ ∀ R' T', SmL R' T' → Q (.lst [lstR R', lstT T'])
  | _ => False
def RS (s : Sl) (R : RR) : Prop := (∃ as, s = .o2 as (.ll (R.map fun r => r.map D.int))) ∨ s = .own (R.map rwIL)
def TS (s : Sl) (T : TT) : Prop := (∃ as, s = .o2 as (.ll (T.map fun r => r.map D.str))) ∨ s = .own (T.map rwSL)
theorem ll_R (R : RR) : (R.map fun r => r.map D.int).map D.lst = R.map rwIL := by
  rw [List.map_map]
  rfl
theorem ll_T (T : TT) : (T.map fun r => r.map D.str).map D.lst = T.map rwSL := by
  rw [List.map_map]
  rfl
section
variable {ρ : FP.Env} {N : Nd} {gs s : DTS} {i j : Nat}
theorem bent_end {R : RR} {T : TT} {s2 s3 x0 x1 a b c d : Sl} (h2 : RS s2 R) (h3 : TS s3 T) (hN : ∀ ρ, N.rt (.lst [lstR R, lstT T]) ρ) : dFrz2 3 (dFrz2 2 (dRet (dLst (dCons (dVar 2) (dCons (dVar 3) dNil))))) N [x0, x1, s2, s3, a, b, c, d] := by
  have e3 : dFrz2 3 (dFrz2 2 (dRet (dLst (dCons (dVar 2) (dCons (dVar 3) dNil))))) N [x0, x1, s2, s3, a, b, c, d] = dFrz2 2 (dRet (dLst (dCons (dVar 2) (dCons (dVar 3) dNil)))) N [x0, x1, s2, Sl.d (lstT T), a, b, c, d] := by
    rcases h3 with ⟨as, rfl⟩ | rfl
    · show dFrz2 2 _ N [x0, x1, s2, Sl.d (.lst ((T.map fun r => r.map D.str).map D.lst)), a, b, c, d] = _
      rw [ll_T]
      rfl
    · rfl
  rw [e3]
  have e2 : dFrz2 2 (dRet (dLst (dCons (dVar 2) (dCons (dVar 3) dNil)))) N [x0, x1, s2, Sl.d (lstT T), a, b, c, d] = dRet (dLst (dCons (dVar 2) (dCons (dVar 3) dNil))) N [x0, x1, Sl.d (lstR R), Sl.d (lstT T), a, b, c, d] := by
    rcases h2 with ⟨as, rfl⟩ | rfl
    · have e : lstR R = .lst ((R.map fun r => r.map D.int).map D.lst) := by rw [ll_R]; rfl
      rw [e]
      rfl
    · rfl
  rw [e2]
  exact ret_v (.lst [lstR R, lstT T]) (ev_lst (a1 (fun Q E q => q) (a1 (fun Q E q => q) a0)) (by show 2 ≤ sizeLine; decide)) (hN _)
theorem seq_ifE {c : DTT} {f1 f2 : DTS} (hc : EvT c ρ false) (h : dSeq f2 gs N ρ) : dSeq (dIfS c f1 f2) gs N ρ := hc _ _ h
theorem seqSeq {f g : DTS} (h : dSeq f (dSeq g gs) N ρ) : dSeq (dSeq f g) gs N ρ := h
theorem seq_of (h : s { N with nx := gs N } ρ) : dSeq s gs N ρ := h
theorem seq_par2 {f g : DTE} (P1 P2 : D → Prop) (h1 : EvP f ρ P1) (h2 : EvP g ρ P2) (hg : ∀ d1 d2, P1 d1 → P2 d2 → gs N ((ρ.set i (.d d1)).set j (.d d2))) : dSeq (dPar i j (dCons f (dCons g dNil))) gs N ρ := h1 _ _ fun d1 q1 => h2 _ _ fun d2 q2 => hg d1 d2 q1 q2
theorem up {as : List Addr} {xss : List (List D)} (h : ρ[i]? = some (.o2 as (.ll xss))) (hs : s N (ρ.set i (.own (xss.map .lst)))) : dUp i s N ρ := by
  unfold dUp
  rw [h]
  exact hs
theorem popO2 {fk fe : DTE} {as : List Addr} {xss : List (List D)} {xs : List D} {w : Nat} (h : ρ[i]? = some (.o2 as (.ll xss))) (hk : Ev fk ρ (.int (w : Nat))) (hx : xss[w]? = some xs) (hl : xs.length ≤ 1000) (he : EvP fe ρ (fun d => ∃ c : Nat, d = .int (c : Nat) ∧ c < xs.length)) (hn : ∀ c, c < xs.length → N.nx (ρ.set i (.o2 as (.ll (xss.set w (xs.eraseIdx c)))))) : dO2Pop i fk fe N ρ := by
  have hw : w < xss.length := (List.getElem?_eq_some_iff.mp hx).1
  unfold dO2Pop
  rw [h]
  refine hk _ _ ⟨w, xs, ixN_nat hw, hx, he _ _ ?_⟩
  rintro _ ⟨c, rfl, hc⟩
  exact ⟨⟨by omega, by omega⟩, c, by rw [seqIx_in (by omega) (by omega), Int.toNat_natCast], ⟨xs[c], List.getElem?_eq_getElem hc⟩, hn c hc⟩
theorem popAt {fk : DTE} {xs : List D} {w : Nat} (h : ρ[i]? = some (.own xs)) (hk : Ev fk ρ (.int (w : Nat))) (hw : w < xs.length) (hl : xs.length ≤ 1000) (hn : N.nx (ρ.set i (.own (xs.eraseIdx w)))) : dOwnPopAt i fk N ρ := by
  unfold dOwnPopAt
  rw [h]
  exact hk _ _ ⟨⟨by omega, by omega⟩, w, by rw [seqIx_in (by omega) (by omega), Int.toNat_natCast], ⟨xs[w], List.getElem?_eq_getElem hw⟩, hn⟩
theorem swapS {fe fk1 fk2 : DTE} {xs : List D} {d1 d2 : D} {m1 m2 : Nat} (h : ρ[i]? = some (.own xs)) (he : Ev fe ρ (.tup [d1, d2])) (hk1 : Ev fk1 ρ (.int (m1 : Nat))) (hk2 : Ev fk2 (ρ.set i (.own (xs.set m1 d1))) (.int (m2 : Nat))) (h1 : m1 < xs.length) (h2 : m2 < xs.length) (hn : N.nx (ρ.set i (.own ((xs.set m1 d1).set m2 d2)))) : dSwap i fe fk1 fk2 N ρ := he _ _ (by
  show (match ρ[i]? with
    | some (.own xs) => fk1 ρ (fun k1 => match k1 with
      | .int m1 => ∃ j1, ixN xs.length m1 = some j1 ∧ fk2 (ρ.set i (.own (xs.set j1 d1))) (fun k2 => match k2 with
        | .int m2 => ∃ j2, ixN xs.length m2 = some j2 ∧ N.nx (ρ.set i (.own ((xs.set j1 d1).set j2 d2)))
        | _ => False) (fun x => N.rs x (ρ.set i (.own (xs.set j1 d1))))
      | _ => False) (fun x => N.rs x ρ)
    | _ => False)
  rw [h]
  exact hk1 _ _ ⟨m1, ixN_nat h1, hk2 _ _ ⟨m2, ixN_nat h2, hn⟩⟩)
theorem evP_view2o {f : DTE} {as : List Addr} {xss : List (List D)} {P : D → Prop} (h : ρ[i]? = some (.o2 as (.ll xss))) (hf : EvP f (ρ.set i (.d (.lst (xss.map .lst)))) P) (hp : ∀ d, P d → plainD d = true) : EvP (dView2 i f) ρ P := fun Q E q => by
  unfold dView2
  rw [h]
  exact hf _ _ fun d hd => ⟨hp d hd, q d hd⟩
theorem evP_view2w {f : DTE} {xs : List D} {P : D → Prop} (h : ρ[i]? = some (.own xs)) (hf : EvP f (ρ.set i (.d (.lst xs))) P) (hp : ∀ d, P d → plainD d = true) : EvP (dView2 i f) ρ P := fun Q E q => by
  unfold dView2
  rw [h]
  exact hf _ _ fun d hd => ⟨hp d hd, q d hd⟩
theorem t_view2o {c : DTT} {b : Bool} {as : List Addr} {xss : List (List D)} (h : ρ[i]? = some (.o2 as (.ll xss))) (hf : EvT c (ρ.set i (.d (.lst (xss.map .lst)))) b) : EvT (dView2T i c) ρ b := fun Q E q => by
  unfold dView2T
  rw [h]
  exact hf _ _ q
theorem evP_roll {fa fl : DTE} {n : Nat} (ha : Ev fa ρ .tok) (hl : Ev fl ρ (.int (n : Nat))) (h1 : 1 ≤ n) (h2 : n ≤ 1000) : EvP (dCall f_roll 2 (dCons fa (dCons fl dNil))) ρ (fun d => ∃ c : Nat, d = .int (c : Nat) ∧ c < n) := fun Q E q => ha _ _ (hl _ _ ⟨rfl, ⟨by omega, by omega⟩, fun r h0 h3 => q _ ⟨r.toNat, by rw [Int.toNat_of_nonneg h0], by omega⟩⟩)
theorem nat_plain {n : Nat} : ∀ d, (∃ c : Nat, d = D.int (c : Nat) ∧ c < n) → plainD d = true := by
  rintro _ ⟨c, rfl, _⟩
  rfl
theorem evP_op {rd : RD2} {fa fb : DTE} {x : D} {P P' : D → Prop} (ha : Ev fa ρ x) (hb : EvP fb ρ P) (h : ∀ y, P y → ∀ Q : D → Prop, (∀ d, P' d → Q d) → rd x y Q) : EvP (dOp rd fa fb) ρ P' := fun Q E q => ha _ _ (hb _ _ fun y hy => h y hy Q q)
theorem evP_one {f : DTE} {P : D → Prop} (h : EvP f ρ P) : EvP (dLst (dCons f dNil)) ρ (fun d => ∃ y, P y ∧ d = .lst [y]) := fun Q E q => h _ _ fun y hy => ⟨(by show 1 ≤ sizeLine; decide), q _ ⟨y, hy, rfl⟩⟩
end
theorem SmL.setR {R : RR} {T : TT} (s : SmL R T) {w : Nat} {r : List Int} (h : r.length ≤ 60) : SmL (R.set w r) T := ⟨by rw [List.length_set]; exact s.n, s.m, fun x hx => (List.mem_or_eq_of_mem_set hx).elim (s.r x) fun e => e ▸ h, s.t, s.w⟩
theorem SmL.setT {R : RR} {T : TT} (s : SmL R T) {w : Nat} {r : List Str} (h : r.length ≤ 60) (hw : ∀ a ∈ r, isWordS a = true) : SmL R (T.set w r) := ⟨s.n, by rw [List.length_set]; exact s.m, s.r, fun x hx => (List.mem_or_eq_of_mem_set hx).elim (s.t x) fun e => e ▸ h, fun x hx => (List.mem_or_eq_of_mem_set hx).elim (s.w x) fun e => e ▸ hw⟩
theorem SmL.eraseR {R : RR} {T : TT} (s : SmL R T) {w : Nat} : SmL (R.eraseIdx w) T := ⟨Nat.le_trans (List.length_eraseIdx_le _ _) s.n, s.m, fun x hx => s.r x (List.mem_of_mem_eraseIdx hx), s.t, s.w⟩
theorem erase_map {α : Type} (f : α → D) (xs : List α) (c : Nat) : (xs.map f).eraseIdx c = (xs.eraseIdx c).map f := by
  rw [List.eraseIdx_eq_take_drop_succ, List.eraseIdx_eq_take_drop_succ, List.map_append, List.map_take, List.map_drop]
theorem abc_word : ∀ z ∈ (["a", "b", "c"] : List Str), isWordS z = true := by decide +kernel
end KP
/-! KP84: odd data, the law of rooms (k30). -/
namespace KP
open PySem L2 FP
variable [FP.Tabl]
def abc : List Str := ["a", "b", "c"]
def ab : List Str := ["a", "b"]
theorem abc_atoms : Atoms abc := ⟨by decide, by decide +kernel, by decide +kernel⟩
theorem ab_atoms : Atoms ab := ⟨by decide, by decide +kernel, by decide +kernel⟩
def odR30 (R : RR) : List D := [.non, .int 0, .tup [], .lst [], .dct [], .str "room", .lst (R.map rwI), .tup [.int 0], .tup [.tup [.bl true]], .tup [.tup [.str "a"]], .tup [.lst [.int 0]]]
def bdR30 (R : RR) (T : TT) : List D := [.non, .int 0, .tup [], .lst [], .str "a", .lst (T.map rwS), .tup [.int 0], .tup [.lst [.str "a"]], .tup ((List.replicate R.length [("A" : Str)]).map rwS), roomO R T]
theorem sm_of {d : D} (h : okR d) (n : ∀ xs, d ≠ .tup xs) : SmD d := ⟨h, fun xs e => absurd e (n xs), fun xs e => absurd e (n xs)⟩
theorem row_of {d : D} (h : okV d) (n : ∀ xs, d ≠ .tup xs) : SmRow d := ⟨h, fun xs e => absurd e (n xs), fun xs e => absurd e (n xs)⟩
theorem sm_tup {xs : List D} (h : xs.length ≤ 900) (r : ∀ x ∈ xs, SmRow x) : SmD (.tup xs) := ⟨trivial, fun ys e => by cases e; exact h, fun ys e => by cases e; exact r⟩
theorem row_tup {xs : List D} (h : xs.length ≤ 60) (r : ∀ x ∈ xs, okV x) : SmRow (.tup xs) := ⟨trivial, fun ys e => by cases e; exact h, fun ys e => by cases e; exact r⟩
theorem one_in {x : D} {P : D → Prop} (h : P x) : ∀ y ∈ [x], P y := fun y hy => by
  rw [List.mem_singleton.mp hy]
  exact h
theorem ok_s {z : Str} (h : isWordS z = true) : okV (.str z) := word_ok h
theorem odd_no {R : RR} {d : D} (h : d ∈ odR30 R) : SmD d ∧ reachD d = false := by
  unfold odR30 at h
  simp only [List.mem_cons, List.not_mem_nil, or_false] at h
  rcases h with rfl | rfl | rfl | rfl | rfl | rfl | rfl | rfl | rfl | rfl | rfl
  · exact ⟨sm_of trivial (fun _ e => by cases e), rfl⟩
  · exact ⟨sm_of trivial (fun _ e => by cases e), rfl⟩
  · exact ⟨sm_tup (by decide) (fun x hx => by cases hx), rfl⟩
  · exact ⟨sm_of trivial (fun _ e => by cases e), rfl⟩
  · exact ⟨sm_of trivial (fun _ e => by cases e), rfl⟩
  · exact ⟨sm_of (ok_s (by decide +kernel)) (fun _ e => by cases e), rfl⟩
  · exact ⟨sm_of trivial (fun _ e => by cases e), rfl⟩
  · exact ⟨sm_tup (by show 1 ≤ 900; decide) (one_in (row_of trivial (fun _ e => by cases e))), rfl⟩
  · exact ⟨sm_tup (by show 1 ≤ 900; decide) (one_in (row_tup (by show 1 ≤ 60; decide) (one_in trivial))), rfl⟩
  · exact ⟨sm_tup (by show 1 ≤ 900; decide) (one_in (row_tup (by show 1 ≤ 60; decide) (one_in (ok_s (by decide +kernel))))), rfl⟩
  · exact ⟨sm_tup (by show 1 ≤ 900; decide) (one_in (row_of trivial (fun _ e => by cases e))), rfl⟩
theorem okA : okV (.str "A") := by
  show okStr "A"
  exact (strOk_iff _).mp (by decide +kernel) |> fun h => ⟨by decide +kernel, h⟩
theorem bad_no {R : RR} {T : TT} {d : D} (h1 : 1 ≤ R.length) (h60 : R.length ≤ 60) (h : d ∈ bdR30 R T) : SmD d ∧ truthsD R d = false := by
  unfold bdR30 at h
  simp only [List.mem_cons, List.not_mem_nil, or_false] at h
  rcases h with rfl | rfl | rfl | rfl | rfl | rfl | rfl | rfl | rfl | rfl
  · exact ⟨sm_of trivial (fun _ e => by cases e), rfl⟩
  · exact ⟨sm_of trivial (fun _ e => by cases e), rfl⟩
  · exact ⟨sm_tup (by decide) (fun x hx => by cases hx), truthsD_len (by show ¬ 0 = _; omega)⟩
  · exact ⟨sm_of trivial (fun _ e => by cases e), rfl⟩
  · exact ⟨sm_of (ok_s (by decide +kernel)) (fun _ e => by cases e), rfl⟩
  · exact ⟨sm_of trivial (fun _ e => by cases e), rfl⟩
  · exact ⟨sm_tup (by show 1 ≤ 900; decide) (one_in (row_of trivial (fun _ e => by cases e))), rfl⟩
  · exact ⟨sm_tup (by show 1 ≤ 900; decide) (one_in (row_of trivial (fun _ e => by cases e))), rfl⟩
  · refine ⟨sm_tup (by rw [List.length_map, List.length_replicate]; omega) fun x hx => ?_, ?_⟩
    · obtain ⟨r, hr, rfl⟩ := List.mem_map.mp hx
      rw [List.eq_of_mem_replicate hr]
      exact row_tup (by show 1 ≤ 60; decide) (one_in okA)
    · rw [show D.tup ((List.replicate R.length [("A" : Str)]).map rwS) = tupT (List.replicate R.length [("A" : Str)]) from rfl, truthsD_T]
      have e : (List.replicate R.length (["A"] : List Str)).all wordRow = false := by
        rw [List.all_eq_false]
        exact ⟨[("A" : Str)], List.mem_replicate.mpr ⟨by omega, rfl⟩, by decide +kernel⟩
      unfold truthsB
      rw [e, Bool.and_false, Bool.false_and]
  · exact ⟨sm_of rfl (fun _ e => by cases e), rfl⟩
theorem roomNo1 {d e : D} (h : reachD d = false) : ¬ ∃ R T, d = tupR R ∧ e = tupT T ∧ roomB R T = true := by
  rintro ⟨R, T, rfl, rfl, hB⟩
  rw [reachD_R] at h
  unfold roomB at hB
  rw [h] at hB
  cases hB
theorem roomNo2 {R : RR} {e : D} (h : truthsD R e = false) : ¬ ∃ R' T, tupR R = tupR R' ∧ e = tupT T ∧ roomB R' T = true := by
  rintro ⟨R', T, h1, rfl, hB⟩
  cases tupR_inj h1
  rw [truthsD_T] at h
  unfold roomB at hB
  rw [h, Bool.and_false] at hB
  cases hB
section
variable {ρ : FP.Env} {fa fb : DTE}
theorem evP_pick {xs : List D} (ha : Ev fa ρ .tok) (hb : Ev fb ρ (.lst xs)) (h0 : 0 < xs.length) (h1 : xs.length < 1073741824) : EvP (dCall f_pick 2 (dCons fa (dCons fb dNil))) ρ (fun d => d ∈ xs) := fun Q E q => ha _ _ (hb _ _ ⟨rfl, ⟨h0, h1⟩, q⟩)
theorem ev_ismade {R : RR} {T : TT} (s : SmL R T) (ha : Ev fa ρ (tupR R)) (hb : Ev fb ρ (tupT T)) : Ev (dCall f_ismade 2 (dCons fa (dCons fb dNil))) ρ (.bl (roomB R T)) := ev_call (a1 ha (a1 hb a0)) rfl fun Q E q => ⟨s.tupR, s.tupT, fun R' T' h1 h2 h3 => by
  cases tupR_inj h1
  cases tupT_inj h2
  rw [h3] at q
  exact q, fun h => by
  cases hB : roomB R T with
  | true => exact absurd ⟨R, T, rfl, rfl, hB⟩ h
  | false =>
    rw [hB] at q
    exact q⟩
theorem ev_nomade {x y : D} (s1 : SmD x) (s2 : SmD y) (h : ¬ ∃ R T, x = tupR R ∧ y = tupT T ∧ roomB R T = true) (ha : Ev fa ρ x) (hb : Ev fb ρ y) : Ev (dCall f_ismade 2 (dCons fa (dCons fb dNil))) ρ (.bl false) := ev_call (a1 ha (a1 hb a0)) rfl fun Q E q => ⟨s1, s2, fun R' T' h1 h2 h3 => absurd ⟨R', T', h1, h2, h3⟩ h, fun _ => q⟩
theorem eqW {cs : List Str} (hc : ("Room" : Str) ∈ cs) {R R' : RR} {T T' : TT} {Q : D → Prop} (h : OkT T) (h' : OkT T') (q : Q (.bl (decide (R = R') && decide (T = T')))) : rdEqM cs "Room" f_eqW (roomO R T) (roomO R' T') Q := ⟨rfl, hc, R, T, rfl, h, .inl ⟨R', T', rfl, h', q⟩⟩
theorem neW {cs : List Str} {R R' : RR} {T : TT} {Q : D → Prop} (h : OkT T) (q : Q (.bl true)) : rdNeM cs "Room" f_eqW (roomO R T) (tupR R') Q := ⟨rfl, trivial, R, T, rfl, h, .inr ⟨rfl, q⟩⟩
theorem rep_A {n : Nat} : (List.replicate n [rwS [("A" : Str)]]).flatten = (List.replicate n (["A"] : List Str)).map rwS := by
  rw [List.map_replicate]
  induction n with
  | zero => rfl
  | succ n ih =>
    rw [List.replicate_succ, List.replicate_succ, List.flatten_cons, ih]
    rfl
end
end KP
namespace K30
open PySem L2 FP
variable [FP.Tabl]
def topS (i : Nat) : Stmt := PySem.Challenge.pw_fromparts_k30_rooms_judged.main.body.getD i (.Pass ⟨0, 0, 0, 0⟩)
abbrev s_is_integer : Stmt := topS 5
abbrev s_is_within : Stmt := topS 6
abbrev s_is_word : Stmt := topS 7
abbrev s_is_index_tuple : Stmt := topS 14
abbrev s_is_word_tuple : Stmt := topS 15
abbrev s_is_reach : Stmt := topS 16
abbrev s_are_truths : Stmt := topS 17
abbrev s_Room___init__ : Stmt := inClass (topS 18) 0
abbrev s_Room_reach : Stmt := inClass (topS 18) 1
abbrev s_Room_truths : Stmt := inClass (topS 18) 2
abbrev s_Room_atoms : Stmt := inClass (topS 18) 3
abbrev s_Room_require_world : Stmt := inClass (topS 18) 4
abbrev s_Room___getitem__ : Stmt := inClass (topS 18) 15
abbrev s_Room___len__ : Stmt := inClass (topS 18) 16
abbrev s_Room___eq__ : Stmt := inClass (topS 18) 18
abbrev s_Room___str__ : Stmt := inClass (topS 18) 19
abbrev s__law_dice : Stmt := topS 20
abbrev s__law_roll : Stmt := topS 21
abbrev s__law_pick : Stmt := topS 22
abbrev s__law_some : Stmt := topS 23
abbrev s__law_room : Stmt := topS 24
abbrev s__law_room_turned : Stmt := topS 25
abbrev s__law_made_room : Stmt := topS 26
abbrev s__law_is_room : Stmt := topS 27
abbrev s__law_bent : Stmt := topS 28
abbrev s__law_is_made : Stmt := topS 29
abbrev s__law_told_right : Stmt := topS 30
abbrev s__law_right : Stmt := topS 31
abbrev s_law : Stmt := topS 32
theorem sc_is_integer : FnScope ["value"] ["value"] (defScope s_is_integer) := ⟨rfl, rfl, rfl, by decide +kernel, rfl, by decide +kernel, by decide +kernel⟩
theorem sc_is_within : FnScope ["value", "least", "most"] ["value", "least", "most"] (defScope s_is_within) := ⟨rfl, rfl, rfl, by decide +kernel, rfl, by decide +kernel, by decide +kernel⟩
theorem sc_is_word : FnScope ["value", "sign"] ["value"] (defScope s_is_word) := ⟨rfl, rfl, rfl, by decide +kernel, rfl, by decide +kernel, by decide +kernel⟩
theorem sc_is_index_tuple : FnScope ["value", "many", "one", "other"] ["value", "many"] (defScope s_is_index_tuple) := ⟨rfl, rfl, rfl, by decide +kernel, rfl, by decide +kernel, by decide +kernel⟩
theorem sc_is_word_tuple : FnScope ["value", "one", "other"] ["value"] (defScope s_is_word_tuple) := ⟨rfl, rfl, rfl, by decide +kernel, rfl, by decide +kernel, by decide +kernel⟩
theorem sc_is_reach : FnScope ["value", "at", "row", "other", "one"] ["value"] (defScope s_is_reach) := ⟨rfl, rfl, rfl, by decide +kernel, rfl, by decide +kernel, by decide +kernel⟩
theorem sc_are_truths : FnScope ["reach", "value", "at", "row", "other", "atom"] ["reach", "value"] (defScope s_are_truths) := ⟨rfl, rfl, rfl, by decide +kernel, rfl, by decide +kernel, by decide +kernel⟩
theorem sc_Room___init__ : FnScope ["self", "reach", "truths"] ["self", "reach", "truths"] (defScope s_Room___init__) := ⟨rfl, rfl, rfl, by decide +kernel, rfl, by decide +kernel, by decide +kernel⟩
theorem sc_Room_reach : FnScope ["self"] ["self"] (defScope s_Room_reach) := ⟨rfl, rfl, rfl, by decide +kernel, rfl, by decide +kernel, by decide +kernel⟩
theorem sc_Room_truths : FnScope ["self"] ["self"] (defScope s_Room_truths) := ⟨rfl, rfl, rfl, by decide +kernel, rfl, by decide +kernel, by decide +kernel⟩
theorem sc_Room_atoms : FnScope ["self", "row", "atom"] ["self"] (defScope s_Room_atoms) := ⟨rfl, rfl, rfl, by decide +kernel, rfl, by decide +kernel, by decide +kernel⟩
theorem sc_Room_require_world : FnScope ["self", "world"] ["self", "world"] (defScope s_Room_require_world) := ⟨rfl, rfl, rfl, by decide +kernel, rfl, by decide +kernel, by decide +kernel⟩
theorem sc_Room___getitem__ : FnScope ["self", "world"] ["self", "world"] (defScope s_Room___getitem__) := ⟨rfl, rfl, rfl, by decide +kernel, rfl, by decide +kernel, by decide +kernel⟩
theorem sc_Room___len__ : FnScope ["self"] ["self"] (defScope s_Room___len__) := ⟨rfl, rfl, rfl, by decide +kernel, rfl, by decide +kernel, by decide +kernel⟩
theorem sc_Room___eq__ : FnScope ["self", "other"] ["self", "other"] (defScope s_Room___eq__) := ⟨rfl, rfl, rfl, by decide +kernel, rfl, by decide +kernel, by decide +kernel⟩
theorem sc_Room___str__ : FnScope ["self", "atoms", "row", "atom"] ["self"] (defScope s_Room___str__) := ⟨rfl, rfl, rfl, by decide +kernel, rfl, by decide +kernel, by decide +kernel⟩
theorem sc__law_dice : FnScope ["_law_script", "_law_spot", "_law_cell", "_law_great", "_law_blend"] ["_law_script", "_law_spot"] (defScope s__law_dice) := ⟨rfl, rfl, rfl, by decide +kernel, rfl, by decide +kernel, by decide +kernel⟩
theorem sc__law_roll : FnScope ["_law_dice_here", "_law_total", "_law_one", "_law_two", "_law_found"] ["_law_dice_here", "_law_total"] (defScope s__law_roll) := ⟨rfl, rfl, rfl, by decide +kernel, rfl, by decide +kernel, by decide +kernel⟩
theorem sc__law_pick : FnScope ["_law_dice_here", "_law_items"] ["_law_dice_here", "_law_items"] (defScope s__law_pick) := ⟨rfl, rfl, rfl, by decide +kernel, rfl, by decide +kernel, by decide +kernel⟩
theorem sc__law_some : FnScope ["_law_dice_here", "_law_items", "_law_size", "_law_left", "_law_turn"] ["_law_dice_here", "_law_items", "_law_size"] (defScope s__law_some) := ⟨rfl, rfl, rfl, by decide +kernel, rfl, by decide +kernel, by decide +kernel⟩
theorem sc__law_room : FnScope ["_law_dice_here", "_law_atoms", "_law_size", "_law_reach", "_law_truths", "_law_world", "_law_found", "_law_other", "_law_above", "_law_let", "_law_one", "_law_atom"] ["_law_dice_here", "_law_atoms"] (defScope s__law_room) := ⟨rfl, rfl, rfl, by decide +kernel, rfl, by decide +kernel, by decide +kernel⟩
theorem sc__law_room_turned : FnScope ["_law_order", "_law_reach", "_law_truths", "_law_found", "_law_world", "_law_one"] ["_law_order", "_law_reach", "_law_truths"] (defScope s__law_room_turned) := ⟨rfl, rfl, rfl, by decide +kernel, rfl, by decide +kernel, by decide +kernel⟩
theorem sc__law_made_room : FnScope ["_law_room_here", "_law_row"] ["_law_room_here"] (defScope s__law_made_room) := ⟨rfl, rfl, rfl, by decide +kernel, rfl, by decide +kernel, by decide +kernel⟩
theorem sc__law_is_room : FnScope ["_law_reach", "_law_truths", "_law_size", "_law_world", "_law_row", "_law_other", "_law_one", "_law_atom"] ["_law_reach", "_law_truths"] (defScope s__law_is_room) := ⟨rfl, rfl, rfl, by decide +kernel, rfl, by decide +kernel, by decide +kernel⟩
theorem sc__law_bent : FnScope ["_law_dice_here", "_law_room_here", "_law_reach", "_law_truths", "_law_world", "_law_way", "_law_row", "_law_other"] ["_law_dice_here", "_law_room_here"] (defScope s__law_bent) := ⟨rfl, rfl, rfl, by decide +kernel, rfl, by decide +kernel, by decide +kernel⟩
theorem sc__law_is_made : FnScope ["_law_reach", "_law_truths"] ["_law_reach", "_law_truths"] (defScope s__law_is_made) := ⟨rfl, rfl, rfl, by decide +kernel, rfl, by decide +kernel, by decide +kernel⟩
theorem sc__law_told_right : FnScope ["_law_room_here", "_law_told", "_law_size", "_law_atoms", "_law_row", "_law_at"] ["_law_room_here"] (defScope s__law_told_right) := ⟨rfl, rfl, rfl, by decide +kernel, rfl, by decide +kernel, by decide +kernel⟩
theorem sc__law_right : FnScope ["_law_dice_here", "_law_room_here", "_law_turn", "_law_made", "_law_other", "_law_odd", "_law_bad", "_law_same", "_law_reach", "_law_truths", "_law_told", "_law_row"] ["_law_dice_here"] (defScope s__law_right) := ⟨rfl, rfl, rfl, by decide +kernel, rfl, by decide +kernel, by decide +kernel⟩
theorem sc_law : FnScope ["_law_script", "_law_spot"] ["_law_script"] (defScope s_law) := ⟨rfl, rfl, rfl, by decide +kernel, rfl, by decide +kernel, by decide +kernel⟩
structure Ads where
  a_Room : Addr
  ax_BuildError : Addr
  ax_InvalidRoom : Addr
structure All (mg : Gm) (Z : Ads) : Prop where
  n_abs : mg.mg "abs" = none
  n_all : mg.mg "all" = none
  n_any : mg.mg "any" = none
  n_bool : mg.mg "bool" = none
  n_enumerate : mg.mg "enumerate" = none
  n_int : mg.mg "int" = none
  n_isinstance : mg.mg "isinstance" = none
  n_len : mg.mg "len" = none
  n_list : mg.mg "list" = none
  n_max : mg.mg "max" = none
  n_min : mg.mg "min" = none
  n_range : mg.mg "range" = none
  n_set : mg.mg "set" = none
  n_sorted : mg.mg "sorted" = none
  n_str : mg.mg "str" = none
  n_tuple : mg.mg "tuple" = none
  n_zip : mg.mg "zip" = none
  c_LETTERS : ∃ tk, mg.mg "LETTERS" = some (.str "abcdefghijklmnopqrstuvwxyz" tk)
  c_LONGEST : ∃ tk, mg.mg "LONGEST" = some (.int 1000000000000000000000000000000000000000000000000000000000000 tk)
  c_MAX_LETTERS : ∃ tk, mg.mg "MAX_LETTERS" = some (.int 8 tk)
  c_MAX_WORLDS : ∃ tk, mg.mg "MAX_WORLDS" = some (.int 60 tk)
  kc_Room : ClsF mg "Room" Z.a_Room
  na_Room_own_reach : NoAttr mg.K Z.a_Room "own_reach"
  na_Room_own_truths : NoAttr mg.K Z.a_Room "own_truths"
  na_Room_own_pairs : NoAttr mg.K Z.a_Room "own_pairs"
  isi_Room : IsiF mg Z.a_Room ["Room"] (fun _ => true)
  eq_Room : EqF mg Z.a_Room ["Room"]
  ne_Room : PySem.W.findIn mg.K (.ref Z.a_Room) "__ne__" = some (some (.builtin "object.__ne__"))
  nl_Room : NeLF mg Z.a_Room
  isb_tuple : IsbF mg "tuple" ["Room"]
  d_is_integer : ∃ fa fd, mg.mg "is_integer" = some (.ref fa) ∧ Fun mg.K "is_integer" "is_integer" s_is_integer fa fd
  d_is_within : ∃ fa fd, mg.mg "is_within" = some (.ref fa) ∧ Fun mg.K "is_within" "is_within" s_is_within fa fd
  d_is_word : ∃ fa fd, mg.mg "is_word" = some (.ref fa) ∧ Fun mg.K "is_word" "is_word" s_is_word fa fd
  d_is_index_tuple : ∃ fa fd, mg.mg "is_index_tuple" = some (.ref fa) ∧ Fun mg.K "is_index_tuple" "is_index_tuple" s_is_index_tuple fa fd
  d_is_word_tuple : ∃ fa fd, mg.mg "is_word_tuple" = some (.ref fa) ∧ Fun mg.K "is_word_tuple" "is_word_tuple" s_is_word_tuple fa fd
  d_is_reach : ∃ fa fd, mg.mg "is_reach" = some (.ref fa) ∧ Fun mg.K "is_reach" "is_reach" s_is_reach fa fd
  d_are_truths : ∃ fa fd, mg.mg "are_truths" = some (.ref fa) ∧ Fun mg.K "are_truths" "are_truths" s_are_truths fa fd
  d_Room___init__ : ∃ fa fd, Mk mg.K Z.a_Room fa ∧ Fun mg.K "__init__" "Room.__init__" s_Room___init__ fa fd
  d_Room_reach : ∃ p fa fd, PropOf mg.K Z.a_Room "reach" p fa ∧ Fun mg.K "reach" "Room.reach" s_Room_reach fa fd
  d_Room_truths : ∃ p fa fd, PropOf mg.K Z.a_Room "truths" p fa ∧ Fun mg.K "truths" "Room.truths" s_Room_truths fa fd
  d_Room_atoms : ∃ p fa fd, PropOf mg.K Z.a_Room "atoms" p fa ∧ Fun mg.K "atoms" "Room.atoms" s_Room_atoms fa fd
  d_Room_require_world : ∃ fa fd, Meth mg.K Z.a_Room "require_world" fa ∧ Fun mg.K "require_world" "Room.require_world" s_Room_require_world fa fd
  d_Room___getitem__ : ∃ fa fd, (Meth mg.K Z.a_Room "__getitem__" fa ∧ PySem.W.fnIn mg.K fa = true) ∧ Fun mg.K "__getitem__" "Room.__getitem__" s_Room___getitem__ fa fd
  d_Room___len__ : ∃ fa fd, (Meth mg.K Z.a_Room "__len__" fa ∧ PySem.W.fnIn mg.K fa = true) ∧ Fun mg.K "__len__" "Room.__len__" s_Room___len__ fa fd
  d_Room___eq__ : ∃ fa fd, (Meth mg.K Z.a_Room "__eq__" fa ∧ PySem.W.fnIn mg.K fa = true) ∧ Fun mg.K "__eq__" "Room.__eq__" s_Room___eq__ fa fd
  d_Room___str__ : ∃ fa fd, (Meth mg.K Z.a_Room "__str__" fa ∧ PySem.W.fnIn mg.K fa = true) ∧ Fun mg.K "__str__" "Room.__str__" s_Room___str__ fa fd
  d__law_dice : ∃ fa fd, mg.mg "_law_dice" = some (.ref fa) ∧ Fun mg.K "_law_dice" "_law_dice" s__law_dice fa fd
  d__law_roll : ∃ fa fd, mg.mg "_law_roll" = some (.ref fa) ∧ Fun mg.K "_law_roll" "_law_roll" s__law_roll fa fd
  d__law_pick : ∃ fa fd, mg.mg "_law_pick" = some (.ref fa) ∧ Fun mg.K "_law_pick" "_law_pick" s__law_pick fa fd
  d__law_some : ∃ fa fd, mg.mg "_law_some" = some (.ref fa) ∧ Fun mg.K "_law_some" "_law_some" s__law_some fa fd
  d__law_room : ∃ fa fd, mg.mg "_law_room" = some (.ref fa) ∧ Fun mg.K "_law_room" "_law_room" s__law_room fa fd
  d__law_room_turned : ∃ fa fd, mg.mg "_law_room_turned" = some (.ref fa) ∧ Fun mg.K "_law_room_turned" "_law_room_turned" s__law_room_turned fa fd
  d__law_made_room : ∃ fa fd, mg.mg "_law_made_room" = some (.ref fa) ∧ Fun mg.K "_law_made_room" "_law_made_room" s__law_made_room fa fd
  d__law_is_room : ∃ fa fd, mg.mg "_law_is_room" = some (.ref fa) ∧ Fun mg.K "_law_is_room" "_law_is_room" s__law_is_room fa fd
  d__law_bent : ∃ fa fd, mg.mg "_law_bent" = some (.ref fa) ∧ Fun mg.K "_law_bent" "_law_bent" s__law_bent fa fd
  d__law_is_made : ∃ fa fd, mg.mg "_law_is_made" = some (.ref fa) ∧ Fun mg.K "_law_is_made" "_law_is_made" s__law_is_made fa fd
  d__law_told_right : ∃ fa fd, mg.mg "_law_told_right" = some (.ref fa) ∧ Fun mg.K "_law_told_right" "_law_told_right" s__law_told_right fa fd
  d__law_right : ∃ fa fd, mg.mg "_law_right" = some (.ref fa) ∧ Fun mg.K "_law_right" "_law_right" s__law_right fa fd
  d_law : ∃ fa fd, mg.mg "law" = some (.ref fa) ∧ Fun mg.K "law" "law" s_law fa fd
  ex_BuildError : ExcF mg "BuildError" Z.ax_BuildError veBm "ValueError.__new__"
  cat_BuildError : CatF mg (.ref Z.ax_BuildError) ["BuildError"] (fun _ => true)
  ex_InvalidRoom : ExcF mg "InvalidRoom" Z.ax_InvalidRoom veBm "ValueError.__new__"
  cam_InvalidRoom : CatF mg (.ref Z.ax_InvalidRoom) ["BuildError", "InvalidRoom"] (fun y => decide (y ∈ (["InvalidRoom"] : List Str)))
end K30
namespace K30
open PySem L2 FP
variable [FP.Tabl]
open KP
theorem ok__law_dice {P : Program} {w : World} {mg : Gm} {base : Heap} {Z : Ads} (A : All mg Z) : DefOk P w mg base 1 "_law_dice" 2 f_dice := by
  refine mkDef (N := ["_law_script", "_law_spot", "_law_cell", "_law_great", "_law_blend"]) (ps := ["_law_script", "_law_spot"]) A.d__law_dice sc__law_dice (fun _ _ _ _ _ _ us hl => match us, hl with | [_, _], _ => rfl) fun fa cdv Ar outer s H E hr => ⟨_,
    (dss_cons (ds_set (i := 2) (de_op ok_add (de_op ok_mul de_int (de_var 1)) de_int) (fun _ => sc__law_dice.nd))
    (dss_cons (ds_if (dt_cmp ok_lt (de_var 1) (de_callB ok_len A.n_len FP.boot_len (da_cons (de_var 0) da_nil)))
    (dss_one (ds_set (i := 2) (de_ix (de_var 0) (de_var 1)) (fun _ => sc__law_dice.nd)))
    dss_nil)
    (dss_cons (ds_set (i := 3) (de_op ok_mod (de_callTy ok_int A.n_int FP.boot_int (da_cons (de_callB ok_abs A.n_abs FP.boot_abs (da_cons (de_var 2) da_nil)) da_nil)) (de_op ok_pow (de_op ok_pow de_int de_int) de_int)) (fun _ => sc__law_dice.nd))
    (dss_cons (ds_set (i := 4) (de_op ok_add (de_op ok_add (de_op ok_add (de_op ok_mul (de_op ok_mod (de_callTy ok_int A.n_int FP.boot_int (da_cons (de_var 3) da_nil)) de_int) de_int) (de_op ok_mul de_int (de_var 1))) (de_op ok_mul de_int (de_callTy ok_int A.n_int FP.boot_int (da_cons (de_cmp ok_lt (de_var 2) de_int) da_nil)))) de_int) (fun _ => sc__law_dice.nd))
    (dss_one (ds_retTok (da_cons (de_callB ok_max A.n_max FP.boot_max (da_cons de_int (da_cons (de_op ok_sub (de_var 3) (de_op ok_pow de_int de_int)) da_nil))) (da_cons (de_op ok_mod (de_callTy ok_int A.n_int FP.boot_int (da_cons (de_var 4) da_nil)) de_int) (da_cons de_int da_nil))))))))),  fun ds Q Ex hl hf => ?_⟩
  match ds, hl, hf with
  | [.fz xs, .int k], _, ⟨⟨ns, hx⟩, ⟨h0, h1⟩, hq⟩ =>
    subst hx
    change (_ : DTS) _ [Sl.d (.fz (ns.map D.int)), Sl.d (.int k), Sl.no, Sl.no, Sl.no]
    dsimp only [dSeq, dNext, dIfS, dB, dOp, dVar, dC, dCB, dCons, dNil, dSet, dTok, dRet, dRetN, dCall, rdAdd, rdSub, rdMul, rdMod, rdFdiv, rdPow, rdGt, rdLt, rdLe, rdGe, rdIx, rdInt, rdAbs, rdMax, rdMin, rdLen, dRetTok, dSetO, dListO, dLenO, dIRng1, dRetPop, List.getElem?_cons_zero, List.getElem?_cons_succ, List.set_cons_zero, List.set_cons_succ, bit_dec, bit_t, bit_f, bit_not, blc_bl, Option.some.injEq, exists_eq_left']
    refine ⟨cmulL (by decide), ?_⟩
    cases hb : decide (k < ((ns.map D.int).length : Int)) with
    | true =>
      obtain ⟨i, hi⟩ := atI_ints h0 (of_decide_eq_true hb)
      refine ⟨_, hi, ?_⟩
      exact ⟨by decide +kernel, by decide +kernel, by decide +kernel, by decide, cmulR (by decide), cmulL (by decide), cmulL (by decide), by decide +kernel, by decide, hq⟩
    | false => exact ⟨by decide +kernel, by decide +kernel, by decide +kernel, by decide, cmulR (by decide), cmulL (by decide), cmulL (by decide), by decide +kernel, by decide, hq⟩
theorem ok__law_roll {P : Program} {w : World} {mg : Gm} {base : Heap} {Z : Ads} (A : All mg Z) : DefOk P w mg base 1 "_law_roll" 2 f_roll := by
  refine mkDef (N := ["_law_dice_here", "_law_total", "_law_one", "_law_two", "_law_found"]) (ps := ["_law_dice_here", "_law_total"]) A.d__law_roll sc__law_roll (fun _ _ _ _ _ _ us hl => match us, hl with | [_, _], _ => rfl) fun fa cdv Ar outer s H E hr => ⟨_,
    (dss_cons (ds_if (dt_cmp ok_gt (de_ix (de_var 0) de_int) de_int)
    (dss_cons (ds_set (i := 4) (de_op ok_mod (de_callTy ok_int A.n_int FP.boot_int (da_cons (de_ix (de_var 0) de_int) da_nil)) (de_var 1)) (fun _ => sc__law_roll.nd))
    (dss_cons (ds_tok 0 (de_op ok_fdiv (de_ix (de_var 0) de_int) (de_var 1)) (pg := fun _ _ h => ps_asg h (pg_sub (pv 0) pe_int set_list)))
    (dss_one (ds_ret (de_var 4)))))
    dss_nil)
    (dss_cons (ds_tok 0 (de_op ok_add (de_ix (de_var 0) de_int) de_int) (pg := fun _ _ h => ps_asg h (pg_sub (pv 0) pe_int set_list)))
    (dss_cons (ds_set (i := 2) (de_op ok_mod (de_callTy ok_int A.n_int FP.boot_int (da_cons (de_op ok_add (de_ix (de_var 0) de_int) (de_op ok_mul de_int (de_ix (de_var 0) de_int))) da_nil)) de_int) (fun _ => sc__law_roll.nd))
    (dss_cons (ds_set (i := 3) (de_op ok_add (de_op ok_mul (de_op ok_mod (de_callTy ok_int A.n_int FP.boot_int (da_cons (de_op ok_mul (de_var 2) (de_var 2)) da_nil)) de_int) (de_var 2)) (de_op ok_mul de_int (de_ix (de_var 0) de_int))) (fun _ => sc__law_roll.nd))
    (dss_cons (ds_set (i := 3) (de_op ok_mod (de_callTy ok_int A.n_int FP.boot_int (da_cons (de_var 3) da_nil)) de_int) (fun _ => sc__law_roll.nd))
    (dss_one (ds_ret (de_op ok_mod (de_callTy ok_int A.n_int FP.boot_int (da_cons (de_op ok_fdiv (de_var 3) de_int) da_nil)) (de_var 1))))))))),  fun ds Q Ex hl hf => ?_⟩
  match ds, hl, hf with
  | [.tok, .int n], _, ⟨⟨h0, h1⟩, hq⟩ =>
    change (_ : DTS) _ [Sl.d .tok, Sl.d (.int n), Sl.no, Sl.no, Sl.no]
    dsimp only [dSeq, dNext, dIfS, dB, dOp, dVar, dC, dCB, dCons, dNil, dSet, dTok, dRet, dRetN, dCall, rdAdd, rdSub, rdMul, rdMod, rdFdiv, rdPow, rdGt, rdLt, rdLe, rdGe, rdIx, rdInt, rdAbs, rdMax, rdMin, rdLen, dRetTok, dSetO, dListO, dLenO, dIRng1, dRetPop, List.getElem?_cons_zero, List.getElem?_cons_succ, List.set_cons_zero, List.set_cons_succ, bit_dec, bit_t, bit_f, bit_not, blc_bl, Option.some.injEq, exists_eq_left']
    have dn : ∀ j : Int, CDivN j n := fun j => ⟨by omega, by omega⟩
    have md : ∀ j : Int, Q (D.int (j % n)) := fun j => hq _ (Int.emod_nonneg _ (by omega)) (Int.emod_lt_of_pos _ h0)
    refine ⟨by decide, fun j => ?_⟩
    cases hb : decide (0 < j) with
    | true => exact ⟨by decide, fun a => ⟨h0, by decide, fun b => ⟨dn _, by decide, md _⟩⟩⟩
    | false => exact ⟨by decide, fun a => ⟨by decide, by decide, fun b => ⟨by decide, fun c => ⟨cmulL (by decide), by decide, cmulL (by omega), by decide, cmulR (by omega), by decide, fun e => ⟨cmulL (by decide), by decide, ⟨by decide, by decide⟩, h0, md _⟩⟩⟩⟩⟩
theorem ok__law_pick {P : Program} {w : World} {mg : Gm} {base : Heap} {Z : Ads} (A : All mg Z) (G__law_roll : DefOk P w mg base 1 "_law_roll" 2 f_roll) : DefOk P w mg base 2 "_law_pick" 2 f_pick := by
  refine mkDef (N := ["_law_dice_here", "_law_items"]) (ps := ["_law_dice_here", "_law_items"]) A.d__law_pick sc__law_pick (fun _ _ _ _ _ _ us hl => match us, hl with | [_, _], _ => rfl) fun fa cdv Ar outer s H E hr => ⟨_,
    (dss_one (ds_ret (de_ix (de_var 1) (de_call G__law_roll (fun _ => hr.mono (by omega)) (fun _ => pas (takes_of rfl rfl rfl rfl)) (da_cons (de_var 0) (da_cons (de_callB ok_len A.n_len FP.boot_len (da_cons (de_var 1) da_nil)) da_nil)))))),  fun ds Q Ex hl hf => ?_⟩
  match ds, hl, hf with
  | [.tok, .lst xs], _, ⟨⟨h0, h1⟩, hq⟩ =>
    change (_ : DTS) _ [Sl.d .tok, Sl.d (.lst xs)]
    dsimp only [dSeq, dNext, dIfS, dB, dOp, dVar, dC, dCB, dCons, dNil, dSet, dTok, dRet, dRetN, dCall, rdAdd, rdSub, rdMul, rdMod, rdFdiv, rdPow, rdGt, rdLt, rdLe, rdGe, rdIx, rdInt, rdAbs, rdMax, rdMin, rdLen, dRetTok, dSetO, dListO, dLenO, dIRng1, dRetPop, List.getElem?_cons_zero, List.getElem?_cons_succ, List.set_cons_zero, List.set_cons_succ, bit_dec, bit_t, bit_f, bit_not, blc_bl, Option.some.injEq, exists_eq_left', f_roll]
    refine ⟨rfl, ⟨by omega, by omega⟩, fun r h2 h3 => ?_⟩
    obtain ⟨d, hd, hm⟩ := atI_mem h2 h3
    exact ⟨d, hd, hq d hm⟩
  | [.tok, .tup xs], _, ⟨⟨h0, h1⟩, hq⟩ =>
    change (_ : DTS) _ [Sl.d .tok, Sl.d (.tup xs)]
    dsimp only [dSeq, dNext, dIfS, dB, dOp, dVar, dC, dCB, dCons, dNil, dSet, dTok, dRet, dRetN, dCall, rdAdd, rdSub, rdMul, rdMod, rdFdiv, rdPow, rdGt, rdLt, rdLe, rdGe, rdIx, rdInt, rdAbs, rdMax, rdMin, rdLen, dRetTok, dSetO, dListO, dLenO, dIRng1, dRetPop, List.getElem?_cons_zero, List.getElem?_cons_succ, List.set_cons_zero, List.set_cons_succ, bit_dec, bit_t, bit_f, bit_not, blc_bl, Option.some.injEq, exists_eq_left', f_roll]
    refine ⟨rfl, ⟨by omega, by omega⟩, fun r h2 h3 => ?_⟩
    obtain ⟨d, hd, hm⟩ := atI_mem h2 h3
    exact ⟨d, hd, hq d hm⟩
theorem ok__law_some {P : Program} {w : World} {mg : Gm} {base : Heap} {Z : Ads} (A : All mg Z) (G__law_roll : DefOk P w mg base 1 "_law_roll" 2 f_roll) : DefOk P w mg base 2 "_law_some" 3 f_some := by
  refine mkDef (N := ["_law_dice_here", "_law_items", "_law_size", "_law_left", "_law_turn"]) (ps := ["_law_dice_here", "_law_items", "_law_size"]) A.d__law_some sc__law_some (fun _ _ _ _ _ _ us hl => match us, hl with | [_, _, _], _ => rfl) fun fa cdv Ar outer s H E hr => ⟨_,
    (dss_cons (ds_setO (i := 3) (do_list (da_cons (de_var 1) da_nil) A.n_list FP.boot_list) (fun _ => sc__law_some.nd))
    (dss_one (ds_retPop (i := 3) (own := [("_law_turn", 4)]) (fun _ => sc__law_some.nd) (di_range1 A.n_range (da_cons (de_callB ok_min A.n_min FP.boot_min (da_cons (de_var 2) (da_cons (de_lenO 3 A.n_len) da_nil))) da_nil)) (fun _ => blkOk_by (by kernel_rfl)) (dg_name (i := 4) (fun _ => sc__law_some.nd)) (de_call G__law_roll (fun _ => hr.mono (by omega)) (fun _ => pas takes0) (da_cons (de_var 0) (da_cons (de_lenO 3 A.n_len) da_nil))) (fun _ _ h => pe_bm PySem.F.plainAttrs_list PySem.F.slot_list_pop PySem.F.type_list_pop mt_popAt (pv 3) (pa_cons h pa_nil))))),  fun ds Q Ex hl hf => ?_⟩
  match ds, hl, hf with
  | [.tok, .lst xs, .int k], _, ⟨h0, ⟨h1, h2⟩, hq⟩ =>
    change (_ : DTS) _ [Sl.d .tok, Sl.d (.lst xs), Sl.d (.int k), Sl.no, Sl.no]
    dsimp only [dSeq, dNext, dIfS, dB, dOp, dVar, dC, dCB, dCons, dNil, dSet, dTok, dRet, dRetN, dCall, rdAdd, rdSub, rdMul, rdMod, rdFdiv, rdPow, rdGt, rdLt, rdLe, rdGe, rdIx, rdInt, rdAbs, rdMax, rdMin, rdLen, dRetTok, dSetO, dListO, dLenO, dIRng1, dRetPop, List.getElem?_cons_zero, List.getElem?_cons_succ, List.set_cons_zero, List.set_cons_succ, bit_dec, bit_t, bit_f, bit_not, blc_bl, Option.some.injEq, exists_eq_left']
    have em : (if (xs.length : Int) < k then (xs.length : Int) else k).toNat = min k.toNat xs.length := by split <;> omega
    refine ⟨by split <;> omega, by split <;> omega, ?_, ?_⟩
    · rw [rangeD_len, em]
      exact Nat.le_trans (Nat.min_le_right _ _) (Nat.le_trans (Nat.le_of_lt h0) (by decide))
    · refine pop_some _ _ _ ?_ h0 fun ys zs hp hn => hq ys zs hp ?_
      · rw [rangeD_len, em]
        exact Nat.min_le_right _ _
      · rw [hn, rangeD_len, em]
  | [.tok, .tup xs, .int k], _, ⟨h0, ⟨h1, h2⟩, hq⟩ =>
    change (_ : DTS) _ [Sl.d .tok, Sl.d (.tup xs), Sl.d (.int k), Sl.no, Sl.no]
    dsimp only [dSeq, dNext, dIfS, dB, dOp, dVar, dC, dCB, dCons, dNil, dSet, dTok, dRet, dRetN, dCall, rdAdd, rdSub, rdMul, rdMod, rdFdiv, rdPow, rdGt, rdLt, rdLe, rdGe, rdIx, rdInt, rdAbs, rdMax, rdMin, rdLen, dRetTok, dSetO, dListO, dLenO, dIRng1, dRetPop, List.getElem?_cons_zero, List.getElem?_cons_succ, List.set_cons_zero, List.set_cons_succ, bit_dec, bit_t, bit_f, bit_not, blc_bl, Option.some.injEq, exists_eq_left']
    have em : (if (xs.length : Int) < k then (xs.length : Int) else k).toNat = min k.toNat xs.length := by split <;> omega
    refine ⟨by split <;> omega, by split <;> omega, ?_, ?_⟩
    · rw [rangeD_len, em]
      exact Nat.le_trans (Nat.min_le_right _ _) (Nat.le_trans (Nat.le_of_lt h0) (by decide))
    · refine pop_some _ _ _ ?_ h0 fun ys zs hp hn => hq ys zs hp ?_
      · rw [rangeD_len, em]
        exact Nat.min_le_right _ _
      · rw [hn, rangeD_len, em]
theorem lc_letters (z : Str) {Q : List D → Prop} (h : Q (z.cps.toList.map fun c => .bl (decide (c ∈ letters)))) :
    lcD (fun d k => match inD d (.str "abcdefghijklmnopqrstuvwxyz") with | some b => k (some (.bl b)) | none => False) (signsD z) Q := by
  refine lcD_map (fun d => match inD d (.str "abcdefghijklmnopqrstuvwxyz") with | some b => .bl b | none => .non) _ _ (fun d hd k hk => ?_) ?_
  · obtain ⟨c, _, rfl⟩ := List.mem_map.mp hd
    exact hk
  · unfold signsD
    rw [List.map_map]
    exact h
theorem ok_is_word {P : Program} {w : World} {mg : Gm} {base : Heap} {Z : Ads} (A : All mg Z) : DefOk P w mg base 1 "is_word" 1 f_is_word := by
  refine mkDef (N := ["value", "sign"]) (ps := ["value"]) A.d_is_word sc_is_word (fun _ _ _ _ _ _ us hl => match us, hl with | [_], _ => rfl) fun fa cdv Ar outer s H E hr => ⟨_,
    (dss_one (ds_ret (de_and (de_isi (de_var 0) A.n_isinstance A.n_str FP.boot_str FP.boot_isinstance) (de_and (de_chain ok_le ok_le de_int (de_callB ok_len A.n_len FP.boot_len (da_cons (de_var 0) da_nil)) (de_gint A.c_MAX_LETTERS)) (de_one (de_callB ok_all A.n_all FP.boot_all (da_cons (de_lc (own := [("sign", 1)]) (fun _ => sc_is_word.nd) (di_str (de_var 0)) (fun _ => blkOk_by (by kernel_rfl)) (dg_name (i := 1) (fun _ => sc_is_word.nd)) dts_nil (de_cmp ok_in (de_var 1) (de_gstr A.c_LETTERS))) da_nil))))))),  fun ds Q Ex hl hf => ?_⟩
  match ds, hl, hf with
  | [d], _, ⟨ho, hq⟩ =>
    change (_ : DTS) _ [Sl.d d, Sl.no]
    obtain ⟨n, hn, hk⟩ := isi_str ho
    cases d with
    | str z =>
      simp only [dSeq, dNext, dIfS, dB, dOp, dVar, dC, dCB, dCons, dNil, dSet, dTok, dRet, dRetN, dCall, rdAdd, rdSub, rdMul, rdMod, rdFdiv, rdPow, rdGt, rdLt, rdLe, rdGe, rdIx, rdInt, rdAbs, rdMax, rdMin, rdLen, dRetTok, dSetO, dListO, dLenO, dIRng1, dRetPop, List.getElem?_cons_zero, List.getElem?_cons_succ, List.set_cons_zero, List.set_cons_succ, bit_dec, bit_t, bit_f, bit_not, blc_bl, Option.some.injEq, exists_eq_left', dAndV, dOrV, dNotV, dChain, dIsi, dLc, dIStr, dIList, dITup, dYes, Tg.put, wipeD, rdIn, rdNotIn, rdEq, rdNe, rdAll, dLst, dTup, dAnd, dOr, dNot, dFor, forD, dAsg, dIf, dJoin, rdList, dNewD, rdStr, List.map_cons, List.map_nil, tyName]
      refine ⟨true, kit_ss, Nat.le_trans ho.1 (by decide), fun h1 => ⟨fun h2 => ⟨signs_ok ho, lc_letters z ?_⟩, fun h2 => ?_⟩, fun h1 => ?_⟩
      · refine ⟨_, blsD_fn _ _, ?_⟩
        have e : isWordD (.str z) = (z.cps.toList.map fun c => decide (c ∈ letters)).all id := by
          show (decide (1 ≤ z.length) && decide (z.length ≤ 8) && z.cps.toList.all fun c => decide (c ∈ letters)) = _
          rw [decide_eq_true (show 1 ≤ z.length by omega), decide_eq_true (show z.length ≤ 8 by omega), List.all_map]
          rfl
        rw [← e]
        exact hq
      · have e : isWordD (.str z) = false := by
          show (decide (1 ≤ z.length) && decide (z.length ≤ 8) && z.cps.toList.all fun c => decide (c ∈ letters)) = _
          rw [decide_eq_false (show ¬ z.length ≤ 8 by omega), Bool.and_false, Bool.false_and]
        rw [← e]
        exact hq
      · have e : isWordD (.str z) = false := by
          show (decide (1 ≤ z.length) && decide (z.length ≤ 8) && z.cps.toList.all fun c => decide (c ∈ letters)) = _
          rw [decide_eq_false (show ¬ 1 ≤ z.length by omega), Bool.false_and, Bool.false_and]
        rw [← e]
        exact hq
    | fz _ => exact ho.elim
    | ins _ _ => exact ho.elim
    | cl _ => exact ho.elim
    | fn _ _ => exact ho.elim
    | _ =>
      cases hn
      exact ⟨_, hk, hq⟩
theorem ok_is_integer {P : Program} {w : World} {mg : Gm} {base : Heap} {Z : Ads} (A : All mg Z) : DefOk P w mg base 1 "is_integer" 1 f_is_int := by
  refine mkDef (N := ["value"]) (ps := ["value"]) A.d_is_integer sc_is_integer (fun _ _ _ _ _ _ us hl => match us, hl with | [_], _ => rfl) fun fa cdv Ar outer s H E hr => ⟨_,
    (dss_one (ds_ret (de_and (de_isi (de_var 0) A.n_isinstance A.n_int FP.boot_int FP.boot_isinstance) (de_and (de_not (de_isi (de_var 0) A.n_isinstance A.n_bool FP.boot_bool FP.boot_isinstance)) (de_one (de_chain ok_lt ok_lt (de_neg (de_gint A.c_LONGEST)) (de_var 0) (de_gint A.c_LONGEST))))))),  fun ds Q Ex hl hf => ?_⟩
  match ds, hl, hf with
  | [d], _, ⟨ho, hq⟩ =>
    change (_ : DTS) _ [Sl.d d]
    obtain ⟨n, hn, hi, hb⟩ := isi_ty ho
    cases d with
    | int i =>
      cases hn
      refine ⟨_, hi, _, hb, ?_⟩
      simp only [dSeq, dNext, dIfS, dB, dOp, dVar, dC, dCB, dCons, dNil, dSet, dTok, dRet, dRetN, dCall, rdAdd, rdSub, rdMul, rdMod, rdFdiv, rdPow, rdGt, rdLt, rdLe, rdGe, rdIx, rdInt, rdAbs, rdMax, rdMin, rdLen, dRetTok, dSetO, dListO, dLenO, dIRng1, dRetPop, List.getElem?_cons_zero, List.getElem?_cons_succ, List.set_cons_zero, List.set_cons_succ, bit_dec, bit_t, bit_f, bit_not, blc_bl, Option.some.injEq, exists_eq_left', dAndV, dOrV, dNotV, dChain, dIsi, dLc, dIStr, dIList, dITup, dYes, Tg.put, wipeD, rdIn, rdNotIn, rdEq, rdNe, rdAll, dLst, dTup, dAnd, dOr, dNot, dFor, forD, dAsg, dIf, dJoin, rdList, dNewD, rdStr, List.map_cons, List.map_nil, dNeg, isBlT, isIntT, Bool.not_false]
      have e : isIntD (.int i) = (decide (-(10 ^ 60) < i) && decide (i < 10 ^ 60)) := rfl
      rw [e] at hq
      refine ⟨fun h1 => ?_, fun h1 => ?_⟩
      · rw [decide_eq_true (show -(10 ^ 60) < i from h1), Bool.true_and] at hq
        exact hq
      · rw [decide_eq_false (show ¬ -(10 ^ 60) < i from h1), Bool.false_and] at hq
        exact hq
    | bl b =>
      cases hn
      exact ⟨_, hi, _, hb, hq⟩
    | fz _ => exact ho.elim
    | ins _ _ => exact ho.elim
    | cl _ => exact ho.elim
    | fn _ _ => exact ho.elim
    | _ =>
      cases hn
      exact ⟨_, hi, hq⟩
theorem ok_is_within {P : Program} {w : World} {mg : Gm} {base : Heap} {Z : Ads} (A : All mg Z) (G_is_integer : DefOk P w mg base 1 "is_integer" 1 f_is_int) : DefOk P w mg base 2 "is_within" 3 f_within := by
  refine mkDef (N := ["value", "least", "most"]) (ps := ["value", "least", "most"]) A.d_is_within sc_is_within (fun _ _ _ _ _ _ us hl => match us, hl with | [_, _, _], _ => rfl) fun fa cdv Ar outer s H E hr => ⟨_,
    (dss_one (ds_ret (de_and (de_call G_is_integer (fun _ => hr.mono (by omega)) (fun _ => pas (takes_of rfl rfl rfl rfl)) (da_cons (de_var 0) da_nil)) (de_one (de_chain ok_le ok_le (de_var 1) (de_var 0) (de_var 2)))))),  fun ds Q Ex hl hf => ?_⟩
  match ds, hl, hf with
  | [d, .int a, .int b], _, ⟨ho, hq⟩ =>
    change (_ : DTS) _ [Sl.d d, Sl.d (.int a), Sl.d (.int b)]
    refine ⟨rfl, ho, ?_⟩
    cases d with
    | int i =>
      have e : inRow (.int i) a b = (isIntD (.int i) && (decide (a ≤ i) && decide (i ≤ b))) := rfl
      rw [e] at hq
      cases hi : isIntD (.int i) with
      | false => rw [hi] at hq; exact hq
      | true =>
        rw [hi, Bool.true_and] at hq
        show bit (decide (a ≤ i)) (Q (.bl (decide (i ≤ b)))) (Q (.bl false))
        cases ha : decide (a ≤ i) with
        | false => rw [ha] at hq; exact hq
        | true => rw [ha, Bool.true_and] at hq; exact hq
    | _ => exact hq
end K30
namespace K30
open PySem L2 FP
variable [FP.Tabl]
open KP
theorem ok_is_index_tuple {P : Program} {w : World} {mg : Gm} {base : Heap} {Z : Ads} (A : All mg Z) (G_is_within : DefOk P w mg base 2 "is_within" 3 f_within) : DefOk P w mg base 4 "is_index_tuple" 2 f_isidx := by
  refine mkDef (N := ["value", "many", "one", "other"]) (ps := ["value", "many"]) A.d_is_index_tuple sc_is_index_tuple (fun _ _ _ _ _ _ us hl => match us, hl with | [_, _], _ => rfl) fun fa cdv Ar outer s H E hr => ⟨_,
    (dss_cons (ds_if (dt_w (dw_or (dt_not (dt_val (de_isiC (de_var 0) A.n_isinstance A.n_tuple A.isb_tuple FP.boot_tuple FP.boot_isinstance))) (dw_or1 (dt_not (dt_val (de_callB ok_all A.n_all FP.boot_all (da_cons (de_lc (own := [("one", 2)]) (fun _ => sc_is_index_tuple.nd) (di_tup (de_var 0)) (fun _ => blkOk_by (by kernel_rfl)) (dg_name (i := 2) (fun _ => sc_is_index_tuple.nd)) dts_nil (de_call G_is_within (fun _ => hr.mono (by omega)) (fun _ => pas takes0) (da_cons (de_var 2) (da_cons de_int (da_cons (de_op ok_sub (de_var 1) de_int) da_nil))))) da_nil)))))))
    (dss_one (ds_ret de_bl))
    dss_nil)
    (dss_one (ds_ret (de_callB ok_all A.n_all FP.boot_all (da_cons (de_lc (own := [("one", 2), ("other", 3)]) (fun _ => sc_is_index_tuple.nd) (di_list (de_lz A.n_list A.n_zip (da_cons (de_var 0) (da_cons (de_slice (de_var 0) (do_some de_int) do_none) da_nil)))) (fun _ => blkOk_by (by kernel_rfl)) (dg_tup (dgs_cons (dg_name (i := 2) (fun _ => sc_is_index_tuple.nd)) (dgs_cons (dg_name (i := 3) (fun _ => sc_is_index_tuple.nd)) dgs_nil))) dts_nil (de_cmp ok_lt (de_var 2) (de_var 3))) da_nil))))),  fun ds Q Ex hl hf => ?_⟩
  match ds, hl, hf with
  | [d, .int _], _, ⟨n, rfl, hn, sm, hq⟩ =>
    have e0 : startD 4 [d, .int (n : Nat)] = [Sl.d (d), Sl.d (.int (n : Nat)), Sl.no, Sl.no] := rfl
    have hnN : (["value", "many", "one", "other"] : List Str).length = 4 := rfl
    rw [hnN, e0]
    clear e0 hnN
    have evT := ev_tupC (ρ := [Sl.d d, Sl.d (.int (n : Nat)), Sl.no, Sl.no]) (i := 0) (okV.r sm.v) rfl
    cases ht : isTupD d with
    | false =>
      rw [idxD_no ht] at hq
      exact seq_ifT (or_t (not_v (b := false) (b_v (evT.eq (by rw [ht]))))) (ret_v _ (fun Q E q => q) hq)
    | true =>
    obtain ⟨xs, rfl⟩ := isTup_ex ht
    have hl := sm.len xs rfl
    have hel := sm.el xs rfl
    have ea : EvT (dNot (dB (dCB rdAll (dCons (dLc (dITup (dVar 0)) (.one 2) dYes (dCall f_within 3 (dCons (dVar 2) (dCons (dC (.int 0)) (dCons (dOp rdSub (dVar 1) (dC (.int 1))) dNil)))) [2]) dNil)))) [Sl.d (.tup xs), Sl.d (.int (n : Nat)), Sl.no, Sl.no] (!(xs.all fun x => inRow x 0 ((n : Int) - 1))) := not_v (b_v (ev_allF (fun x => inRow x 0 ((n : Int) - 1)) (ev_lcI (xs := xs) (fun x => .bl (inRow x 0 ((n : Int) - 1))) (fun Q E q => q) (size_small (by omega)) fun x hx => ⟨_, rfl, ev_call (a1 (fun Q E q => q) (a1 (fun Q E q => q) (a1 (d := .int ((n : Int) - 1)) (ev_op (x := .int (n : Nat)) (y := .int 1) (fun Q E q => q) (fun Q E q => q) fun Q q => q) a0))) rfl fun Q E q => ⟨hel x hx, q⟩⟩)))
    cases hall : xs.all fun x => inRow x 0 ((n : Int) - 1) with
    | false =>
      rw [idx_no hn hall] at hq
      rw [hall] at ea
      exact seq_ifT (or_f (not_v (b := true) (b_v (evT.eq (by rw [ht])))) ea) (ret_v _ (fun Q E q => q) hq)
    | true =>
    rw [hall] at ea
    refine seq_ifF (or_f (not_v (b := true) (b_v (evT.eq (by rw [ht])))) ea) ?_
    obtain ⟨r, rfl, hr⟩ := idx_yes hn hall
    rw [List.length_map] at hl
    refine ret_v (.bl (ascB ltI r)) (ev_allF (xs := r.zip r.tail) (fun p => ltI p.1 p.2) (ev_lc (fun p : Int × Int => D.tup [.int p.1, .int p.2]) (fun p => .bl (ltI p.1 p.2)) (ev_nei (e := D.int) (fun Q E q => q) (by omega)) (by rw [List.length_zip]; exact size_small (by omega)) fun p hp => ⟨_, rfl, ev_op (x := .int p.1) (y := .int p.2) (fun Q E q => q) (fun Q E q => q) fun Q q => q⟩)) ?_
    have e : idxD n (.tup (r.map D.int)) = ascB ltI r := by
      unfold idxD
      rw [show intsT (.tup (r.map D.int)) = some r from intsT_row r]
      show idxI n r = _
      unfold idxI
      rw [hr, Bool.true_and]
    rw [e] at hq
    exact hq
theorem ok_is_word_tuple {P : Program} {w : World} {mg : Gm} {base : Heap} {Z : Ads} (A : All mg Z) (G_is_word : DefOk P w mg base 1 "is_word" 1 f_is_word) : DefOk P w mg base 4 "is_word_tuple" 1 f_iswt := by
  refine mkDef (N := ["value", "one", "other"]) (ps := ["value"]) A.d_is_word_tuple sc_is_word_tuple (fun _ _ _ _ _ _ us hl => match us, hl with | [_], _ => rfl) fun fa cdv Ar outer s H E hr => ⟨_,
    (dss_cons (ds_if (dt_w (dw_or (dt_not (dt_val (de_isiC (de_var 0) A.n_isinstance A.n_tuple A.isb_tuple FP.boot_tuple FP.boot_isinstance))) (dw_or1 (dt_not (dt_val (de_callB ok_all A.n_all FP.boot_all (da_cons (de_lc (own := [("one", 1)]) (fun _ => sc_is_word_tuple.nd) (di_tup (de_var 0)) (fun _ => blkOk_by (by kernel_rfl)) (dg_name (i := 1) (fun _ => sc_is_word_tuple.nd)) dts_nil (de_call G_is_word (fun _ => hr.mono (by omega)) (fun _ => pas takes0) (da_cons (de_var 1) da_nil))) da_nil)))))))
    (dss_one (ds_ret de_bl))
    dss_nil)
    (dss_one (ds_ret (de_callB ok_all A.n_all FP.boot_all (da_cons (de_lc (own := [("one", 1), ("other", 2)]) (fun _ => sc_is_word_tuple.nd) (di_list (de_lz A.n_list A.n_zip (da_cons (de_var 0) (da_cons (de_slice (de_var 0) (do_some de_int) do_none) da_nil)))) (fun _ => blkOk_by (by kernel_rfl)) (dg_tup (dgs_cons (dg_name (i := 1) (fun _ => sc_is_word_tuple.nd)) (dgs_cons (dg_name (i := 2) (fun _ => sc_is_word_tuple.nd)) dgs_nil))) dts_nil (de_cmp ok_lt (de_var 1) (de_var 2))) da_nil))))),  fun ds Q Ex hl hf => ?_⟩
  match ds, hl, hf with
  | [d], _, ⟨sm, hq⟩ =>
    have e0 : startD 3 [d] = [Sl.d (d), Sl.no, Sl.no] := rfl
    have hnN : (["value", "one", "other"] : List Str).length = 3 := rfl
    rw [hnN, e0]
    clear e0 hnN
    have evT := ev_tupC (ρ := [Sl.d d, Sl.no, Sl.no]) (i := 0) (okV.r sm.v) rfl
    cases ht : isTupD d with
    | false =>
      rw [wordRowD_no ht] at hq
      exact seq_ifT (or_t (not_v (b := false) (b_v (evT.eq (by rw [ht]))))) (ret_v _ (fun Q E q => q) hq)
    | true =>
    obtain ⟨xs, rfl⟩ := isTup_ex ht
    have hl := sm.len xs rfl
    have hel := sm.el xs rfl
    have ea : EvT (dNot (dB (dCB rdAll (dCons (dLc (dITup (dVar 0)) (.one 1) dYes (dCall f_is_word 1 (dCons (dVar 1) dNil)) [1]) dNil)))) [Sl.d (.tup xs), Sl.no, Sl.no] (!(xs.all isWordD)) := not_v (b_v (ev_allF isWordD (ev_lcI (xs := xs) (fun x => .bl (isWordD x)) (fun Q E q => q) (size_small (by omega)) fun x hx => ⟨_, rfl, ev_call (a1 (fun Q E q => q) a0) rfl fun Q E q => ⟨hel x hx, q⟩⟩)))
    cases hall : xs.all isWordD with
    | false =>
      rw [word_no hall] at hq
      rw [hall] at ea
      exact seq_ifT (or_f (not_v (b := true) (b_v (evT.eq (by rw [ht])))) ea) (ret_v _ (fun Q E q => q) hq)
    | true =>
    rw [hall] at ea
    refine seq_ifF (or_f (not_v (b := true) (b_v (evT.eq (by rw [ht])))) ea) ?_
    obtain ⟨r, rfl, hr⟩ := word_yes hall
    rw [List.length_map] at hl
    refine ret_v (.bl (ascB (fun a b => ltS a b) r)) (ev_allF (xs := r.zip r.tail) (fun p => ltS p.1 p.2) (ev_lc (fun p : Str × Str => D.tup [.str p.1, .str p.2]) (fun p => .bl (ltS p.1 p.2)) (ev_nei (e := D.str) (fun Q E q => q) (by omega)) (by rw [List.length_zip]; exact size_small (by omega)) fun p hp => ⟨_, rfl, ev_op (x := .str p.1) (y := .str p.2) (fun Q E q => q) (fun Q E q => q) fun Q q => lt_strs q⟩)) ?_
    have e : wordRowD (.tup (r.map D.str)) = ascB (fun a b => ltS a b) r := by
      unfold wordRowD
      rw [show strsT (.tup (r.map D.str)) = some r from strsT_row r]
      show wordRow r = _
      unfold wordRow
      rw [hr, Bool.true_and]
    rw [e] at hq
    exact hq
theorem ok_is_reach {P : Program} {w : World} {mg : Gm} {base : Heap} {Z : Ads} (A : All mg Z) (G_is_index_tuple : DefOk P w mg base 4 "is_index_tuple" 2 f_isidx) : DefOk P w mg base 6 "is_reach" 1 f_isreach := by
  refine mkDef (N := ["value", "at", "row", "other", "one"]) (ps := ["value"]) A.d_is_reach sc_is_reach (fun _ _ _ _ _ _ us hl => match us, hl with | [_], _ => rfl) fun fa cdv Ar outer s H E hr => ⟨_,
    (dss_cons (ds_if (dt_w (dw_or (dt_not (dt_val (de_isiC (de_var 0) A.n_isinstance A.n_tuple A.isb_tuple FP.boot_tuple FP.boot_isinstance))) (dw_or1 (dt_not (dt_chain ok_le ok_le de_int (de_callB ok_len A.n_len FP.boot_len (da_cons (de_var 0) da_nil)) (de_gint A.c_MAX_WORLDS))))))
    (dss_one (ds_ret de_bl))
    dss_nil)
    (dss_cons (ds_if (dt_not (dt_val (de_callB ok_all A.n_all FP.boot_all (da_cons (de_lc (own := [("at", 1), ("row", 2)]) (fun _ => sc_is_reach.nd) (di_enum A.n_enumerate (da_cons (de_var 0) da_nil)) (fun _ => blkOk_by (by kernel_rfl)) (dg_tup (dgs_cons (dg_name (i := 1) (fun _ => sc_is_reach.nd)) (dgs_cons (dg_name (i := 2) (fun _ => sc_is_reach.nd)) dgs_nil))) dts_nil (de_and (de_call G_is_index_tuple (fun _ => hr.mono (by omega)) (fun _ => pas takes0) (da_cons (de_var 2) (da_cons (de_callB ok_len A.n_len FP.boot_len (da_cons (de_var 0) da_nil)) da_nil))) (de_one (de_cmp ok_in (de_var 1) (de_var 2))))) da_nil))))
    (dss_one (ds_ret de_bl))
    dss_nil)
    (dss_cons (ds_for (di_enum A.n_enumerate (da_cons (de_var 0) da_nil)) (dg_tup (dgs_cons (dg_name (i := 1) (fun _ => sc_is_reach.nd)) (dgs_cons (dg_name (i := 2) (fun _ => sc_is_reach.nd)) dgs_nil)))
    (dss_cons (ds_if (dt_val (de_callB ok_any A.n_any FP.boot_any (da_cons (de_lc (own := [("other", 3)]) (fun _ => sc_is_reach.nd) (di_tup (de_var 2)) (fun _ => blkOk_by (by kernel_rfl)) (dg_name (i := 3) (fun _ => sc_is_reach.nd)) dts_nil (de_and (de_cmp (ok_ne (fun _ => hr.r.units)) (de_var 3) (de_var 1)) (de_one (de_cmp ok_in (de_var 1) (de_ix (de_var 0) (de_var 3)))))) da_nil)))
    (dss_one (ds_ret de_bl))
    dss_nil)
    (dss_one (ds_if (dt_val (de_callB ok_any A.n_any FP.boot_any (da_cons (de_lc2 (own := [("other", 3), ("one", 4)]) (vs1 := [4]) (fun _ => sc_is_reach.nd) (di_tup (de_var 2)) (fun _ => blkOk_by (by kernel_rfl)) (dg_name (i := 3) (fun _ => sc_is_reach.nd)) dts_nil (di_tup (de_ix (de_var 0) (de_var 3))) (dg_name (i := 4) (fun _ => sc_is_reach.nd)) dts_nil (de_cmp ok_notIn (de_var 4) (de_var 2))) da_nil)))
    (dss_one (ds_ret de_bl))
    dss_nil))) (fun _ => passes_of rfl))
    (dss_one (ds_ret de_bl))))),  fun ds Q Ex hl hf => ?_⟩
  match ds, hl, hf with
  | [d], _, ⟨sm, hq⟩ =>
    have e0 : startD 5 [d] = [Sl.d (d), Sl.no, Sl.no, Sl.no, Sl.no] := rfl
    have hnN : (["value", "at", "row", "other", "one"] : List Str).length = 5 := rfl
    rw [hnN, e0]
    clear e0 hnN
    have evT := ev_tupC (ρ := [Sl.d d, Sl.no, Sl.no, Sl.no, Sl.no]) (i := 0) sm.v rfl
    cases ht : isTupD d with
    | false =>
      rw [reachD_no ht] at hq
      exact seq_ifT (or_t (not_v (b := false) (b_v (evT.eq (by rw [ht]))))) (ret_v _ (fun Q E q => q) hq)
    | true =>
    obtain ⟨rows, rfl⟩ := isTup_ex ht
    have hl := sm.len rows rfl
    have hrow := sm.row rows rfl
    have f1 : EvT (dNot (dB (dIsiC "tuple" ["Room"] (dVar 0)))) [Sl.d (.tup rows), Sl.no, Sl.no, Sl.no, Sl.no] false := not_v (b := true) (b_v (evT.eq (by rw [ht])))
    have ec : EvT (dB (dChain rdLe rdLe (dC (.int 1)) (dCB rdLen (dCons (dVar 0) dNil)) (dC (.int 60)))) [Sl.d (.tup rows), Sl.no, Sl.no, Sl.no, Sl.no] (decide (1 ≤ rows.length) && decide (rows.length ≤ 60)) := b_v (ev_chainV (x := .int (1 : Nat)) (y := .int (rows.length : Nat)) (z := .int (60 : Nat)) (fun Q E q => q) (vLenT (fun Q E q => q)) (fun Q E q => q) (fun Q q => leN (a := 1) q) (fun Q q => leN (b := 60) q))
    cases hc : decide (1 ≤ rows.length) && decide (rows.length ≤ 60) with
    | false =>
      rw [reachD_len hc] at hq
      exact seq_ifT (or_f f1 (not_v (ec.eq hc))) (ret_v _ (fun Q E q => q) hq)
    | true =>
    refine seq_ifF (or_f f1 (not_v (ec.eq hc))) ?_
    have h60 : rows.length ≤ 60 := by
      rw [Bool.and_eq_true, decide_eq_true_iff, decide_eq_true_iff] at hc
      exact hc.2
    have ea : EvT (dNot (dB (dCB rdAll (dCons (dLc (dIEnum (dCons (dVar 0) dNil)) (.many [1, 2]) dYes (dAndV (dCall f_isidx 2 (dCons (dVar 2) (dCons (dCB rdLen (dCons (dVar 0) dNil)) dNil))) (dOp rdIn (dVar 1) (dVar 2))) [1, 2]) dNil)))) [Sl.d (.tup rows), Sl.no, Sl.no, Sl.no, Sl.no] (!(rows.zipIdx.all fun p => okRowD rows.length p.2 p.1)) := not_v (b_v (ev_allF (fun p : D × Nat => okRowD rows.length p.2 p.1) (ev_lc (fun p : D × Nat => D.tup [.int (p.2 : Nat), p.1]) (fun p => .bl (okRowD rows.length p.2 p.1)) (xs := rows.zipIdx) (ev_enumI (fun Q E q => q)) (by rw [List.length_zipIdx]; exact size_small (by omega)) fun p hp => ⟨_, rfl, Ev.eq (ev_andV (b1 := idxD rows.length p.1) (b2 := memD p.2 p.1) (ev_call (a1 (fun Q E q => q) (a1 (vLenT (xs := rows) (fun Q E q => q)) a0)) rfl fun Q E q => ⟨rows.length, rfl, h60, hrow _ (List.mem_of_getElem? (zip_in hp)), q⟩) fun h => by
      obtain ⟨r, hr⟩ := idxD_ex h
      rw [hr, memD_row]
      exact ev_op (x := .int (p.2 : Nat)) (y := rwI r) (fun Q E q => q) (fun Q E q => q) fun Q q => in_intsT q) (by rw [okRowD_eq])⟩)))
    cases hall : rows.zipIdx.all fun p => okRowD rows.length p.2 p.1 with
    | false =>
      rw [reachD_rows hall] at hq
      rw [hall] at ea
      exact seq_ifT ea (ret_v _ (fun Q E q => q) hq)
    | true =>
    rw [hall] at ea
    refine seq_ifF ea ?_
    obtain ⟨R, rfl, hR⟩ := rws_R hall
    have hok := okRow_in hR
    rw [List.length_map] at h60 hc
    have hB : reachD (.tup (R.map rwI)) = R.zipIdx.all fun p => loopOk R p.2 p.1 := by
      rw [show D.tup (R.map rwI) = tupR R from rfl, reachD_R]
      unfold reachB
      rw [hc, hR, Bool.true_and, Bool.true_and]
    rw [hB] at hq
    refine seq_for (R.zipIdx.map fun p => D.tup [.int (p.2 : Nat), rwI p.1]) (ev_enum (xs := R) rwI (fun Q E q => q)) ?_
    refine for_chk (fun p : List Int × Nat => D.tup [.int (p.2 : Nat), rwI p.1]) (fun p => loopOk R p.2 p.1) (fun ρ => ∃ a b, ρ = [Sl.d (.tup (R.map rwI)), a, b, Sl.no, Sl.no]) (.bl false) R.zipIdx _ ⟨_, _, rfl⟩ ?_ ?_ ?_
    · rintro ⟨r, i⟩ hp ρ ⟨a, b, rfl⟩
      have hi0 := zip_in hp
      have hi : i < R.length := (List.getElem?_eq_some_iff.mp hi0).1
      have hri : atR R i = r := atR_some hi0
      obtain ⟨h1, h2, h3⟩ := hok i hi
      rw [hri] at h1 h2 h3
      have hrl : r.length ≤ 60 := Nat.le_trans (asc_len h1 h2) h60
      refine ⟨_, rfl, fun N' hno hyes => ?_⟩
      have e1 : Ev (dCB rdAny (dCons (dLc (dITup (dVar 2)) (.one 3) dYes (dAndV (dOp rdNe (dVar 3) (dVar 1)) (dOp rdIn (dVar 1) (dOp rdIx (dVar 0) (dVar 3)))) [3]) dNil)) [Sl.d (.tup (R.map rwI)), Sl.d (.int (i : Nat)), Sl.d (rwI r), Sl.no, Sl.no] (.bl (antiB R i r)) := ev_anyF (fun o : Int => !decide (o = (i : Int)) && decide ((i : Int) ∈ atR R o)) (ev_lc (fun o => D.int o) (fun o => .bl (!decide (o = (i : Int)) && decide ((i : Int) ∈ atR R o))) (xs := r) (fun Q E q => q) (size_small (by omega)) fun o ho => ⟨_, rfl, ev_andV (ev_op (x := .int o) (y := .int (i : Nat)) (fun Q E q => q) (fun Q E q => q) fun Q q => q) fun _ => ev_op (x := .int (i : Nat)) (y := rwI (atR R o)) (fun Q E q => q) (ev_op (x := .tup (R.map rwI)) (y := .int o) (fun Q E q => q) (fun Q E q => q) fun Q q => ⟨_, atI_R (h2 o ho).1 (h2 o ho).2, q⟩) fun Q q => in_intsT q⟩)
      cases ha : antiB R i r with
      | true =>
        rw [ha] at e1
        exact seq_ifT (b_v e1) (ret_v _ (fun Q E q => q) (hno (by show loopOk R i r = false; unfold loopOk; rw [ha]; rfl) _))
      | false =>
      rw [ha] at e1
      refine seq_ifF (b_v e1) ?_
      have e2 : Ev (dCB rdAny (dCons (dLc2 (dITup (dVar 2)) (.one 3) dYes (dITup (dOp rdIx (dVar 0) (dVar 3))) (.one 4) dYes (dOp rdNotIn (dVar 4) (dVar 2)) [3, 4] [4]) dNil)) [Sl.d (.tup (R.map rwI)), Sl.d (.int (i : Nat)), Sl.d (rwI r), Sl.no, Sl.no] (.bl (gapB R r)) := ev_any2 (xs := r) (fun o => D.int o) (fun o => atR R o) (fun _ x => D.int x) (fun o x => !decide (x ∈ r)) (fun Q E q => q) (by omega) fun o ho => by
        obtain ⟨g1, g2⟩ := h2 o ho
        have ho2 : o.toNat < R.length := by omega
        obtain ⟨k1, k2, _⟩ := hok o.toNat ho2
        have eo : ((o.toNat : Nat) : Int) = o := Int.toNat_of_nonneg g1
        rw [eo] at k1 k2
        have hol : (atR R o).length ≤ 60 := Nat.le_trans (asc_len k1 k2) h60
        exact ⟨_, rfl, fun Q E q => ⟨rwI (atR R o), atI_R g1 g2, q⟩, by omega, fun x hx => ⟨_, rfl, ev_op (x := .int x) (y := rwI r) (fun Q E q => q) (fun Q E q => q) fun Q q => notIn_intsT q⟩⟩
      refine end_if (gapB R r) (b_v e2) ?_
      cases hg : gapB R r with
      | true =>
        rw [bit_t]
        exact ret_v (.bl false) (fun Q E q => q) (hno (by show loopOk R i r = false; unfold loopOk; rw [ha, hg]; rfl) _)
      | false =>
        rw [bit_f]
        exact hyes (by show loopOk R i r = true; unfold loopOk; rw [ha, hg]; rfl) _ ⟨_, _, rfl⟩
    · intro h ρ
      rw [h] at hq
      exact hq
    · rintro h ρ ⟨a, b, rfl⟩
      rw [h] at hq
      dsimp only
      exact ret_v (.bl true) (fun Q E q => q) hq
theorem ok_are_truths {P : Program} {w : World} {mg : Gm} {base : Heap} {Z : Ads} (A : All mg Z) (G_is_word_tuple : DefOk P w mg base 4 "is_word_tuple" 1 f_iswt) : DefOk P w mg base 6 "are_truths" 2 f_aretruths := by
  refine mkDef (N := ["reach", "value", "at", "row", "other", "atom"]) (ps := ["reach", "value"]) A.d_are_truths sc_are_truths (fun _ _ _ _ _ _ us hl => match us, hl with | [_, _], _ => rfl) fun fa cdv Ar outer s H E hr => ⟨_,
    (dss_cons (ds_if (dt_w (dw_or (dt_not (dt_val (de_isiC (de_var 1) A.n_isinstance A.n_tuple A.isb_tuple FP.boot_tuple FP.boot_isinstance))) (dw_or (dt_cmp (ok_ne (fun _ => hr.r.units)) (de_callB ok_len A.n_len FP.boot_len (da_cons (de_var 1) da_nil)) (de_callB ok_len A.n_len FP.boot_len (da_cons (de_var 0) da_nil))) (dw_or1 (dt_not (dt_val (de_callB ok_all A.n_all FP.boot_all (da_cons (de_lc (own := [("row", 3)]) (fun _ => sc_are_truths.nd) (di_tup (de_var 1)) (fun _ => blkOk_by (by kernel_rfl)) (dg_name (i := 3) (fun _ => sc_are_truths.nd)) dts_nil (de_call G_is_word_tuple (fun _ => hr.mono (by omega)) (fun _ => pas takes0) (da_cons (de_var 3) da_nil))) da_nil))))))))
    (dss_one (ds_ret de_bl))
    dss_nil)
    (dss_one (ds_ret (de_callB ok_all A.n_all FP.boot_all (da_cons (de_lc3 (own := [("at", 2), ("row", 3), ("other", 4), ("atom", 5)]) (vs1 := [4, 5]) (vs2 := [5]) 60 60 60 (fun _ => sc_are_truths.nd) (di_enum A.n_enumerate (da_cons (de_var 0) da_nil)) (fun _ => blkOk_by (by kernel_rfl)) (dg_tup (dgs_cons (dg_name (i := 2) (fun _ => sc_are_truths.nd)) (dgs_cons (dg_name (i := 3) (fun _ => sc_are_truths.nd)) dgs_nil))) dts_nil (di_tup (de_var 3)) (dg_name (i := 4) (fun _ => sc_are_truths.nd)) dts_nil (di_tup (de_ix (de_var 1) (de_var 2))) (dg_name (i := 5) (fun _ => sc_are_truths.nd)) dts_nil (de_cmp ok_in (de_var 5) (de_ix (de_var 1) (de_var 4)))) da_nil))))),  fun ds Q Ex hl hf => ?_⟩
  match ds, hl, hf with
  | [_, d], _, ⟨R, rfl, hB, smR, sm, hq⟩ =>
    have e0 : startD 6 [tupR R, d] = [Sl.d (tupR R), Sl.d (d), Sl.no, Sl.no, Sl.no, Sl.no] := rfl
    have hnN : (["reach", "value", "at", "row", "other", "atom"] : List Str).length = 6 := rfl
    rw [hnN, e0]
    clear e0 hnN
    have evT := ev_tupC (ρ := [Sl.d (tupR R), Sl.d d, Sl.no, Sl.no, Sl.no, Sl.no]) (i := 1) sm.v rfl
    obtain ⟨n1, n60, hrows⟩ := reachB_iff.mp hB
    cases ht : isTupD d with
    | false =>
      rw [truthsD_no ht] at hq
      exact seq_ifT (or_t (not_v (b := false) (b_v (evT.eq (by rw [ht]))))) (ret_v _ (fun Q E q => q) hq)
    | true =>
    obtain ⟨rows, rfl⟩ := isTup_ex ht
    have hl := sm.len rows rfl
    have hrow := sm.row rows rfl
    have f1 : EvT (dNot (dB (dIsiC "tuple" ["Room"] (dVar 1)))) [Sl.d (tupR R), Sl.d (.tup rows), Sl.no, Sl.no, Sl.no, Sl.no] false := not_v (b := true) (b_v (evT.eq (by rw [ht])))
    have f2 : EvT (dB (dOp rdNe (dCB rdLen (dCons (dVar 1) dNil)) (dCB rdLen (dCons (dVar 0) dNil)))) [Sl.d (tupR R), Sl.d (.tup rows), Sl.no, Sl.no, Sl.no, Sl.no] (!decide (rows.length = R.length)) := vNeN (vLenT (xs := rows) (fun Q E q => q)) (Ev.eq (vLenT (xs := R.map rwI) (fun Q E q => q)) (by rw [List.length_map]))
    by_cases hlen : rows.length = R.length
    case neg =>
      rw [truthsD_len hlen] at hq
      exact seq_ifT (or_f f1 (or_t (f2.eq (by rw [decide_eq_false hlen]; rfl)))) (ret_v _ (fun Q E q => q) hq)
    have f2' := f2.eq (b2 := false) (by rw [decide_eq_true hlen]; rfl)
    have f3 : EvT (dNot (dB (dCB rdAll (dCons (dLc (dITup (dVar 1)) (.one 3) dYes (dCall f_iswt 1 (dCons (dVar 3) dNil)) [3]) dNil)))) [Sl.d (tupR R), Sl.d (.tup rows), Sl.no, Sl.no, Sl.no, Sl.no] (!(rows.all wordRowD)) := not_v (b_v (ev_allF wordRowD (ev_lcI (xs := rows) (fun x => .bl (wordRowD x)) (fun Q E q => q) (size_small (by omega)) fun x hx => ⟨_, rfl, ev_call (a1 (fun Q E q => q) a0) rfl fun Q E q => ⟨hrow x hx, q⟩⟩)))
    cases hall : rows.all wordRowD with
    | false =>
      rw [truthsD_rows hall] at hq
      rw [hall] at f3
      exact seq_ifT (or_f f1 (or_f f2' f3)) (ret_v _ (fun Q E q => q) hq)
    | true =>
    rw [hall] at f3
    refine seq_ifF (or_f f1 (or_f f2' f3)) ?_
    obtain ⟨T, rfl, hT⟩ := rws_T hall
    rw [List.length_map] at hlen
    have hB2 : truthsD R (.tup (T.map rwS)) = R.zipIdx.all fun p => p.1.all fun o => (atT T p.2).all fun a => decide (a ∈ atT T o) := by
      rw [show D.tup (T.map rwS) = tupT T from rfl, truthsD_T]
      unfold truthsB
      rw [decide_eq_true hlen, hT, Bool.true_and, Bool.true_and]
    rw [hB2] at hq
    have hTl : ∀ i : Nat, i < R.length → (atT T i).length ≤ 60 := fun i hi => by
      have h1 := (hrow (rwS (atT T i)) (List.mem_map_of_mem (atT_mem (by omega)))).len _ rfl
      rw [List.length_map] at h1
      exact h1
    refine ret_v (.bl ((R.zipIdx.map fun p => (p.1.map fun o => ((atT T p.2).map fun a => [decide (a ∈ atT T o)]).flatten).flatten).flatten.all id)) (ev_allV (ev_lcNB (xs := R.zipIdx) (fun p : List Int × Nat => D.tup [.int (p.2 : Nat), rwI p.1]) (fun p => (p.1.map fun o => ((atT T p.2).map fun a => [decide (a ∈ atT T o)]).flatten).flatten) (ev_enum (xs := R) rwI (fun Q E q => q)) (by rw [List.length_zipIdx]; omega) ?_) rfl) ?_
    · rintro ⟨r, i⟩ hp
      have hi0 := zip_in hp
      have hi : i < R.length := (List.getElem?_eq_some_iff.mp hi0).1
      have hri : atR R i = r := atR_some hi0
      obtain ⟨h1, h2, h3⟩ := hrows i hi
      rw [hri] at h1 h2 h3
      have hrl : r.length ≤ 60 := Nat.le_trans (asc_len h1 h2) n60
      refine ⟨_, rfl, evB_moreB (xs := r) (fun o => D.int o) (fun o => ((atT T i).map fun a => [decide (a ∈ atT T o)]).flatten) (fun Q E q => q) hrl fun o ho => ?_⟩
      obtain ⟨g1, g2⟩ := h2 o ho
      refine ⟨_, rfl, evB_moreB (xs := atT T i) (fun a => D.str a) (fun a => [decide (a ∈ atT T o)]) (fun Q E q => ⟨rwS (atT T i), atI_T (Int.natCast_nonneg i) (by omega), q⟩) (hTl i hi) fun a ha => ?_⟩
      exact ⟨_, rfl, evB_last (ev_op (x := .str a) (y := rwS (atT T o)) (fun Q E q => q) (ev_op (x := .tup (T.map rwS)) (y := .int o) (fun Q E q => q) (fun Q E q => q) fun Q q => ⟨_, atI_T g1 (by omega), q⟩) fun Q q => in_rowS q)⟩
    · have e : (R.zipIdx.map fun p => (p.1.map fun o => ((atT T p.2).map fun a => [decide (a ∈ atT T o)]).flatten).flatten).flatten.all id = R.zipIdx.all fun p => p.1.all fun o => (atT T p.2).all fun a => decide (a ∈ atT T o) := by
        rw [all_fl]
        congr 1
        funext p
        rw [all_fl]
        congr 1
        funext o
        rw [all_fl]
        congr 1
        funext a
        exact Bool.and_true _
      rw [e]
      exact hq
end K30
namespace K30
open PySem L2 FP
variable [FP.Tabl]
open KP
theorem ok_Room___init__ {P : Program} {w : World} {mg : Gm} {base : Heap} {Z : Ads} (A : All mg Z) (G_are_truths : DefOk P w mg base 6 "are_truths" 2 f_aretruths) (G_is_reach : DefOk P w mg base 6 "is_reach" 1 f_isreach) : InitOk P w mg base 8 "Room" Z.a_Room 2 f_initRoom := by
  refine mkInit (N := ["self", "reach", "truths"]) (ps := ["self", "reach", "truths"]) A.kc_Room A.d_Room___init__ sc_Room___init__ rfl (fun _ _ _ _ _ _ us hl => match us, hl with | [_, _, _], _ => rfl) fun fa cdv Ar outer s H E hr => ⟨_,
    (dss_cons (ds_if (dt_w (dw_or (dt_not (dt_val (de_call G_is_reach (fun _ => hr.mono (by omega)) (fun _ => pas (takes_of rfl rfl rfl rfl)) (da_cons (de_var 1) da_nil)))) (dw_or1 (dt_not (dt_val (de_call G_are_truths (fun _ => hr.mono (by omega)) (fun _ => pas (takes_of rfl rfl rfl rfl)) (da_cons (de_var 1) (da_cons (de_var 2) da_nil))))))))
    (dss_one (ds_raise veB A.ex_InvalidRoom (fun _ => takes_of rfl rfl rfl rfl)))
    dss_nil)
    (dss_cons (ds_setF 0 A.kc_Room A.na_Room_own_reach (de_var 1))
    (dss_cons (ds_setF 0 A.kc_Room A.na_Room_own_truths (de_var 2))
    (dss_one (ds_setF 0 A.kc_Room A.na_Room_own_pairs (de_callTy ok_tuple A.n_tuple FP.boot_tuple (da_cons (de_lz A.n_list A.n_zip (da_cons (de_var 1) (da_cons (de_var 2) da_nil))) da_nil))))))),  fun x ds Q Ex hl hf => ?_⟩
  match ds, hl, hf with
  | [d, e], _, ⟨sm1, sm2, hq, hbad⟩ =>
    have e0 : startD (3 - 1) [d, e] = [Sl.d (d), Sl.d (e)] := rfl
    have hnN : (["self", "reach", "truths"] : List Str).length = 3 := rfl
    rw [hnN, e0]
    clear e0 hnN
    have e1 : EvT (dNot (dB (dCall f_isreach 1 (dCons (dVar 1) dNil)))) [Sl.ob "Room" x [], Sl.d d, Sl.d e] (!reachD d) := not_v (b_v (ev_call (a1 (fun Q E q => q) a0) rfl fun Q E q => ⟨sm1, q⟩))
    cases h1 : reachD d with
    | false =>
      rw [h1] at e1
      refine seq_ifT (or_t e1) (hbad ?_)
      rintro ⟨R, T, rfl, rfl, h⟩
      rw [reachD_R] at h1
      unfold roomB at h
      rw [h1] at h
      cases h
    | true =>
    rw [h1] at e1
    obtain ⟨R, rfl⟩ := reachD_ex h1
    rw [reachD_R] at h1
    have e2 : EvT (dNot (dB (dCall f_aretruths 2 (dCons (dVar 1) (dCons (dVar 2) dNil))))) [Sl.ob "Room" x [], Sl.d (tupR R), Sl.d e] (!truthsD R e) := not_v (b_v (ev_call (a1 (fun Q E q => q) (a1 (fun Q E q => q) a0)) rfl fun Q E q => ⟨R, rfl, h1, sm1, sm2, q⟩))
    cases h2 : truthsD R e with
    | false =>
      rw [h2] at e2
      refine seq_ifT (or_f e1 e2) (hbad ?_)
      rintro ⟨R', T, hr, rfl, h⟩
      have hr2 := tupR_inj hr
      subst hr2
      rw [truthsD_T] at h2
      unfold roomB at h
      rw [h1, h2] at h
      cases h
    | true =>
    rw [h2] at e2
    obtain ⟨T, rfl⟩ := truthsD_ex h2
    rw [truthsD_T] at h2
    refine seq_ifF (or_f e1 e2) ?_
    have hlR := (reachB_iff.mp h1).2.1
    refine seq_setF rfl (tupR R) (by decide) (fun Q E q => q) ?_
    refine seq_setF rfl (tupT T) (by show 1 < 1000; decide) (fun Q E q => q) ?_
    refine end_setF rfl (.tup ((R.zip T).map fun p : List Int × List Str => D.tup [rwI p.1, rwS p.2])) (by show 2 < 1000; decide) (ev_cb (a1 (d := .lst ((R.zip T).map fun p : List Int × List Str => D.tup [rwI p.1, rwS p.2])) (Ev.eq (x := .lst (zipD (R.map rwI) (T.map rwS))) (fun Q E q => ⟨_, _, rfl, rfl, by rw [zipD_map, List.length_map, List.length_zip]; exact size_small (by omega), q⟩) (by rw [zipD_map])) a0) fun Q q => q) ?_
    exact ⟨_, _, rfl, hq R T rfl rfl (by unfold roomB; rw [h1, h2]; rfl)⟩
theorem ok_Room_reach {P : Program} {w : World} {mg : Gm} {base : Heap} {Z : Ads} (A : All mg Z) : PropOk P w mg base 1 Z.a_Room "reach" (f_fldW fun R T => tupR R) := by
  refine mkProp (N := ["self"]) (ps := ["self"]) A.d_Room_reach sc_Room_reach rfl (fun _ _ _ _ _ _ us hl => match us, hl with | [_], _ => rfl) fun fa cdv Ar outer s H E hr => ⟨_,
    (dss_one (ds_ret (de_fld A.kc_Room A.na_Room_own_reach (de_var 0)))),  fun ds Q Ex hl hf => ?_⟩
  match ds, hl, hf with
  | [_], _, ⟨R, T, rfl, hq⟩ =>
    have e0 : startD 1 [roomO R T] = [Sl.d (roomO R T)] := rfl
    have hnN : (["self"] : List Str).length = 1 := rfl
    rw [hnN, e0]
    clear e0 hnN
    exact ret_v (tupR R) (ev_fld (fs := roomF R T) (fun Q E q => q) rfl) hq
theorem ok_Room_truths {P : Program} {w : World} {mg : Gm} {base : Heap} {Z : Ads} (A : All mg Z) : PropOk P w mg base 1 Z.a_Room "truths" (f_fldW fun R T => tupT T) := by
  refine mkProp (N := ["self"]) (ps := ["self"]) A.d_Room_truths sc_Room_truths rfl (fun _ _ _ _ _ _ us hl => match us, hl with | [_], _ => rfl) fun fa cdv Ar outer s H E hr => ⟨_,
    (dss_one (ds_ret (de_fld A.kc_Room A.na_Room_own_truths (de_var 0)))),  fun ds Q Ex hl hf => ?_⟩
  match ds, hl, hf with
  | [_], _, ⟨R, T, rfl, hq⟩ =>
    have e0 : startD 1 [roomO R T] = [Sl.d (roomO R T)] := rfl
    have hnN : (["self"] : List Str).length = 1 := rfl
    rw [hnN, e0]
    clear e0 hnN
    exact ret_v (tupT T) (ev_fld (fs := roomF R T) (fun Q E q => q) rfl) hq
theorem ok_Room_atoms {P : Program} {w : World} {mg : Gm} {base : Heap} {Z : Ads} (A : All mg Z) : PropOk P w mg base 1 Z.a_Room "atoms" f_atomsW := by
  refine mkProp (N := ["self", "row", "atom"]) (ps := ["self"]) A.d_Room_atoms sc_Room_atoms rfl (fun _ _ _ _ _ _ us hl => match us, hl with | [_], _ => rfl) fun fa cdv Ar outer s H E hr => ⟨_,
    (dss_one (ds_ret (de_callTy ok_tuple A.n_tuple FP.boot_tuple (da_cons (de_sortSet (de_lc2 (own := [("row", 1), ("atom", 2)]) (vs1 := [2]) (fun _ => sc_Room_atoms.nd) (di_tup (de_fld A.kc_Room A.na_Room_own_truths (de_var 0))) (fun _ => blkOk_by (by kernel_rfl)) (dg_name (i := 1) (fun _ => sc_Room_atoms.nd)) dts_nil (di_tup (de_var 1)) (dg_name (i := 2) (fun _ => sc_Room_atoms.nd)) dts_nil (de_var 2)) A.n_sorted A.n_set FP.boot_sorted FP.boot_set) da_nil)))),  fun ds Q Ex hl hf => ?_⟩
  match ds, hl, hf with
  | [_], _, ⟨R, T, rfl, hT, hTl, hq⟩ =>
    have e0 : startD 3 [roomO R T] = [Sl.d (roomO R T), Sl.no, Sl.no] := rfl
    have hnN : (["self", "row", "atom"] : List Str).length = 3 := rfl
    rw [hnN, e0]
    clear e0 hnN
    exact ret_v (.tup ((sortU T.flatten).map .str)) (ev_cb (a1 (d := .lst ((sortU T.flatten).map .str)) (ev_sortU (ss := T.flatten) (Ev.eq (ev_lc2 (xs := T) rwS (fun r => r) (fun _ a => D.str a) (fun _ a => D.str a) (fun Q E q => ev_fld (d := tupT T) (fs := roomF R T) (fun Q E q => q) rfl _ _ q) (by omega) fun r hr => ⟨_, rfl, (fun Q E q => q), by have := hTl r hr; omega, fun a ha => ⟨_, rfl, (fun Q E q => q)⟩⟩) (by rw [List.map_flatten])) (flatW_len hT hTl)) a0) fun Q q => q) hq
theorem ok_Room_require_world {P : Program} {w : World} {mg : Gm} {base : Heap} {Z : Ads} (A : All mg Z) (G_is_within : DefOk P w mg base 2 "is_within" 3 f_within) : MethOk P w mg base 4 Z.a_Room "require_world" 2 f_reqW := by
  refine mkMeth (N := ["self", "world"]) (ps := ["self", "world"]) A.d_Room_require_world sc_Room_require_world (fun _ _ _ _ _ _ us hl => match us, hl with | [_, _], _ => rfl) fun fa cdv Ar outer s H E hr => ⟨_,
    (dss_one (ds_if (dt_not (dt_val (de_call G_is_within (fun _ => hr.mono (by omega)) (fun _ => pas (takes_of rfl rfl rfl rfl)) (da_cons (de_var 1) (da_cons de_int (da_cons (de_op ok_sub (de_callB ok_len A.n_len FP.boot_len (da_cons (de_fld A.kc_Room A.na_Room_own_reach (de_var 0)) da_nil)) de_int) da_nil))))))
    (dss_one ds_never)
    dss_nil)),  fun ds Q Ex hl hf => ?_⟩
  match ds, hl, hf with
  | [_, .int k], _, ⟨R, T, rfl, hR, h0, h1, hq⟩ =>
    have e0 : startD 2 [roomO R T, .int k] = [Sl.d (roomO R T), Sl.d (.int k)] := rfl
    have hnN : (["self", "world"] : List Str).length = 2 := rfl
    rw [hnN, e0]
    clear e0 hnN
    refine end_if false (not_v (b := true) (b_v (ev_call (a1 (fun Q E q => q) (a1 (fun Q E q => q) (a1 (d := .int ((R.length : Int) - 1)) (ev_op (x := .int (R.length : Nat)) (y := .int 1) (Ev.eq (vLenT (xs := R.map rwI) (ev_fld (fs := roomF R T) (fun Q E q => q) rfl)) (by rw [List.length_map])) (fun Q E q => q) fun Q q => q) a0))) rfl fun Q E q => ⟨trivial, by rw [inRow_n hR, decide_eq_true h0, decide_eq_true h1]; exact q⟩))) ?_
    exact hq
theorem ok_Room___getitem__ {P : Program} {w : World} {mg : Gm} {base : Heap} {Z : Ads} (A : All mg Z) (G_Room_require_world : MethOk P w mg base 4 Z.a_Room "require_world" 2 f_reqW) : SpecOk P w mg base 6 Z.a_Room "__getitem__" 2 f_getW := by
  refine mkSpec (N := ["self", "world"]) (ps := ["self", "world"]) A.d_Room___getitem__ sc_Room___getitem__ (fun _ _ _ _ _ _ us hl => match us, hl with | [_, _], _ => rfl) fun fa cdv Ar outer s H E hr => ⟨_,
    (dss_cons (ds_expr (de_meth A.kc_Room G_Room_require_world (fun _ => hr.mono (by omega)) (fun _ => pas (takes_of rfl rfl rfl rfl)) (de_var 0) (da_cons (de_var 1) da_nil)))
    (dss_one (ds_ret (de_ix (de_fld A.kc_Room A.na_Room_own_pairs (de_var 0)) (de_var 1))))),  fun ds Q Ex hl hf => ?_⟩
  match ds, hl, hf with
  | [_, .int k], _, ⟨R, T, rfl, hR, hl2, h0, h1, hq⟩ =>
    have e0 : startD 2 [roomO R T, .int k] = [Sl.d (roomO R T), Sl.d (.int k)] := rfl
    have hnN : (["self", "world"] : List Str).length = 2 := rfl
    rw [hnN, e0]
    clear e0 hnN
    refine seq_expr (fun Q E q => (ev_meth (d := .non) (fs := roomF R T) (ds := [.int k]) (fun Q E q => q) rfl (a1 (fun Q E q => q) a0) rfl fun Q E q => ⟨R, T, rfl, hR, h0, h1, q⟩) _ _ (q _)) ?_
    exact ret_v (.tup [rwI (atR R k), rwS (atT T k)]) (ev_op (x := .tup ((R.zip T).map fun p : List Int × List Str => D.tup [rwI p.1, rwS p.2])) (y := .int k) (ev_fld (fs := roomF R T) (fun Q E q => q) rfl) (fun Q E q => q) fun Q q => ⟨_, atI_zip hl2 h0 h1, q⟩) hq
theorem ok_Room___len__ {P : Program} {w : World} {mg : Gm} {base : Heap} {Z : Ads} (A : All mg Z) : SpecOk P w mg base 1 Z.a_Room "__len__" 1 (f_fldW fun R T => .int (R.length : Nat)) := by
  refine mkSpec (N := ["self"]) (ps := ["self"]) A.d_Room___len__ sc_Room___len__ (fun _ _ _ _ _ _ us hl => match us, hl with | [_], _ => rfl) fun fa cdv Ar outer s H E hr => ⟨_,
    (dss_one (ds_ret (de_callB ok_len A.n_len FP.boot_len (da_cons (de_fld A.kc_Room A.na_Room_own_reach (de_var 0)) da_nil)))),  fun ds Q Ex hl hf => ?_⟩
  match ds, hl, hf with
  | [_], _, ⟨R, T, rfl, hq⟩ =>
    have e0 : startD 1 [roomO R T] = [Sl.d (roomO R T)] := rfl
    have hnN : (["self"] : List Str).length = 1 := rfl
    rw [hnN, e0]
    clear e0 hnN
    exact ret_v (.int (R.length : Nat)) (Ev.eq (vLenT (xs := R.map rwI) (ev_fld (fs := roomF R T) (fun Q E q => q) rfl)) (by rw [List.length_map])) hq
theorem ok_Room___str__ {P : Program} {w : World} {mg : Gm} {base : Heap} {Z : Ads} (A : All mg Z) : SpecOk P w mg base 1 Z.a_Room "__str__" 1 f_strW := by
  refine mkSpec (N := ["self", "atoms", "row", "atom"]) (ps := ["self"]) A.d_Room___str__ sc_Room___str__ (fun _ _ _ _ _ _ us hl => match us, hl with | [_], _ => rfl) fun fa cdv Ar outer s H E hr => ⟨_,
    (dss_cons (ds_setS (w := w) (i := 1) (de_lc2 (own := [("row", 2), ("atom", 3)]) (vs1 := [3]) (fun _ => sc_Room___str__.nd) (di_tup (de_fld A.kc_Room A.na_Room_own_truths (de_var 0))) (fun _ => blkOk_by (by kernel_rfl)) (dg_name (i := 2) (fun _ => sc_Room___str__.nd)) dts_nil (di_tup (de_var 2)) (dg_name (i := 3) (fun _ => sc_Room___str__.nd)) dts_nil (de_var 3)) A.n_set FP.boot_set (fun _ => sc_Room___str__.nd))
    (dss_one (ds_ret (de_joined (dj_cons (de_fmt (de_callB ok_len A.n_len FP.boot_len (da_cons (de_fld A.kc_Room A.na_Room_own_reach (de_var 0)) da_nil))) (dj_cons de_str (dj_cons (de_fmt (de_lenHv (w := w) 1 A.n_len FP.boot_len)) (dj_cons de_str dj_nil)))))))),  fun ds Q Ex hl hf => ?_⟩
  match ds, hl, hf with
  | [_], _, ⟨R, T, rfl, hR, hT, hTl, hq⟩ =>
    have e0 : startD 4 [roomO R T] = [Sl.d (roomO R T), Sl.no, Sl.no, Sl.no] := rfl
    have hnN : (["self", "atoms", "row", "atom"] : List Str).length = 4 := rfl
    rw [hnN, e0]
    clear e0 hnN
    have hfl := flatW_len hT hTl
    have hsl := sortU_len T.flatten
    have eT : Ev (dLc2 (dITup (dFld "Room" "own_truths" (dVar 0))) (.one 2) dYes (dITup (dVar 2)) (.one 3) dYes (dVar 3) [2, 3] [3]) [Sl.d (roomO R T), Sl.no, Sl.no, Sl.no] (.lst (T.flatten.map .str)) := Ev.eq (ev_lc2 (xs := T) rwS (fun r => r) (fun _ a => D.str a) (fun _ a => D.str a) (fun Q E q => ev_fld (d := tupT T) (fs := roomF R T) (fun Q E q => q) rfl _ _ q) (by omega) fun r hr => ⟨_, rfl, (fun Q E q => q), by have := hTl r hr; omega, fun a ha => ⟨_, rfl, (fun Q E q => q)⟩⟩) (by rw [List.map_flatten])
    refine seq_setS eT hfl ?_
    refine ret_v (.str (tellW R.length (sortU T.flatten).length)) (ev_tellW (by omega) (by omega) (Ev.eq (vLenT (xs := R.map rwI) (ev_fld (fs := roomF R T) (fun Q E q => q) rfl)) (by rw [List.length_map])) (fun Q E q => ⟨T.flatten, rfl, q⟩)) hq
theorem ok_Room___eq__ {P : Program} {w : World} {mg : Gm} {base : Heap} {Z : Ads} (A : All mg Z) : SpecOk P w mg base 1 Z.a_Room "__eq__" 2 f_eqW := by
  refine mkSpec (N := ["self", "other"]) (ps := ["self", "other"]) A.d_Room___eq__ sc_Room___eq__ (fun _ _ _ _ _ _ us hl => match us, hl with | [_, _], _ => rfl) fun fa cdv Ar outer s H E hr => ⟨_,
    (dss_cons (ds_if (dt_not (dt_val (de_isiO (de_var 1) A.n_isinstance A.kc_Room.nm A.isi_Room FP.boot_isinstance)))
    (dss_one (ds_ret de_bl))
    dss_nil)
    (dss_one (ds_ret (de_and (de_cmp (ok_eq (fun _ => hr.r.units)) (de_fld A.kc_Room A.na_Room_own_reach (de_var 0)) (de_fld A.kc_Room A.na_Room_own_reach (de_var 1))) (de_one (de_cmp (ok_eq (fun _ => hr.r.units)) (de_fld A.kc_Room A.na_Room_own_truths (de_var 0)) (de_fld A.kc_Room A.na_Room_own_truths (de_var 1)))))))),  fun ds Q Ex hl hf => ?_⟩
  match ds, hl, hf with
  | [_, _], _, ⟨R, T, rfl, hw, .inl ⟨R', T', rfl, hw2, hq⟩⟩ =>
    have e0 : startD 2 [roomO R T, roomO R' T'] = [Sl.d (roomO R T), Sl.d (roomO R' T')] := rfl
    have hnN : (["self", "other"] : List Str).length = 2 := rfl
    rw [hnN, e0]
    clear e0 hnN
    refine seq_ifF (not_v (b := true) (b_v fun Q E q => ?_)) ?_
    · show (match isiD ["Room"] (fun _ => true) (roomO R' T') with | some b => Q (.bl b) | none => False)
      rw [show isiD ["Room"] (fun _ => true) (roomO R' T') = some true from isi_own _ _]
      exact q
    exact ret_v (.bl (decide (R = R') && decide (T = T'))) (ev_andV (ev_op (x := tupR R) (y := tupR R') (ev_fld (fs := roomF R T) (fun Q E q => q) rfl) (ev_fld (fs := roomF R' T') (fun Q E q => q) rfl) fun Q q => eqTR q) fun _ => ev_op (x := tupT T) (y := tupT T') (ev_fld (fs := roomF R T) (fun Q E q => q) rfl) (ev_fld (fs := roomF R' T') (fun Q E q => q) rfl) fun Q q => eqTT hw hw2 q) hq
  | [_, y], _, ⟨R, T, rfl, hw, .inr ⟨hy, hq⟩⟩ =>
    have e0 : startD 2 [roomO R T, y] = [Sl.d (roomO R T), Sl.d (y)] := rfl
    have hnN : (["self", "other"] : List Str).length = 2 := rfl
    rw [hnN, e0]
    clear e0 hnN
    refine seq_ifT (not_v (b := false) (b_v fun Q E q => ?_)) (ret_v (.bl false) (fun Q E q => q) hq)
    show (match isiD ["Room"] (fun _ => true) y with | some b => Q (.bl b) | none => False)
    rw [hy]
    exact q
end K30
namespace K30
open PySem L2 FP
variable [FP.Tabl]
open KP
theorem ok__law_is_room {P : Program} {w : World} {mg : Gm} {base : Heap} {Z : Ads} (A : All mg Z) : DefOk P w mg base 1 "_law_is_room" 2 f_lawroom := by
  refine mkDef (N := ["_law_reach", "_law_truths", "_law_size", "_law_world", "_law_row", "_law_other", "_law_one", "_law_atom"]) (ps := ["_law_reach", "_law_truths"]) A.d__law_is_room sc__law_is_room (fun _ _ _ _ _ _ us hl => match us, hl with | [_, _], _ => rfl) fun fa cdv Ar outer s H E hr => ⟨_,
    (dss_cons (ds_set (i := 2) (de_callB ok_len A.n_len FP.boot_len (da_cons (de_var 0) da_nil)) (fun _ => sc__law_is_room.nd))
    (dss_cons (ds_if (dt_w (dw_or (dt_not (dt_chain ok_le ok_le de_int (de_var 2) de_int)) (dw_or1 (dt_cmp (ok_ne (fun _ => hr.r.units)) (de_callB ok_len A.n_len FP.boot_len (da_cons (de_var 1) da_nil)) (de_var 2)))))
    (dss_one (ds_ret de_bl))
    dss_nil)
    (dss_cons (ds_for (di_range1 A.n_range (da_cons (de_var 2) da_nil)) (dg_name (i := 3) (fun _ => sc__law_is_room.nd))
    (dss_cons (ds_set (i := 4) (de_ix (de_var 0) (de_var 3)) (fun _ => sc__law_is_room.nd))
    (dss_cons (ds_if (dt_w (dw_or (dt_cmp (ok_ne (fun _ => hr.r.units)) (de_var 4) (de_sortSetI (de_var 4) A.n_sorted A.n_set FP.boot_sorted FP.boot_set)) (dw_or (dt_cmp ok_notIn (de_var 3) (de_var 4)) (dw_or1 (dt_cmp (ok_ne (fun _ => hr.r.units)) (de_lc (own := [("_law_one", 6)]) (fun _ => sc__law_is_room.nd) (di_list (de_var 4)) (fun _ => blkOk_by (by kernel_rfl)) (dg_name (i := 6) (fun _ => sc__law_is_room.nd)) (dts_one (dt_not (dt_chain ok_le ok_lt de_int (de_var 6) (de_var 2)))) (de_var 6)) (de_lst da_nil))))))
    (dss_one (ds_ret de_bl))
    dss_nil)
    (dss_one (ds_if (dt_cmp (ok_ne (fun _ => hr.r.units)) (de_ix (de_var 1) (de_var 3)) (de_sortSet (de_ix (de_var 1) (de_var 3)) A.n_sorted A.n_set FP.boot_sorted FP.boot_set))
    (dss_one (ds_ret de_bl))
    dss_nil)))) (fun _ => passes_of rfl))
    (dss_cons (ds_for (di_range1 A.n_range (da_cons (de_var 2) da_nil)) (dg_name (i := 3) (fun _ => sc__law_is_room.nd))
    (dss_one (ds_for (di_list (de_ix (de_var 0) (de_var 3))) (dg_name (i := 5) (fun _ => sc__law_is_room.nd))
    (dss_cons (ds_if (dt_w (dw_and (dt_cmp (ok_ne (fun _ => hr.r.units)) (de_var 5) (de_var 3)) (dw_and1 (dt_cmp ok_in (de_var 3) (de_ix (de_var 0) (de_var 5))))))
    (dss_one (ds_ret de_bl))
    dss_nil)
    (dss_cons (ds_if (dt_cmp (ok_ne (fun _ => hr.r.units)) (de_lc (own := [("_law_one", 6)]) (fun _ => sc__law_is_room.nd) (di_list (de_ix (de_var 0) (de_var 5))) (fun _ => blkOk_by (by kernel_rfl)) (dg_name (i := 6) (fun _ => sc__law_is_room.nd)) (dts_one (dt_cmp ok_notIn (de_var 6) (de_ix (de_var 0) (de_var 3)))) (de_var 6)) (de_lst da_nil))
    (dss_one (ds_ret de_bl))
    dss_nil)
    (dss_one (ds_if (dt_cmp (ok_ne (fun _ => hr.r.units)) (de_lc (own := [("_law_atom", 7)]) (fun _ => sc__law_is_room.nd) (di_list (de_ix (de_var 1) (de_var 3))) (fun _ => blkOk_by (by kernel_rfl)) (dg_name (i := 7) (fun _ => sc__law_is_room.nd)) (dts_one (dt_cmp ok_notIn (de_var 7) (de_ix (de_var 1) (de_var 5)))) (de_var 7)) (de_lst da_nil))
    (dss_one (ds_ret de_bl))
    dss_nil)))) (fun _ => passes_of rfl))) (fun _ => passes_of rfl))
    (dss_one (ds_ret de_bl)))))),  fun ds Q Ex hl hf => ?_⟩
  match ds, hl, hf with
  | [_, _], _, ⟨R, T, rfl, rfl, sm, hq⟩ =>
    have e0 : startD 8 [lstR R, lstT T] = [Sl.d (lstR R), Sl.d (lstT T), Sl.no, Sl.no, Sl.no, Sl.no, Sl.no, Sl.no] := rfl
    have hnN : (["_law_reach", "_law_truths", "_law_size", "_law_world", "_law_row", "_law_other", "_law_one", "_law_atom"] : List Str).length = 8 := rfl
    rw [hnN, e0]
    clear e0 hnN
    have hokT := sm.ok
    have hn := sm.n
    refine seq_v (.int (R.length : Nat)) (Ev.eq (vLenL (xs := R.map rwIL) (fun Q E q => q)) (by rw [List.length_map])) ?_
    have ec : EvT (dB (dChain rdLe rdLe (dC (.int 1)) (dVar 2) (dC (.int 60)))) [Sl.d (lstR R), Sl.d (lstT T), Sl.d (.int (R.length : Nat)), Sl.no, Sl.no, Sl.no, Sl.no, Sl.no] (decide (1 ≤ R.length) && decide (R.length ≤ 60)) := b_v (ev_chainV (x := .int (1 : Nat)) (y := .int (R.length : Nat)) (z := .int (60 : Nat)) (fun Q E q => q) (fun Q E q => q) (fun Q E q => q) (fun Q q => leN (a := 1) q) (fun Q q => leN (b := 60) q))
    have el : EvT (dB (dOp rdNe (dCB rdLen (dCons (dVar 1) dNil)) (dVar 2))) [Sl.d (lstR R), Sl.d (lstT T), Sl.d (.int (R.length : Nat)), Sl.no, Sl.no, Sl.no, Sl.no, Sl.no] (!decide (T.length = R.length)) := vNeN (Ev.eq (vLenL (xs := T.map rwSL) (fun Q E q => q)) (by rw [List.length_map])) (fun Q E q => q)
    unfold roomL at hq
    cases hc : decide (1 ≤ R.length) && decide (R.length ≤ 60) with
    | false =>
      rw [hc] at hq
      exact seq_ifT (or_t (not_v (ec.eq hc))) (ret_v (.bl false) (fun Q E q => q) hq)
    | true =>
    cases hlen : decide (T.length = R.length) with
    | false =>
      rw [hc, hlen] at hq
      exact seq_ifT (or_f (not_v (ec.eq hc)) (el.eq (by rw [hlen]; rfl))) (ret_v (.bl false) (fun Q E q => q) hq)
    | true =>
    rw [hc, hlen, Bool.true_and, Bool.true_and] at hq
    refine seq_ifF (or_f (not_v (ec.eq hc)) (el.eq (by rw [hlen]; rfl))) ?_
    rw [decide_eq_true_iff] at hlen
    refine seq_for ((List.range R.length).map fun k : Nat => D.int (k : Nat)) (vRng2 (by omega) (fun Q E q => q)) ?_
    refine for_chk (fun k : Nat => D.int (k : Nat)) (fun i => rowL R.length i (atR R i) && decide (atT T i = sortU (atT T i))) (fun ρ => ∃ a b c, ρ = [Sl.d (lstR R), Sl.d (lstT T), Sl.d (.int (R.length : Nat)), a, b, Sl.no, c, Sl.no]) (.bl false) (List.range R.length) _ ⟨_, _, _, rfl⟩ ?_ ?_ ?_
    · rintro i hi ρ ⟨a, b, c, rfl⟩
      have hi := List.mem_range.mp hi
      refine ⟨_, rfl, fun N' hno hyes => ?_⟩
      have hrl := mem_atR_len (R := R) (o := (i : Int)) sm.r
      have htl := mem_atT_len (T := T) (o := (i : Int)) sm.t
      refine seq_v (rwIL (atR R i)) (ev_op (x := lstR R) (y := .int (i : Nat)) (fun Q E q => q) (fun Q E q => q) fun Q q => ⟨_, atI_R (Int.natCast_nonneg i) (by omega), q⟩) ?_
      generalize atR R i = r at hrl hno hyes
      have e1 : EvT (dB (dOp rdNe (dVar 4) (dSortSetI (dVar 4)))) [Sl.d (lstR R), Sl.d (lstT T), Sl.d (.int (R.length : Nat)), Sl.d (.int (i : Nat)), Sl.d (rwIL r), Sl.no, c, Sl.no] (!decide (r = sortUI r)) := b_v (ev_op (x := rwIL r) (y := rwIL (sortUI r)) (fun Q E q => q) (ev_sortUI (fun Q E q => q) (by omega)) fun Q q => neI1 q)
      have e2 : EvT (dB (dOp rdNotIn (dVar 3) (dVar 4))) [Sl.d (lstR R), Sl.d (lstT T), Sl.d (.int (R.length : Nat)), Sl.d (.int (i : Nat)), Sl.d (rwIL r), Sl.no, c, Sl.no] (!decide ((i : Int) ∈ r)) := b_v (ev_op (x := .int (i : Nat)) (y := rwIL r) (fun Q E q => q) (fun Q E q => q) fun Q q => notIn_intsL q)
      have e3 : EvT (dB (dOp rdNe (dLc (dIList (dVar 4)) (.one 6) (dNot (dB (dChain rdLe rdLt (dC (.int 0)) (dVar 6) (dVar 2)))) (dVar 6) [6]) (dLst dNil))) [Sl.d (lstR R), Sl.d (lstT T), Sl.d (.int (R.length : Nat)), Sl.d (.int (i : Nat)), Sl.d (rwIL r), Sl.no, c, Sl.no] (!decide ((r.filter fun x => !(decide (0 ≤ x) && decide (x < (R.length : Int)))) = [])) := b_v (ev_op (x := rwIL (r.filter fun x => !(decide (0 ≤ x) && decide (x < (R.length : Int))))) (y := rwIL []) (ev_lcF (fun x => D.int x) (fun x => D.int x) (fun x => !(decide (0 ≤ x) && decide (x < (R.length : Int)))) (xs := r) (fun Q E q => q) (size_small (by omega)) fun x hx => ⟨_, rfl, not_v (b_v (ev_chainV (x := .int 0) (y := .int x) (z := .int (R.length : Nat)) (fun Q E q => q) (fun Q E q => q) (fun Q E q => q) (fun Q q => q) (fun Q q => q))), fun _ => (fun Q E q => q)⟩) (ev_lst a0 (line rfl)) fun Q q => neI1 q)
      have e4 := EvT.eq (or_v e1 fun _ => or_v e2 fun _ => e3) (bools3 _ _ _)
      cases hr : rowL R.length i r with
      | false =>
        unfold rowL at hr
        rw [hr] at e4
        exact seq_ifT e4 (ret_v (.bl false) (fun Q E q => q) (hno (by unfold rowL; rw [hr]; rfl) _))
      | true =>
      unfold rowL at hr
      rw [hr] at e4
      refine seq_ifF e4 ?_
      have e5 : EvT (dB (dOp rdNe (dOp rdIx (dVar 1) (dVar 3)) (dSortSet (dOp rdIx (dVar 1) (dVar 3))))) [Sl.d (lstR R), Sl.d (lstT T), Sl.d (.int (R.length : Nat)), Sl.d (.int (i : Nat)), Sl.d (rwIL r), Sl.no, c, Sl.no] (!decide (atT T i = sortU (atT T i))) := b_v (ev_op (x := rwSL (atT T i)) (y := rwSL (sortU (atT T i))) (ev_op (x := lstT T) (y := .int (i : Nat)) (fun Q E q => q) (fun Q E q => q) fun Q q => ⟨_, atI_T (Int.natCast_nonneg i) (by omega), q⟩) (ev_sortU (ss := atT T i) (ev_op (x := lstT T) (y := .int (i : Nat)) (fun Q E q => q) (fun Q E q => q) fun Q q => ⟨_, atI_T (Int.natCast_nonneg i) (by omega), q⟩) (by omega)) fun Q q => neS1 (atT_ok hokT) (fun a ha => atT_ok hokT a (sortU_mem.mp ha)) q)
      refine end_if _ e5 ?_
      cases ht : decide (atT T i = sortU (atT T i)) with
      | false =>
        show dRet (dC (.bl false)) N' _
        exact ret_v (.bl false) (fun Q E q => q) (hno (by rw [ht, Bool.and_false]) _)
      | true => exact hyes (by unfold rowL; rw [hr, ht]; rfl) _ ⟨_, _, _, rfl⟩
    · intro h ρ
      rw [h] at hq
      exact hq
    · rintro h ρ ⟨a, b, c, rfl⟩
      rw [h, Bool.true_and] at hq
      have hin : ∀ i : Nat, i < R.length → ∀ x ∈ atR R i, 0 ≤ x ∧ x < (R.length : Int) := fun i hi x hx => by
        have := List.all_eq_true.mp h i (List.mem_range.mpr hi)
        rw [Bool.and_eq_true] at this
        have h2 := this.1
        unfold rowL at h2
        rw [Bool.and_eq_true, decide_eq_true_iff, filter_nil] at h2
        have h3 := h2.2 x hx
        rw [Bool.and_eq_true, decide_eq_true_iff, decide_eq_true_iff] at h3
        exact h3
      dsimp only
      refine seq_for ((List.range R.length).map fun k : Nat => D.int (k : Nat)) (vRng2 (by omega) (fun Q E q => q)) ?_
      refine for_chk (fun k : Nat => D.int (k : Nat)) (fun i => (atR R i).all fun o => stepL R T i o) (fun ρ => ∃ a b c d e, ρ = [Sl.d (lstR R), Sl.d (lstT T), Sl.d (.int (R.length : Nat)), a, b, c, d, e]) (.bl false) (List.range R.length) _ ⟨_, _, _, _, _, rfl⟩ ?_ ?_ ?_
      · rintro i hi ρ ⟨a, b, c, d, e, rfl⟩
        have hi := List.mem_range.mp hi
        refine ⟨_, rfl, fun N' hno hyes => ?_⟩
        have exi0 : Ev (dOp rdIx (dVar 0) (dVar 3)) [Sl.d (lstR R), Sl.d (lstT T), Sl.d (.int (R.length : Nat)), Sl.d (.int (i : Nat)), b, c, d, e] (rwIL (atR R i)) := ev_op (x := lstR R) (y := .int (i : Nat)) (fun Q E q => q) (fun Q E q => q) fun Q q => ⟨_, atI_R (Int.natCast_nonneg i) (by omega), q⟩
        refine end_for ((atR R i).map D.int) (fun Q E q => exi0 _ _ q) ?_
        refine for_chk (fun o : Int => D.int o) (fun o => stepL R T i o) (fun ρ => ∃ b c d e, ρ = [Sl.d (lstR R), Sl.d (lstT T), Sl.d (.int (R.length : Nat)), Sl.d (.int (i : Nat)), b, c, d, e]) (.bl false) (atR R i) _ ⟨_, _, _, _, rfl⟩ ?_ (fun h ρ => hno h ρ) (fun h ρ s => by
          obtain ⟨b, c, d, e, rfl⟩ := s
          exact hyes h _ ⟨_, _, _, _, _, rfl⟩)
        rintro o ho ρ ⟨b, c, d, e, rfl⟩
        obtain ⟨g1, g2⟩ := hin i hi o ho
        have hol := mem_atR_len (R := R) (o := o) sm.r
        have htl := mem_atT_len (T := T) (o := (i : Int)) sm.t
        have exi : ∀ d e, Ev (dOp rdIx (dVar 0) (dVar 3)) [Sl.d (lstR R), Sl.d (lstT T), Sl.d (.int (R.length : Nat)), Sl.d (.int (i : Nat)), b, Sl.d (.int o), d, e] (rwIL (atR R i)) := fun d e => ev_op (x := lstR R) (y := .int (i : Nat)) (fun Q E q => q) (fun Q E q => q) fun Q q => ⟨_, atI_R (Int.natCast_nonneg i) (by omega), q⟩
        have exo : ∀ d e, Ev (dOp rdIx (dVar 0) (dVar 5)) [Sl.d (lstR R), Sl.d (lstT T), Sl.d (.int (R.length : Nat)), Sl.d (.int (i : Nat)), b, Sl.d (.int o), d, e] (rwIL (atR R o)) := fun d e => ev_op (x := lstR R) (y := .int o) (fun Q E q => q) (fun Q E q => q) fun Q q => ⟨_, atI_R g1 g2, q⟩
        have eyi : ∀ d e, Ev (dOp rdIx (dVar 1) (dVar 3)) [Sl.d (lstR R), Sl.d (lstT T), Sl.d (.int (R.length : Nat)), Sl.d (.int (i : Nat)), b, Sl.d (.int o), d, e] (rwSL (atT T i)) := fun d e => ev_op (x := lstT T) (y := .int (i : Nat)) (fun Q E q => q) (fun Q E q => q) fun Q q => ⟨_, atI_T (Int.natCast_nonneg i) (by omega), q⟩
        have eyo : ∀ d e, Ev (dOp rdIx (dVar 1) (dVar 5)) [Sl.d (lstR R), Sl.d (lstT T), Sl.d (.int (R.length : Nat)), Sl.d (.int (i : Nat)), b, Sl.d (.int o), d, e] (rwSL (atT T o)) := fun d e => ev_op (x := lstT T) (y := .int o) (fun Q E q => q) (fun Q E q => q) fun Q q => ⟨_, atI_T g1 (by omega), q⟩
        have c1 : EvT (dAnd (dB (dOp rdNe (dVar 5) (dVar 3))) (dB (dOp rdIn (dVar 3) (dOp rdIx (dVar 0) (dVar 5))))) [Sl.d (lstR R), Sl.d (lstT T), Sl.d (.int (R.length : Nat)), Sl.d (.int (i : Nat)), b, Sl.d (.int o), d, e] (!decide (o = (i : Int)) && decide ((i : Int) ∈ atR R o)) := and_v (b_v (ev_op (x := .int o) (y := .int (i : Nat)) (fun Q E q => q) (fun Q E q => q) fun Q q => q)) fun _ => b_v (ev_op (x := .int (i : Nat)) (y := rwIL (atR R o)) (fun Q E q => q) (exo _ _) fun Q q => in_intsL q)
        have c2 : EvT (dB (dOp rdNe (dLc (dIList (dOp rdIx (dVar 0) (dVar 5))) (.one 6) (dB (dOp rdNotIn (dVar 6) (dOp rdIx (dVar 0) (dVar 3)))) (dVar 6) [6]) (dLst dNil))) [Sl.d (lstR R), Sl.d (lstT T), Sl.d (.int (R.length : Nat)), Sl.d (.int (i : Nat)), b, Sl.d (.int o), d, e] (!decide (((atR R o).filter fun x => !decide (x ∈ atR R i)) = [])) := b_v (ev_op (x := rwIL ((atR R o).filter fun x => !decide (x ∈ atR R i))) (y := rwIL []) (ev_lcF (fun x => D.int x) (fun x => D.int x) (fun x => !decide (x ∈ atR R i)) (xs := atR R o) (fun Q E q => exo _ _ _ _ q) (size_small (by omega)) fun x hx => ⟨_, rfl, b_v (ev_op (x := .int x) (y := rwIL (atR R i)) (fun Q E q => q) (exi _ _) fun Q q => notIn_intsL q), fun _ => (fun Q E q => q)⟩) (ev_lst a0 (line rfl)) fun Q q => neI1 q)
        have c3 : EvT (dB (dOp rdNe (dLc (dIList (dOp rdIx (dVar 1) (dVar 3))) (.one 7) (dB (dOp rdNotIn (dVar 7) (dOp rdIx (dVar 1) (dVar 5)))) (dVar 7) [7]) (dLst dNil))) [Sl.d (lstR R), Sl.d (lstT T), Sl.d (.int (R.length : Nat)), Sl.d (.int (i : Nat)), b, Sl.d (.int o), d, e] (!decide (((atT T i).filter fun x => !decide (x ∈ atT T o)) = [])) := b_v (ev_op (x := rwSL ((atT T i).filter fun x => !decide (x ∈ atT T o))) (y := rwSL []) (ev_lcF (fun x => D.str x) (fun x => D.str x) (fun x => !decide (x ∈ atT T o)) (xs := atT T i) (fun Q E q => eyi _ _ _ _ q) (size_small (by omega)) fun x hx => ⟨_, rfl, b_v (ev_op (x := .str x) (y := rwSL (atT T o)) (fun Q E q => q) (eyo _ _) fun Q q => notIn_strsL q), fun _ => (fun Q E q => q)⟩) (ev_lst a0 (line rfl)) fun Q q => neS1 (fun a ha => atT_ok hokT a ((List.mem_filter.mp ha).1)) (fun a ha => by cases ha) q)
        refine ⟨_, rfl, fun N2 hno hyes => ?_⟩
        unfold stepL at hno hyes
        cases h1 : (!decide (o = (i : Int)) && decide ((i : Int) ∈ atR R o)) with
        | true =>
          rw [h1] at c1 hno
          exact seq_ifT c1 (ret_v (.bl false) (fun Q E q => q) (hno rfl _))
        | false =>
        rw [h1] at c1 hno hyes
        refine seq_ifF c1 ?_
        cases h2 : decide (((atR R o).filter fun x => !decide (x ∈ atR R i)) = []) with
        | false =>
          rw [h2] at c2 hno
          exact seq_ifT c2 (ret_v (.bl false) (fun Q E q => q) (hno rfl _))
        | true =>
        rw [h2] at c2 hno hyes
        refine seq_ifF c2 ?_
        refine end_if _ c3 ?_
        cases h3 : decide (((atT T i).filter fun x => !decide (x ∈ atT T o)) = []) with
        | false =>
          rw [h3] at hno
          show dRet (dC (.bl false)) N2 _
          exact ret_v (.bl false) (fun Q E q => q) (hno rfl _)
        | true =>
          rw [h3] at hyes
          exact hyes rfl _ ⟨_, _, _, _, rfl⟩
      · intro h ρ
        rw [h] at hq
        exact hq
      · rintro h ρ ⟨a, b, c, d, e, rfl⟩
        rw [h] at hq
        dsimp only
        exact ret_v (.bl true) (fun Q E q => q) hq
end K30
namespace K30
open PySem L2 FP
variable [FP.Tabl]
open KP
theorem ok__law_made_room {P : Program} {w : World} {mg : Gm} {base : Heap} {Z : Ads} (A : All mg Z) (G_Room___init__ : InitOk P w mg base 8 "Room" Z.a_Room 2 f_initRoom) : DefOk P w mg base 10 "_law_made_room" 1 f_madeW := by
  refine mkDef (N := ["_law_room_here", "_law_row"]) (ps := ["_law_room_here"]) A.d__law_made_room sc__law_made_room (fun _ _ _ _ _ _ us hl => match us, hl with | [_], _ => rfl) fun fa cdv Ar outer s H E hr => ⟨_,
    (dss_one (ds_ret (de_make A.kc_Room G_Room___init__ (fun _ => hr.mono (by omega)) (fun _ => pas (takes_of rfl rfl rfl rfl)) (da_cons (de_callTy ok_tuple A.n_tuple FP.boot_tuple (da_cons (de_lc (own := [("_law_row", 1)]) (fun _ => sc__law_made_room.nd) (di_list (de_dget (k := 0) (fun _ => hr.mono (by omega)) (de_var 0) de_str)) (fun _ => blkOk_by (by kernel_rfl)) (dg_name (i := 1) (fun _ => sc__law_made_room.nd)) dts_nil (de_callTy ok_tuple A.n_tuple FP.boot_tuple (da_cons (de_var 1) da_nil))) da_nil)) (da_cons (de_callTy ok_tuple A.n_tuple FP.boot_tuple (da_cons (de_lc (own := [("_law_row", 1)]) (fun _ => sc__law_made_room.nd) (di_list (de_dget (k := 0) (fun _ => hr.mono (by omega)) (de_var 0) de_str)) (fun _ => blkOk_by (by kernel_rfl)) (dg_name (i := 1) (fun _ => sc__law_made_room.nd)) dts_nil (de_callTy ok_tuple A.n_tuple FP.boot_tuple (da_cons (de_var 1) da_nil))) da_nil)) da_nil))))),  fun ds Q Ex hl hf => ?_⟩
  match ds, hl, hf with
  | [_], _, ⟨R, T, rfl, sm, hB, hq⟩ =>
    have e0 : startD 2 [roomD R T] = [Sl.d (roomD R T), Sl.no] := rfl
    have hnN : (["_law_room_here", "_law_row"] : List Str).length = 2 := rfl
    rw [hnN, e0]
    clear e0 hnN
    have hn := sm.n
    have hm := sm.m
    refine ret_v (roomO R T) (ev_make (fs := roomF R T) (ds := [tupR R, tupT T]) (a1 (ev_cb (a1 (d := .lst (R.map rwI)) (ev_lc rwIL rwI (xs := R) (fun Q E q => ev_dgR (T := T) (fun Q E q => q) _ _ q) (size_small (by omega)) fun r hr => ⟨_, rfl, ev_cb (a1 (d := rwIL r) (fun Q E q => q) a0) fun Q q => q⟩) a0) fun Q q => q) (a1 (ev_cb (a1 (d := .lst (T.map rwS)) (ev_lc rwSL rwS (xs := T) (fun Q E q => ev_dgT (R := R) (fun Q E q => q) _ _ q) (size_small (by omega)) fun r hr => ⟨_, rfl, ev_cb (a1 (d := rwSL r) (fun Q E q => q) a0) fun Q q => q⟩) a0) fun Q q => q) a0)) rfl fun Q E q => make_yes sm.tupR sm.tupT rfl rfl hB Q E q) hq
theorem ok__law_is_made {P : Program} {w : World} {mg : Gm} {base : Heap} {Z : Ads} (A : All mg Z) (G_Room___init__ : InitOk P w mg base 8 "Room" Z.a_Room 2 f_initRoom) (G_Room___len__ : SpecOk P w mg base 1 Z.a_Room "__len__" 1 (f_fldW fun R T => .int (R.length : Nat))) : DefOk P w mg base 10 "_law_is_made" 2 f_ismade := by
  refine mkDef (N := ["_law_reach", "_law_truths"]) (ps := ["_law_reach", "_law_truths"]) A.d__law_is_made sc__law_is_made (fun _ _ _ _ _ _ us hl => match us, hl with | [_, _], _ => rfl) fun fa cdv Ar outer s H E hr => ⟨_,
    (dss_one (ds_try (fun _ => ⟨rfl, rfl, .inl A.ex_InvalidRoom.nm⟩) A.cam_InvalidRoom (fun _ => takes_of rfl rfl rfl rfl) (fun W => (dss_one (ds_ret (de_cmp ok_gt (de_callB (ok_lenM A.kc_Room G_Room___len__ (fun _ => hr.mono (by omega))) A.n_len FP.boot_len (da_cons (de_make A.kc_Room G_Room___init__ (fun _ => hr.mono (by omega)) (fun j => pas j.2.1) (da_cons (de_var 0) (da_cons (de_var 1) da_nil))) da_nil)) de_int)))) (dss_one (ds_ret de_bl)))),  fun ds Q Ex hl hf => ?_⟩
  match ds, hl, hf with
  | [x, y], _, ⟨s1, s2, h1, h2⟩ =>
    have e0 : startD 2 [x, y] = [Sl.d (x), Sl.d (y)] := rfl
    have hnN : (["_law_reach", "_law_truths"] : List Str).length = 2 := rfl
    rw [hnN, e0]
    clear e0 hnN
    by_cases hx : ∃ R T, x = tupR R ∧ y = tupT T ∧ roomB R T = true
    · obtain ⟨R, T, rfl, rfl, hB⟩ := hx
      obtain ⟨p, _⟩ := roomB_iff.mp hB
      have hq := h1 R T rfl rfl hB
      exact ret_v (.bl true) (ev_op (x := .int (R.length : Nat)) (y := .int 0) (ev_cb (a1 (d := roomO R T) (ev_make (fs := roomF R T) (ds := [tupR R, tupT T]) (a1 (fun Q E q => q) (a1 (fun Q E q => q) a0)) rfl fun Q E q => make_yes s1 s2 rfl rfl hB Q E q) a0) fun Q q => lenW p.n60 q) (fun Q E q => q) fun Q q => by
        show Q (.bl (decide ((R.length : Int) > 0)))
        rw [decide_eq_true (by have := p.n1; omega)]
        exact q) hq
    · have hq := h2 hx
      exact (evX_op (evX_cb (evX_make (x := roomX) (ds := [x, y]) (a1 (fun Q E q => q) (a1 (fun Q E q => q) a0)) rfl fun Q E q => make_no s1 s2 hx Q E q))) _ _ ⟨List.mem_cons_of_mem _ List.mem_cons_self, by
        show bit (decide (("InvalidRoom" : Str) ∈ [("InvalidRoom" : Str)])) _ _
        rw [decide_eq_true List.mem_cons_self, bit_t]
        exact ret_v (.bl false) (fun Q E q => q) hq⟩
theorem ok__law_told_right {P : Program} {w : World} {mg : Gm} {base : Heap} {Z : Ads} (A : All mg Z) (G_Room___getitem__ : SpecOk P w mg base 6 Z.a_Room "__getitem__" 2 f_getW) (G_Room___len__ : SpecOk P w mg base 1 Z.a_Room "__len__" 1 (f_fldW fun R T => .int (R.length : Nat))) (G_Room___str__ : SpecOk P w mg base 1 Z.a_Room "__str__" 1 f_strW) (G_Room_atoms : PropOk P w mg base 1 Z.a_Room "atoms" f_atomsW) (G_Room_reach : PropOk P w mg base 1 Z.a_Room "reach" (f_fldW fun R T => tupR R)) (G_Room_truths : PropOk P w mg base 1 Z.a_Room "truths" (f_fldW fun R T => tupT T)) (G__law_made_room : DefOk P w mg base 10 "_law_made_room" 1 f_madeW) : DefOk P w mg base 12 "_law_told_right" 1 f_toldW := by
  refine mkDef (N := ["_law_room_here", "_law_told", "_law_size", "_law_atoms", "_law_row", "_law_at"]) (ps := ["_law_room_here"]) A.d__law_told_right sc__law_told_right (fun _ _ _ _ _ _ us hl => match us, hl with | [_], _ => rfl) fun fa cdv Ar outer s H E hr => ⟨_,
    (dss_cons (ds_asg (de_tup (da_cons (de_call G__law_made_room (fun _ => hr.mono (by omega)) (fun _ => pas (takes_of rfl rfl rfl rfl)) (da_cons (de_var 0) da_nil)) (da_cons (de_callB ok_len A.n_len FP.boot_len (da_cons (de_dget (k := 0) (fun _ => hr.mono (by omega)) (de_var 0) de_str) da_nil)) da_nil))) (dg_tup (dgs_cons (dg_name (i := 1) (fun _ => sc__law_told_right.nd)) (dgs_cons (dg_name (i := 2) (fun _ => sc__law_told_right.nd)) dgs_nil))))
    (dss_cons (ds_if (dt_w (dw_or (dt_cmp (ok_ne (fun _ => hr.r.units)) (de_lc (own := [("_law_row", 4)]) (fun _ => sc__law_told_right.nd) (di_tup (de_prop A.kc_Room G_Room_reach (fun _ => hr.mono (by omega)) (de_var 1))) (fun _ => blkOk_by (by kernel_rfl)) (dg_name (i := 4) (fun _ => sc__law_told_right.nd)) dts_nil (de_callTy (ok_list (by intro _; rfl) (fun _ => hr.r.hd)) A.n_list FP.boot_list (da_cons (de_var 4) da_nil))) (de_dget (k := 0) (fun _ => hr.mono (by omega)) (de_var 0) de_str)) (dw_or1 (dt_cmp (ok_ne (fun _ => hr.r.units)) (de_lc (own := [("_law_row", 4)]) (fun _ => sc__law_told_right.nd) (di_tup (de_prop A.kc_Room G_Room_truths (fun _ => hr.mono (by omega)) (de_var 1))) (fun _ => blkOk_by (by kernel_rfl)) (dg_name (i := 4) (fun _ => sc__law_told_right.nd)) dts_nil (de_callTy (ok_list (by intro _; rfl) (fun _ => hr.r.hd)) A.n_list FP.boot_list (da_cons (de_var 4) da_nil))) (de_dget (k := 0) (fun _ => hr.mono (by omega)) (de_var 0) de_str)))))
    (dss_one (ds_ret de_bl))
    dss_nil)
    (dss_cons (ds_set (i := 3) (de_lst da_nil) (fun _ => sc__law_told_right.nd))
    (dss_cons (ds_for (di_list (de_dget (k := 0) (fun _ => hr.mono (by omega)) (de_var 0) de_str)) (dg_name (i := 4) (fun _ => sc__law_told_right.nd))
    (dss_one (ds_set (i := 3) (de_op ok_add (de_var 3) (de_var 4)) (fun _ => sc__law_told_right.nd))) (fun _ => passes_of rfl))
    (dss_cons (ds_if (dt_w (dw_or (dt_cmp (ok_ne (fun _ => hr.r.units)) (de_callTy (ok_list (by intro _; rfl) (fun _ => hr.r.hd)) A.n_list FP.boot_list (da_cons (de_prop A.kc_Room G_Room_atoms (fun _ => hr.mono (by omega)) (de_var 1)) da_nil)) (de_sortSet (de_var 3) A.n_sorted A.n_set FP.boot_sorted FP.boot_set)) (dw_or1 (dt_cmp (ok_ne (fun _ => hr.r.units)) (de_callB (ok_lenM A.kc_Room G_Room___len__ (fun _ => hr.mono (by omega))) A.n_len FP.boot_len (da_cons (de_var 1) da_nil)) (de_var 2)))))
    (dss_one (ds_ret de_bl))
    dss_nil)
    (dss_cons (ds_if (dt_cmp (ok_ne (fun _ => hr.r.units)) (de_lc (own := [("_law_at", 5)]) (fun _ => sc__law_told_right.nd) (di_range1 A.n_range (da_cons (de_var 2) da_nil)) (fun _ => blkOk_by (by kernel_rfl)) (dg_name (i := 5) (fun _ => sc__law_told_right.nd)) dts_nil (de_ixM A.kc_Room G_Room___getitem__ (fun _ => hr.mono (by omega)) (de_var 1) (de_var 5))) (de_lz A.n_list A.n_zip (da_cons (de_prop A.kc_Room G_Room_reach (fun _ => hr.mono (by omega)) (de_var 1)) (da_cons (de_prop A.kc_Room G_Room_truths (fun _ => hr.mono (by omega)) (de_var 1)) da_nil))))
    (dss_one (ds_ret de_bl))
    dss_nil)
    (dss_one (ds_ret (de_cmp (ok_eq (fun _ => hr.r.units)) (de_callTy (ok_strM A.kc_Room G_Room___str__ (fun _ => hr.mono (by omega))) A.n_str FP.boot_str (da_cons (de_var 1) da_nil)) (de_op ok_add (de_op ok_add (de_op ok_add (de_callTy ok_str A.n_str FP.boot_str (da_cons (de_var 2) da_nil)) de_str) (de_callTy ok_str A.n_str FP.boot_str (da_cons (de_lenSet (de_var 3) A.n_len A.n_set FP.boot_len FP.boot_set) da_nil))) de_str)))))))))),  fun ds Q Ex hl hf => ?_⟩
  match ds, hl, hf with
  | [_], _, ⟨R, T, rfl, sm, hB, hq⟩ =>
    have e0 : startD 6 [roomD R T] = [Sl.d (roomD R T), Sl.no, Sl.no, Sl.no, Sl.no, Sl.no] := rfl
    have hnN : (["_law_room_here", "_law_told", "_law_size", "_law_atoms", "_law_row", "_law_at"] : List Str).length = 6 := rfl
    rw [hnN, e0]
    clear e0 hnN
    have hn := sm.n
    have hm := sm.m
    have hok := sm.ok
    obtain ⟨p, _⟩ := roomB_iff.mp hB
    have hlen := p.len
    have hfl := flatW_len hm sm.t
    have hsl := sortU_len T.flatten
    refine seq_as (ρ' := [Sl.d (roomD R T), Sl.d (roomO R T), Sl.d (.int (R.length : Nat)), Sl.no, Sl.no, Sl.no]) (.tup [roomO R T, .int (R.length : Nat)]) (ev_tup (a1 (ev_call (a1 (fun Q E q => q) a0) rfl fun Q E q => ⟨R, T, rfl, sm, hB, q⟩) (a1 (Ev.eq (vLenL (xs := R.map rwIL) (ev_dgR (T := T) (fun Q E q => q))) (by rw [List.length_map])) a0)) (line rfl)) rfl ?_
    have epR : ∀ a b c, Ev (dProp "Room" (f_fldW fun R T => tupR R) (dVar 1)) [Sl.d (roomD R T), Sl.d (roomO R T), Sl.d (.int (R.length : Nat)), a, b, c] (tupR R) := fun a b c => ev_prop (fs := roomF R T) (fun Q E q => q) fun Q q => ⟨R, T, rfl, q⟩
    have epT : ∀ a b c, Ev (dProp "Room" (f_fldW fun R T => tupT T) (dVar 1)) [Sl.d (roomD R T), Sl.d (roomO R T), Sl.d (.int (R.length : Nat)), a, b, c] (tupT T) := fun a b c => ev_prop (fs := roomF R T) (fun Q E q => q) fun Q q => ⟨R, T, rfl, q⟩
    refine seq_ifF (or_f (b_v (ev_op (x := lstR R) (y := lstR R) (ev_lc rwI rwIL (xs := R) (fun Q E q => epR _ _ _ _ _ q) (size_small (by omega)) fun r hr => ⟨_, rfl, ev_cb (a1 (d := rwI r) (fun Q E q => q) a0) fun Q q => q⟩) (ev_dgR (T := T) (fun Q E q => q)) fun Q q => neLR (by rw [decide_eq_true rfl]; exact q))) (b_v (ev_op (x := lstT T) (y := lstT T) (ev_lc rwS rwSL (xs := T) (fun Q E q => epT _ _ _ _ _ q) (size_small (by omega)) fun r hr => ⟨_, rfl, ev_cb (a1 (d := rwS r) (fun Q E q => q) a0) fun Q q => q⟩) (ev_dgT (R := R) (fun Q E q => q)) fun Q q => neLT hok hok (by rw [decide_eq_true rfl]; exact q)))) ?_
    refine seq_v (.lst []) (ev_lst a0 (line rfl)) ?_
    refine seq_for (T.map rwSL) (fun Q E q => ev_dgT (R := R) (fun Q E q => q) _ _ q) ?_
    refine for_of rwSL (fun done ρ => ∃ a, ρ = [Sl.d (roomD R T), Sl.d (roomO R T), Sl.d (.int (R.length : Nat)), Sl.d (rwSL done.flatten), a, Sl.no]) T [] _ ⟨_, rfl⟩ ?_ ?_
    · rintro r pre post he ρ K ⟨a, rfl⟩ hK
      have hle : pre.flatten.length + r.length ≤ T.flatten.length := by
        have e : T = pre ++ r :: post := he
        rw [e, List.flatten_append, List.flatten_cons, List.length_append, List.length_append]
        omega
      refine ⟨_, rfl, end_v (rwSL (pre.flatten ++ r)) (ev_op (x := rwSL pre.flatten) (y := rwSL r) (fun Q E q => q) (fun Q E q => q) fun Q q => ⟨by rw [List.length_map, List.length_map]; exact Nat.le_trans hle (Nat.le_trans (Nat.le_of_lt hfl) (by decide)), by
        rw [← List.map_append]
        exact q⟩) (hK _ ⟨Sl.d (rwSL r), ?_⟩)⟩
      rw [List.flatten_append, List.flatten_cons, List.flatten_nil, List.append_nil]
      rfl
    rintro ρ ⟨a, rfl⟩
    rw [List.nil_append]
    dsimp only
    have hso : ∀ a ∈ sortU T.flatten, PyData.strOk a = true := fun a ha => by
      obtain ⟨r, hr, har⟩ := List.mem_flatten.mp (sortU_mem.mp ha)
      exact hok r hr a har
    refine seq_ifF (or_f (b_v (ev_op (x := rwSL (sortU T.flatten)) (y := rwSL (sortU T.flatten)) (vLstT (ev_prop (fs := roomF R T) (fun Q E q => q) fun Q q => ⟨R, T, rfl, hm, sm.t, q⟩)) (ev_sortU (ss := T.flatten) (fun Q E q => q) hfl) fun Q q => neS1 hso hso (by rw [decide_eq_true rfl]; exact q))) (EvT.eq (vNeN (a := R.length) (c := R.length) (ev_cb (a1 (d := roomO R T) (fun Q E q => q) a0) fun Q q => lenW hn q) (fun Q E q => q)) (by rw [decide_eq_true rfl]; rfl))) ?_
    have hpo : ∀ p ∈ R.zip T, ∀ a ∈ p.2, PyData.strOk a = true := fun p hp => hok _ (List.of_mem_zip hp).2
    refine seq_ifF (b_v (ev_op (x := .lst ((R.zip T).map fun p : List Int × List Str => D.tup [rwI p.1, rwS p.2])) (y := .lst ((R.zip T).map fun p : List Int × List Str => D.tup [rwI p.1, rwS p.2])) (Ev.eq (ev_lc (fun k : Nat => D.int (k : Nat)) (fun k => D.tup [rwI (atR R k), rwS (atT T k)]) (xs := List.range R.length) (vRng2 (by omega) (fun Q E q => q)) (by rw [List.length_range]; exact size_small (by omega)) fun k hk => ⟨_, rfl, ev_op (x := roomO R T) (y := .int (k : Nat)) (fun Q E q => q) (fun Q E q => q) fun Q q => ixW sm hlen (Int.natCast_nonneg k) (by have := List.mem_range.mp hk; omega) q⟩) (by rw [← zip_range hlen, List.map_map]; rfl)) (Ev.eq (ev_lzT (epR _ _ _) (epT _ _ _) (by rw [List.length_map]; omega)) (by rw [zipD_map])) fun Q q => nePairs hpo hpo (by rw [decide_eq_true rfl]; exact q))) ?_
    exact ret_v (.bl true) (ev_op (x := .str (tellW R.length (sortU T.flatten).length)) (y := .str (tellW R.length (sortU T.flatten).length)) (ev_cb (a1 (d := roomO R T) (fun Q E q => q) a0) fun Q q => strW sm q) (ev_tellS (by omega) (by omega) (fun Q E q => q) (fun Q E q => ⟨T.flatten, strsD_map _, hfl, q⟩)) fun Q q => eq_str (by rw [decide_eq_true rfl]; exact q)) hq
end K30
namespace K30
open PySem L2 FP
variable [FP.Tabl]
open KP
theorem ok__law_room_turned {P : Program} {w : World} {mg : Gm} {base : Heap} {Z : Ads} (A : All mg Z) : DefOk P w mg base 1 "_law_room_turned" 3 f_turned := by
  refine mkDef (N := ["_law_order", "_law_reach", "_law_truths", "_law_found", "_law_world", "_law_one"]) (ps := ["_law_order", "_law_reach", "_law_truths"]) A.d__law_room_turned sc__law_room_turned (fun _ _ _ _ _ _ us hl => match us, hl with | [_, _, _], _ => rfl) fun fa cdv Ar outer s H E hr => ⟨_,
    (dss_cons (ds_setDL (i := 3) (do_lst da_nil) (do_lst da_nil) (fun _ => sc__law_room_turned.nd))
    (dss_cons (ds_for (di_list (de_var 0)) (dg_name (i := 4) (fun _ => sc__law_room_turned.nd))
    (dss_cons (ds_o2App 3 (u := 0) (fun _ => hr.mono (by omega)) de_str (de_callB ok_sortI A.n_sorted FP.boot_sorted (da_cons (de_lc (own := [("_law_one", 5)]) (fun _ => sc__law_room_turned.nd) (di_list (de_ix (de_var 1) (de_var 4))) (fun _ => blkOk_by (by kernel_rfl)) (dg_name (i := 5) (fun _ => sc__law_room_turned.nd)) dts_nil (de_indexI (de_var 0) (de_var 5) (fun _ _ _ h h2 => pe_bm PySem.F.plainAttrs_list PySem.F.slot_list_index PySem.F.type_list_index mt_index h (pa_cons h2 pa_nil)))) da_nil)) (fun _ _ _ hu h h2 => ps_expr (pe_bm PySem.F.plainAttrs_list PySem.F.slot_list_append PySem.F.type_list_append mt_append (pe_dget hu (pv 3) h (fun _ _ => rfl)) (pa_cons h2 pa_nil))))
    (dss_one (ds_o2App 3 (u := 0) (fun _ => hr.mono (by omega)) de_str (de_callTy (ok_list (by intro _; rfl) (fun _ => hr.r.hd)) A.n_list FP.boot_list (da_cons (de_ix (de_var 2) (de_var 4)) da_nil)) (fun _ _ _ hu h h2 => ps_expr (pe_bm PySem.F.plainAttrs_list PySem.F.slot_list_append PySem.F.type_list_append mt_append (pe_dget hu (pv 3) h (fun _ _ => rfl)) (pa_cons h2 pa_nil)))))) (fun _ => passes_of rfl))
    (dss_one (ds_upD 3 (ds_frzD 3 (ds_ret (de_var 3))))))),  fun ds Q Ex hl hf => ?_⟩
  match ds, hl, hf with
  | [.lst _, _, _], _, ⟨os, R, T, rfl, rfl, rfl, o, p, hq⟩ =>
    have e0 : startD 6 [.lst (os.map .int), lstR R, lstT T] = [Sl.d (.lst (os.map .int)), Sl.d (lstR R), Sl.d (lstT T), Sl.no, Sl.no, Sl.no] := rfl
    have hnN : (["_law_order", "_law_reach", "_law_truths", "_law_found", "_law_world", "_law_one"] : List Str).length = 6 := rfl
    rw [hnN, e0]
    clear e0 hnN
    have hn := p.n60
    have hlen := p.len
    have hol := o.len
    refine ⟨Nat.zero_le _, Nat.zero_le _, fun as => ?_⟩
    dsimp only
    refine seq_for (os.map D.int) (fun Q E q => q) ?_
    refine for_of D.int (fun done ρ => ∃ as a, ρ = [Sl.d (.lst (os.map .int)), Sl.d (lstR R), Sl.d (lstT T), Sl.o2 as (.dl [(.inr "reach", (done.map fun o => sortI ((atR R o).map fun x => ((idxO os x : Nat) : Int))).map rwIL), (.inr "truths", (turnT done T).map rwSL)]), a, Sl.no]) os [] _ ⟨_, _, rfl⟩ ?_ ?_
    · rintro y pre post he ρ K ⟨as, a, rfl⟩ hK
      have he2 : os = pre ++ y :: post := he
      have hy : y ∈ os := by rw [he2]; simp
      have hpl : pre.length ≤ 60 := by
        have := congrArg List.length he2
        rw [List.length_append, List.length_cons] at this
        omega
      obtain ⟨g0, g1⟩ := (o.mem y).mp hy
      have hrl : (atR R y).length ≤ 60 := by
        have h := asc_len (p.asc y.toNat (by omega)) (p.rng y.toNat (by omega))
        rw [Int.toNat_of_nonneg g0] at h
        omega
      refine ⟨_, rfl, ?_⟩
      refine seq_o2App (.str "reach") (.inr "reach") 0 ((pre.map fun o => sortI ((atR R o).map fun x => ((idxO os x : Nat) : Int))).map rwIL) (rwIL (sortI ((atR R y).map fun x => ((idxO os x : Nat) : Int)))) rfl (fun Q E q => q) rfl rfl (fun m hm => by cases hm) rfl (ev_cb (a1 (d := .lst (((atR R y).map fun x => ((idxO os x : Nat) : Int)).map .int)) (Ev.eq (ev_lc (fun x => D.int x) (fun x => D.int ((idxO os x : Nat) : Int)) (xs := atR R y) (fun Q E q => ⟨rwIL (atR R y), atI_R g0 g1, q⟩) (size_small (by omega)) fun x hx => ⟨_, rfl, fun Q E q => ⟨os, idxO os x, intsD_map os, idxO_get ((o.mem x).mpr (p.rngI g0 g1 x hx)), fun m hm => idxO_first hm, q⟩⟩) (by rw [List.map_map]; rfl)) a0) fun Q q => ⟨_, intsD_map _, q⟩) (by rw [List.length_map, List.length_map]; exact Nat.lt_of_le_of_lt hpl (by decide)) ?_
      refine end_o2App (.str "truths") (.inr "truths") 1 ((turnT pre T).map rwSL) (rwSL (atT T y)) rfl (fun Q E q => q) rfl rfl (fun m hm => ?_) rfl (ev_cb (a1 (d := rwSL (atT T y)) (ev_op (x := lstT T) (y := .int y) (fun Q E q => q) (fun Q E q => q) fun Q q => ⟨_, atI_T g0 (by omega), q⟩) a0) fun Q q => q) (by unfold turnT; rw [List.length_map, List.length_map]; exact Nat.lt_of_le_of_lt hpl (by decide)) ?_
      · have : m = 0 := by omega
        subst this
        show some (Sum.inr ("reach" : Str) : Key) ≠ some (Sum.inr ("truths" : Str) : Key)
        intro h
        exact absurd (Sum.inr.inj (Option.some.inj h)) (by decide +kernel)
      refine hK _ ⟨as, Sl.d (.int y), ?_⟩
      unfold turnT
      rw [List.map_append, List.map_append, List.map_append, List.map_append]
      rfl
    rintro ρ ⟨as, a, rfl⟩
    dsimp only
    refine upD rfl (frzD rfl ?_)
    exact ret_v (roomD (turnR os R) (turnT os T)) (fun Q E q => q) hq
theorem ok__law_room {P : Program} {w : World} {mg : Gm} {base : Heap} {Z : Ads} (A : All mg Z) (G__law_roll : DefOk P w mg base 1 "_law_roll" 2 f_roll) (G__law_room_turned : DefOk P w mg base 1 "_law_room_turned" 3 f_turned) (G__law_some : DefOk P w mg base 2 "_law_some" 3 f_some) : DefOk P w mg base 5 "_law_room" 2 f_drawnR := by
  refine mkDef (N := ["_law_dice_here", "_law_atoms", "_law_size", "_law_reach", "_law_truths", "_law_world", "_law_found", "_law_other", "_law_above", "_law_let", "_law_one", "_law_atom"]) (ps := ["_law_dice_here", "_law_atoms"]) A.d__law_room sc__law_room (fun _ _ _ _ _ _ us hl => match us, hl with | [_, _], _ => rfl) fun fa cdv Ar outer s H E hr => ⟨_,
    (dss_cons (ds_set (i := 2) (de_op ok_add de_int (de_call G__law_roll (fun _ => hr.mono (by omega)) (fun _ => pas (takes_of rfl rfl rfl rfl)) (da_cons (de_var 0) (da_cons de_int da_nil)))) (fun _ => sc__law_room.nd))
    (dss_cons (ds_par22c (i := 3) (j := 4) (do2_lc (own := [("_law_world", 5)]) (fun _ => sc__law_room.nd) (di_range1 A.n_range (da_cons (de_var 2) da_nil)) (fun _ => blkOk_by (by kernel_rfl)) (dg_name (i := 5) (fun _ => sc__law_room.nd)) (do_lst da_nil)) (do2_lc (own := [("_law_world", 5)]) (fun _ => sc__law_room.nd) (di_range1 A.n_range (da_cons (de_var 2) da_nil)) (fun _ => blkOk_by (by kernel_rfl)) (dg_name (i := 5) (fun _ => sc__law_room.nd)) (do_lst da_nil)) (fun _ => sc__law_room.nd))
    (dss_cons (ds_up 4 (ds_up 3 (ds_for (di_range3 A.n_range (da_cons (de_op ok_sub (de_var 2) de_int) (da_cons (de_neg de_int) (da_cons (de_neg de_int) da_nil)))) (dg_name (i := 5) (fun _ => sc__law_room.nd))
    (dss_cons (ds_set (i := 6) (de_lst (da_cons (de_var 5) da_nil)) (fun _ => sc__law_room.nd))
    (dss_cons (ds_for (di_range2 A.n_range (da_cons (de_op ok_add (de_var 5) de_int) (da_cons (de_var 2) da_nil))) (dg_name (i := 7) (fun _ => sc__law_room.nd))
    (dss_one (ds_if (dt_cmp (ok_eq (fun _ => hr.r.units)) (de_call G__law_roll (fun _ => hr.mono (by omega)) (fun _ => pas (takes_of rfl rfl rfl rfl)) (da_cons (de_var 0) (da_cons de_int da_nil))) de_int)
    (dss_one (ds_set (i := 6) (de_op ok_add (de_var 6) (de_lc (own := [("_law_one", 10)]) (fun _ => sc__law_room.nd) (di_list (de_ownIx 3 (de_var 7))) (fun _ => blkOk_by (by kernel_rfl)) (dg_name (i := 10) (fun _ => sc__law_room.nd)) (dts_one (dt_cmp ok_notIn (de_var 10) (de_var 6))) (de_var 10))) (fun _ => sc__law_room.nd)))
    dss_nil)) (fun _ => passes_of rfl))
    (dss_cons (ds_ownSet 3 (de_var 5) (de_callB ok_sortI A.n_sorted FP.boot_sorted (da_cons (de_var 6) da_nil)) (fun _ _ _ h h2 => ps_asg h2 (pg_sub (pv 3) h set_list)))
    (dss_cons (ds_set (i := 8) (de_lc (own := [("_law_one", 10)]) (fun _ => sc__law_room.nd) (di_list (de_ownIx 3 (de_var 5))) (fun _ => blkOk_by (by kernel_rfl)) (dg_name (i := 10) (fun _ => sc__law_room.nd)) (dts_one (dt_cmp (ok_ne (fun _ => hr.r.units)) (de_var 10) (de_var 5))) (de_var 10)) (fun _ => sc__law_room.nd))
    (dss_cons (ds_setLc (i := 9) (own := [("_law_atom", 11)]) (fun _ => sc__law_room.nd) (di_list (de_var 1)) (fun _ => blkOk_by (by kernel_rfl)) (dg_name (i := 11) (fun _ => sc__law_room.nd)) (dts_one (dt_cmp (ok_eq (fun _ => hr.r.units)) (de_lc (own := [("_law_one", 10)]) (fun _ => sc__law_room.nd) (di_list (de_var 8)) (fun _ => blkOk_by (by kernel_rfl)) (dg_name (i := 10) (fun _ => sc__law_room.nd)) (dts_one (dt_cmp ok_notIn (de_var 11) (de_ownIx 4 (de_var 10)))) (de_var 10)) (de_lst da_nil))) (de_var 11) (fun _ => sw_true rfl rfl rfl (by decide +kernel)))
    (dss_one (ds_ownSet 4 (de_var 5) (de_callB ok_sorted A.n_sorted FP.boot_sorted (da_cons (de_lc (own := [("_law_atom", 11)]) (fun _ => sc__law_room.nd) (di_list (de_var 9)) (fun _ => blkOk_by (by kernel_rfl)) (dg_name (i := 11) (fun _ => sc__law_room.nd)) (dts_one (dt_cmp ok_gt (de_call G__law_roll (fun _ => hr.mono (by omega)) (fun _ => pas takes0) (da_cons (de_var 0) (da_cons de_int da_nil))) de_int)) (de_var 11)) da_nil)) (fun _ _ _ h h2 => ps_asg h2 (pg_sub (pv 4) h set_list))))))))) (fun _ => passes_of rfl))))
    (dss_one (ds_frz2 4 (ds_frz2 3 (ds_ret (de_call G__law_room_turned (fun _ => hr.mono (by omega)) (fun _ => pas (takes_of rfl rfl rfl rfl)) (da_cons (de_call G__law_some (fun _ => hr.mono (by omega)) (fun _ => pas (takes_of rfl rfl rfl rfl)) (da_cons (de_var 0) (da_cons (de_listRg (de_var 2) A.n_list A.n_range) (da_cons (de_var 2) da_nil)))) (da_cons (de_var 3) (da_cons (de_var 4) da_nil))))))))))),  fun ds Q Ex hl hf => ?_⟩
  match ds, hl, hf with
  | [.tok, _], _, ⟨as, rfl, A, hq⟩ =>
    have e0 : startD 12 [.tok, .lst (as.map .str)] = [Sl.d (.tok), Sl.d (.lst (as.map .str)), Sl.no, Sl.no, Sl.no, Sl.no, Sl.no, Sl.no, Sl.no, Sl.no, Sl.no, Sl.no] := rfl
    have hnN : (["_law_dice_here", "_law_atoms", "_law_size", "_law_reach", "_law_truths", "_law_world", "_law_found", "_law_other", "_law_above", "_law_let", "_law_one", "_law_atom"] : List Str).length = 12 := rfl
    rw [hnN, e0]
    clear e0 hnN
    have hal := A.len
    refine seq_p (fun d => ∃ n : Nat, d = .int (n : Nat) ∧ 1 ≤ n ∧ n ≤ 5) (fun Q E q => ⟨rfl, ⟨by decide, by decide⟩, fun r h0 h1 => q _ ⟨(1 + r).toNat, by rw [Int.toNat_of_nonneg (by omega)], by omega, by omega⟩⟩) ?_
    rintro _ ⟨n, rfl, n1, n5⟩
    refine seq_par22 ((List.range n).map fun _ => []) ((List.range n).map fun _ => []) (ev_lcL (fun k : Nat => D.int (k : Nat)) (fun _ => []) (xs := List.range n) (vRng2 (by omega) (fun Q E q => q)) (by rw [List.length_range]; exact size_small (by omega)) fun x hx => ⟨_, rfl, fun Q E q => ⟨Nat.zero_le _, q⟩⟩) (ev_lcL (fun k : Nat => D.int (k : Nat)) (fun _ => []) (xs := List.range n) (vRng2 (by omega) (fun Q E q => q)) (by rw [List.length_range]; exact size_small (by omega)) fun x hx => ⟨_, rfl, fun Q E q => ⟨Nat.zero_le _, q⟩⟩) fun ads bds => ?_
    refine seq_up rfl (seq_up rfl ?_)
    refine seq_for (rangeC ((n : Int) - 1) (-1) n) (fun Q E q => ⟨rfl, ⟨by omega, by omega, by omega, by omega⟩, by
      rw [show ((n : Int) - 1 - -1).toNat = n by omega]
      exact q⟩) ?_
    have e0 : ((List.range n).map fun _ => ([] : List D)).map D.lst = ((List.range n).map fun _ => ([] : List Int)).map rwIL := by
      rw [List.map_map, List.map_map]
      rfl
    have e1 : ((List.range n).map fun _ => ([] : List D)).map D.lst = ((List.range n).map fun _ => ([] : List Str)).map rwSL := by
      rw [List.map_map, List.map_map]
      rfl
    unfold rangeC
    refine for_of (fun i : Nat => D.int ((n : Int) - 1 + (i : Int) * -1)) (fun done ρ => ∃ R T a b c d e, ρ = [Sl.d .tok, Sl.d (.lst (as.map .str)), Sl.d (.int (n : Nat)), Sl.own (R.map rwIL), Sl.own (T.map rwSL), a, b, c, d, e, Sl.no, Sl.no] ∧ Part n as (n - done.length) R T) (List.range n) [] _ ⟨(List.range n).map fun _ => [], (List.range n).map fun _ => [], _, _, _, _, _, by rw [← e0, ← e1]; rfl, Part.start (by rw [List.length_map, List.length_range]) (by rw [List.length_map, List.length_range])⟩ ?_ ?_
    · rintro i pre post he ρ K ⟨R, T, a, b, c, d, e, rfl, p⟩ hK
      obtain ⟨hi, hp⟩ := range_at he
      obtain ⟨w, hw⟩ : ∃ w : Nat, n - pre.length = w + 1 := ⟨n - pre.length - 1, by omega⟩
      rw [hw] at p
      have hwn : w < n := by omega
      have ew : (n : Int) - 1 + (i : Int) * -1 = (w : Int) := by omega
      dsimp only
      rw [ew]
      have lR := p.lr
      have lT := p.lt
      refine ⟨_, rfl, ?_⟩
      refine seq_v (rwIL [(w : Int)]) (ev_lst (a1 (fun Q E q => q) a0) (line rfl)) ?_
      refine seq_for ((List.range (n - (w + 1))).map fun k : Nat => D.int (((w : Int) + 1) + (k : Int))) (fun Q E q => ⟨⟨by omega, by omega⟩, by
        rw [show ((n : Int) - ((w : Int) + 1)).toNat = n - (w + 1) by omega]
        exact q⟩) ?_
      refine forD_inv (fun ρ => ∃ found c d e, ρ = [Sl.d .tok, Sl.d (.lst (as.map .str)), Sl.d (.int (n : Nat)), Sl.own (R.map rwIL), Sl.own (T.map rwSL), Sl.d (.int (w : Nat)), Sl.d (rwIL found), c, d, e, Sl.no, Sl.no] ∧ Fnd n w R found) _ _ ⟨_, _, _, _, rfl, Fnd.one hwn⟩ ?_ ?_
      · rintro x hx ρ K ⟨found, c, d, e, rfl, f⟩ hK
        obtain ⟨k, hk, rfl⟩ := List.mem_map.mp hx
        have hk := List.mem_range.mp hk
        have ho : ((w : Int) + 1) + (k : Int) = ((w + 1 + k : Nat) : Int) := by omega
        rw [ho]
        generalize hom : w + 1 + k = om
        have o1 : w < om := by omega
        have o2 : om < n := by omega
        refine ⟨_, rfl, ?_⟩
        refine ⟨rfl, ⟨by decide, by decide⟩, fun r h0 h1 => ?_⟩
        show bit (decide (r = 0)) _ _
        by_cases hr : r = 0
        case neg =>
          rw [decide_eq_false hr, bit_f]
          exact hK _ ⟨_, _, _, _, rfl, f⟩
        rw [decide_eq_true hr, bit_t]
        have hfl := f.len
        have hrow : (atR R (om : Int)).length ≤ n := asc_len (p.asc om o1 o2) fun x hx => by have := p.rng om o1 o2 x hx; omega
        refine end_v (rwIL (found ++ (atR R (om : Int)).filter fun x => !decide (x ∈ found))) (ev_op (x := rwIL found) (y := rwIL ((atR R (om : Int)).filter fun x => !decide (x ∈ found))) (fun Q E q => q) (ev_lcF (fun x => D.int x) (fun x => D.int x) (fun x => !decide (x ∈ found)) (xs := atR R (om : Int)) (fun Q E q => ev_ownIx (d := rwIL (atR R (om : Int))) rfl (m := (om : Nat)) (fun Q E q => q) (atI_R (Int.natCast_nonneg om) (by omega)) _ _ q) (size_small (by omega)) fun x hx => ⟨_, rfl, b_v (ev_op (x := .int x) (y := rwIL found) (fun Q E q => q) (fun Q E q => q) fun Q q => notIn_intsL q), fun _ => (fun Q E q => q)⟩) fun Q q => ⟨by
          have := List.length_filter_le (fun x => !decide (x ∈ found)) (atR R (om : Int))
          rw [List.length_map, List.length_map]
          exact size_small (by omega), by
          rw [← List.map_append]
          exact q⟩) (hK _ ⟨_, _, _, _, rfl, f.more p o1 o2⟩)
      rintro ρ ⟨found, c, d, e, rfl, f⟩
      dsimp only
      have hfl := f.len
      have hsl : (sortI found).length ≤ n := by rw [(sortI_perm found).length_eq]; exact hfl
      refine seq_ownSet (m := (w : Nat)) (n := w) (d := rwIL (sortI found)) rfl (ev_cb (a1 (d := rwIL found) (fun Q E q => q) a0) fun Q q => ⟨found, intsD_map found, q⟩) (fun Q E q => q) (by rw [List.length_map]; exact ixN_nat (by omega)) ?_
      have es : ∀ (c d e : Sl), ([Sl.d .tok, Sl.d (.lst (as.map .str)), Sl.d (.int (n : Nat)), Sl.own (R.map rwIL), Sl.own (T.map rwSL), Sl.d (.int (w : Nat)), Sl.d (rwIL found), c, d, e, Sl.no, Sl.no] : FP.Env).set 3 (.own ((R.map rwIL).set w (rwIL (sortI found)))) = [Sl.d .tok, Sl.d (.lst (as.map .str)), Sl.d (.int (n : Nat)), Sl.own ((R.set w (sortI found)).map rwIL), Sl.own (T.map rwSL), Sl.d (.int (w : Nat)), Sl.d (rwIL found), c, d, e, Sl.no, Sl.no] := fun c d e => by
        rw [List.map_set]
        rfl
      rw [es]
      have lR2 : (R.set w (sortI found)).length = n := by rw [List.length_set, lR]
      have hself : atR (R.set w (sortI found)) (w : Int) = sortI found := by rw [atR_set (by omega) (Int.natCast_nonneg w), if_pos rfl]
      have hat : atI ((R.set w (sortI found)).map rwIL) (w : Int) = some (rwIL (sortI found)) := by
        have h := atI_R (R := R.set w (sortI found)) (e := rwIL) (o := (w : Int)) (Int.natCast_nonneg w) (by omega)
        rw [hself] at h
        exact h
      refine seq_v (rwIL ((sortI found).filter fun x => !decide (x = (w : Int)))) (ev_lcF (fun x => D.int x) (fun x => D.int x) (fun x => !decide (x = (w : Int))) (xs := sortI found) (fun Q E q => ev_ownIx (d := rwIL (sortI found)) rfl (m := (w : Nat)) (fun Q E q => q) hat _ _ q) (size_small (by omega)) fun x hx => ⟨_, rfl, b_v (ev_op (x := .int x) (y := .int (w : Nat)) (fun Q E q => q) (fun Q E q => q) fun Q q => q), fun _ => (fun Q E q => q)⟩) ?_
      have hab : ∀ x ∈ (sortI found).filter (fun x => !decide (x = (w : Int))), x ∈ found ∧ x ≠ (w : Int) := fun x hx => by
        obtain ⟨h1, h2⟩ := List.mem_filter.mp hx
        exact ⟨sortI_mem.mp h1, by simpa using h2⟩
      have habl := List.length_filter_le (fun x => !decide (x = (w : Int))) (sortI found)
      have hba : ∀ x ∈ found, x ≠ (w : Int) → x ∈ (sortI found).filter (fun x => !decide (x = (w : Int))) := fun x hx hne => List.mem_filter.mpr ⟨sortI_mem.mpr hx, by simpa using hne⟩
      generalize (sortI found).filter (fun x => !decide (x = (w : Int))) = above at hab habl hba
      refine seq_v (rwSL (as.filter fun a => decide ((above.filter fun x => !decide (a ∈ atT T x)) = []))) (ev_lcF (fun a => D.str a) (fun a => D.str a) (fun a => decide ((above.filter fun x => !decide (a ∈ atT T x)) = [])) (xs := as) (fun Q E q => q) (size_small (by omega)) fun a ha => ⟨_, rfl, b_v (ev_op (x := rwIL (above.filter fun x => !decide (a ∈ atT T x))) (y := rwIL []) (ev_lcF (fun x => D.int x) (fun x => D.int x) (fun x => !decide (a ∈ atT T x)) (xs := above) (fun Q E q => q) (size_small (by omega)) fun x hx => ⟨_, rfl, b_v (ev_op (x := .str a) (y := rwSL (atT T x)) (fun Q E q => q) (ev_ownIx (d := rwSL (atT T x)) rfl (m := x) (fun Q E q => q) (by have := f.rng x (hab x hx).1; exact atI_T (R := T) (by omega) (by have := (f.rng x (hab x hx).1).2; omega))) fun Q q => notIn_strsL q), fun _ => (fun Q E q => q)⟩) (ev_lst a0 (line rfl)) fun Q q => eqI1 q), fun _ => (fun Q E q => q)⟩) ?_
      refine end_ownSetP (fun d => ∃ ts : List Str, ts.Sublist (as.filter fun a => decide ((above.filter fun x => !decide (a ∈ atT T x)) = [])) ∧ d = rwSL (sortS ts)) (xs := T.map rwSL) rfl ?_ (m := (w : Nat)) (n := w) (fun Q E q => q) (by rw [List.length_map]; exact ixN_nat (by omega)) ?_
      · have hl3 := List.length_filter_le (fun a => decide ((above.filter fun x => !decide (a ∈ atT T x)) = [])) as
        refine evP_cb (ev_lcSub (fun a => D.str a) (xs := as.filter fun a => decide ((above.filter fun x => !decide (a ∈ atT T x)) = [])) (fun Q E q => q) (size_small (by omega)) (fun a ha => ⟨_, rfl, fun Q E q => ⟨rfl, ⟨by decide, by decide⟩, fun r h0 h1 => q _⟩, (fun Q E q => q)⟩)) ?_
        rintro _ ⟨ts, hs, rfl⟩ Q q
        exact ⟨ts, strsD_map ts, q _ ⟨ts, hs, rfl⟩⟩
      rintro _ ⟨ts, hs, rfl⟩
      have hmem : ∀ a ∈ ts, a ∈ as ∧ ∀ x ∈ above, a ∈ atT T x := fun a ha => by
        obtain ⟨h1, h2⟩ := List.mem_filter.mp (hs.subset ha)
        rw [decide_eq_true_iff, filter_nil] at h2
        exact ⟨h1, fun x hx => by simpa using h2 x hx⟩
      refine hK _ ⟨R.set w (sortI found), T.set w (sortS ts), _, _, _, _, _, by rw [List.map_set (f := rwSL)]; rfl, ?_⟩
      rw [List.length_append, List.length_singleton, show n - (pre.length + 1) = w by omega]
      exact p.step hwn f ((A.nd.filter _).sublist hs) (fun a ha => (hmem a ha).1) fun a ha x hx hne => (hmem a ha).2 x (hba x hx hne)
    rintro ρ ⟨R, T, a, b, c, d, e, rfl, p⟩
    rw [List.nil_append, List.length_range, Nat.sub_self] at p
    have pr := p.room n1 (by omega)
    have lR := p.lr
    dsimp only
    refine frz2 (xs := T.map rwSL) rfl (frz2 (xs := R.map rwIL) rfl ?_)
    refine ⟨⟨by omega, by omega⟩, rfl, by rw [rangeD_len]; omega, ⟨by omega, by omega⟩, fun ys zs hp hl => ?_⟩
    have hz : zs = [] := by
      have h1 := hp.length_eq
      rw [List.length_append, rangeD_len] at h1
      rw [rangeD_len] at hl
      refine List.eq_nil_of_length_eq_zero ?_
      omega
    subst hz
    rw [List.append_nil] at hp
    have er : rangeD 0 ((n : Nat) : Int).toNat = ((List.range n).map fun k : Nat => (k : Int)).map D.int := by
      unfold rangeD
      rw [List.map_map, Int.toNat_natCast]
      exact List.map_congr_left fun k _ => by rw [Int.zero_add]; rfl
    rw [er] at hp
    obtain ⟨os, rfl, ho⟩ := perm_ints hp
    have hord := ord_of ho
    rw [← lR] at hord
    refine ⟨rfl, os, R, T, rfl, rfl, rfl, hord, pr, hq _ _ ⟨turn_room pr hord, ?_, ?_⟩⟩
    · unfold turnR
      rw [List.length_map, hord.len]
      omega
    · intro t ht a ha
      unfold turnT at ht
      obtain ⟨y, hy, rfl⟩ := List.mem_map.mp ht
      obtain ⟨g0, g1⟩ := (hord.mem y).mp hy
      have := p.inA y.toNat (Nat.zero_le _) (by omega)
      rw [Int.toNat_of_nonneg g0] at this
      exact this a ha
end K30
namespace K30
open PySem L2 FP
variable [FP.Tabl]
open KP
theorem ok__law_bent {P : Program} {w : World} {mg : Gm} {base : Heap} {Z : Ads} (A : All mg Z) (G__law_pick : DefOk P w mg base 2 "_law_pick" 2 f_pick) (G__law_roll : DefOk P w mg base 1 "_law_roll" 2 f_roll) : DefOk P w mg base 5 "_law_bent" 2 f_bentR := by
  refine mkDef (N := ["_law_dice_here", "_law_room_here", "_law_reach", "_law_truths", "_law_world", "_law_way", "_law_row", "_law_other"]) (ps := ["_law_dice_here", "_law_room_here"]) A.d__law_bent sc__law_bent (fun _ _ _ _ _ _ us hl => match us, hl with | [_, _], _ => rfl) fun fa cdv Ar outer s H E hr => ⟨_,
    (dss_cons (ds_par22 (i := 2) (j := 3) (do2_lc (own := [("_law_row", 6)]) (fun _ => sc__law_bent.nd) (di_list (de_dget (k := 0) (fun _ => hr.mono (by omega)) (de_var 1) de_str)) (fun _ => blkOk_by (by kernel_rfl)) (dg_name (i := 6) (fun _ => sc__law_bent.nd)) (do_list (da_cons (de_var 6) da_nil) A.n_list FP.boot_list)) (do2_lc (own := [("_law_row", 6)]) (fun _ => sc__law_bent.nd) (di_list (de_dget (k := 0) (fun _ => hr.mono (by omega)) (de_var 1) de_str)) (fun _ => blkOk_by (by kernel_rfl)) (dg_name (i := 6) (fun _ => sc__law_bent.nd)) (do_list (da_cons (de_var 6) da_nil) A.n_list FP.boot_list)) (fun _ => sc__law_bent.nd))
    (dss_cons (ds_par (i := 4) (j := 5) (da_cons (de_view2 2 (de_call G__law_roll (fun _ => hr.mono (by omega)) (fun _ => pas (takes_of rfl rfl rfl rfl)) (da_cons (de_var 0) (da_cons (de_callB ok_len A.n_len FP.boot_len (da_cons (de_var 2) da_nil)) da_nil)))) (da_cons (de_call G__law_roll (fun _ => hr.mono (by omega)) (fun _ => pas (takes_of rfl rfl rfl rfl)) (da_cons (de_var 0) (da_cons de_int da_nil))) da_nil)) (fun _ => sc__law_bent.nd))
    (dss_cons (ds_if (dt_cmp (ok_eq (fun _ => hr.r.units)) (de_var 5) de_int)
    (dss_one (ds_up 2 (ds_ownSet 2 (de_var 4) (de_callB ok_sortI A.n_sorted FP.boot_sorted (da_cons (de_op ok_add (de_ownIx 2 (de_var 4)) (de_lst (da_cons (de_view2 2 (de_call G__law_roll (fun _ => hr.mono (by omega)) (fun _ => pas (takes_of rfl rfl rfl rfl)) (da_cons (de_var 0) (da_cons (de_op ok_add (de_callB ok_len A.n_len FP.boot_len (da_cons (de_var 2) da_nil)) de_int) da_nil)))) da_nil))) da_nil)) (fun _ _ _ h h2 => ps_asg h2 (pg_sub (pv 2) h set_list)))))
    (dss_one (ds_if (dt_cmp (ok_eq (fun _ => hr.r.units)) (de_var 5) de_int)
    (dss_one (ds_o2Pop 2 (de_var 4) (de_view2 2 (de_call G__law_roll (fun _ => hr.mono (by omega)) (fun _ => pas (takes_of rfl rfl rfl rfl)) (da_cons (de_var 0) (da_cons (de_callB ok_len A.n_len FP.boot_len (da_cons (de_ix (de_var 2) (de_var 4)) da_nil)) da_nil)))) (fun _ _ _ h h2 => ps_expr (pe_bm PySem.F.plainAttrs_list PySem.F.slot_list_pop PySem.F.type_list_pop mt_popAt (pe_ix ix_seq (pv 2) h (fun _ _ => rfl)) (pa_cons h2 pa_nil)))))
    (dss_one (ds_if (dt_cmp (ok_eq (fun _ => hr.r.units)) (de_var 5) de_int)
    (dss_one (ds_up 3 (ds_ownSet 3 (de_var 4) (de_callB ok_sorted A.n_sorted FP.boot_sorted (da_cons (de_op ok_add (de_ownIx 3 (de_var 4)) (de_lst (da_cons (de_call G__law_pick (fun _ => hr.mono (by omega)) (fun _ => pas (takes_of rfl rfl rfl rfl)) (da_cons (de_var 0) (da_cons (de_lst (da_cons de_str (da_cons de_str (da_cons de_str da_nil)))) da_nil))) da_nil))) da_nil)) (fun _ _ _ h h2 => ps_asg h2 (pg_sub (pv 3) h set_list)))))
    (dss_one (ds_if (dt_view2 3 (dt_w (dw_and (dt_cmp (ok_eq (fun _ => hr.r.units)) (de_var 5) de_int) (dw_and1 (dt_cmp (ok_ne (fun _ => hr.r.units)) (de_ix (de_var 3) (de_var 4)) (de_lst da_nil))))))
    (dss_one (ds_o2Pop 3 (de_var 4) (de_view2 3 (de_call G__law_roll (fun _ => hr.mono (by omega)) (fun _ => pas (takes_of rfl rfl rfl rfl)) (da_cons (de_var 0) (da_cons (de_callB ok_len A.n_len FP.boot_len (da_cons (de_ix (de_var 3) (de_var 4)) da_nil)) da_nil)))) (fun _ _ _ h h2 => ps_expr (pe_bm PySem.F.plainAttrs_list PySem.F.slot_list_pop PySem.F.type_list_pop mt_popAt (pe_ix ix_seq (pv 3) h (fun _ _ => rfl)) (pa_cons h2 pa_nil)))))
    (dss_one (ds_if (dt_cmp (ok_eq (fun _ => hr.r.units)) (de_var 5) de_int)
    (dss_one (ds_up 3 (ds_ownSet 3 (de_var 4) (de_revL (de_ownIx 3 (de_var 4))) (fun _ _ _ h h2 => ps_asg h2 (pg_sub (pv 3) h set_list)))))
    (dss_one (ds_if (dt_cmp (ok_eq (fun _ => hr.r.units)) (de_var 5) de_int)
    (dss_one (ds_up 2 (ds_ownPopAt 2 (de_var 4) (fun _ _ h => ps_expr (pe_bm PySem.F.plainAttrs_list PySem.F.slot_list_pop PySem.F.type_list_pop mt_popAt (pv 2) (pa_cons h pa_nil))))))
    (dss_cons (ds_set (i := 7) (de_view2 2 (de_call G__law_roll (fun _ => hr.mono (by omega)) (fun _ => pas (takes_of rfl rfl rfl rfl)) (da_cons (de_var 0) (da_cons (de_callB ok_len A.n_len FP.boot_len (da_cons (de_var 2) da_nil)) da_nil)))) (fun _ => sc__law_bent.nd))
    (dss_one (ds_up 2 (ds_swap 2 (de_tup (da_cons (de_ownIx 2 (de_var 7)) (da_cons (de_ownIx 2 (de_var 4)) da_nil))) (de_var 4) (de_var 7) (fun _ _ _ _ h h1 h2 => ps_asg h (pg_tup rfl (pgs_cons (pg_sub (pv 2) h1 set_list) (pgs_cons (pg_sub (pv 2) h2 set_list) pgs_nil rfl) rfl) rfl rfl)))))))))))))))))
    (dss_one (ds_frz2 3 (ds_frz2 2 (ds_ret (de_lst (da_cons (de_var 2) (da_cons (de_var 3) da_nil)))))))))),  fun ds Q Ex hl hf => ?_⟩
  match ds, hl, hf with
  | [.tok, _], _, ⟨as, R, T, rfl, A, D0, hq⟩ =>
    have e0 : startD 8 [.tok, roomD R T] = [Sl.d (.tok), Sl.d (roomD R T), Sl.no, Sl.no, Sl.no, Sl.no, Sl.no, Sl.no] := rfl
    have hnN : (["_law_dice_here", "_law_room_here", "_law_reach", "_law_truths", "_law_world", "_law_way", "_law_row", "_law_other"] : List Str).length = 8 := rfl
    rw [hnN, e0]
    clear e0 hnN
    have sm := D0.sm A
    have n1 := D0.p.n1
    have n5 := D0.sz
    have hlen := D0.p.len
    refine seq_par22 (R.map fun r => r.map D.int) (T.map fun r => r.map D.str) (ev_lcL rwIL (fun r => r.map D.int) (xs := R) (fun Q E q => ev_dgR (T := T) (fun Q E q => q) _ _ q) (size_small (by omega)) fun r hr => ⟨_, rfl, fun Q E q => q⟩) (ev_lcL rwSL (fun r => r.map D.str) (xs := T) (fun Q E q => ev_dgT (R := R) (fun Q E q => q) _ _ q) (size_small (by omega)) fun r hr => ⟨_, rfl, fun Q E q => q⟩) fun ads bds => ?_
    have lenO : ∀ (s3 a b c d : Sl), Ev (dCB rdLen (dCons (dVar 2) dNil)) [Sl.d .tok, Sl.d (roomD R T), Sl.d (.lst ((R.map fun r => r.map D.int).map D.lst)), s3, a, b, c, d] (.int (R.length : Nat)) := fun s3 a b c d => Ev.eq (vLenL (xs := (R.map fun r : List Int => r.map D.int).map D.lst) (fun Q E q => q)) (by rw [List.length_map, List.length_map])
    refine seq_par2 (fun d => ∃ c : Nat, d = .int (c : Nat) ∧ c < R.length) (fun d => ∃ c : Nat, d = .int (c : Nat) ∧ c < 7) (evP_view2o rfl (evP_roll (fun Q E q => q) (lenO _ _ _ _ _) n1 (by omega)) nat_plain) (evP_roll (n := 7) (fun Q E q => q) (fun Q E q => q) (by omega) (by omega)) ?_
    rintro _ _ ⟨w, rfl, hw⟩ ⟨y, rfl, hy⟩
    have hrl := D0.row _ (atR_mem hw)
    have htl := D0.rowT A _ (atT_mem (T := T) (i := w) (by omega))
    have hwT := D0.words A _ (atT_mem (T := T) (i := w) (by omega))
    have eR : atI (R.map rwIL) (w : Int) = some (rwIL (atR R w)) := atI_R (Int.natCast_nonneg w) (by omega)
    have eT : atI (T.map rwSL) (w : Int) = some (rwSL (atT T w)) := atI_T (Int.natCast_nonneg w) (by omega)
    have gR : (R.map fun r => r.map D.int)[w]? = some ((atR R w).map D.int) := by rw [List.getElem?_map, atR_get hw]; rfl
    have gT : (T.map fun r => r.map D.str)[w]? = some ((atT T w).map D.str) := by rw [List.getElem?_map, atT_get (by omega)]; rfl
    have et : ∀ (k : Nat) (s2 s3 a b : Sl), EvT (dB (dOp rdEq (dVar 5) (dC (.int (k : Nat))))) [Sl.d .tok, Sl.d (roomD R T), s2, s3, Sl.d (.int (w : Nat)), Sl.d (.int (y : Nat)), a, b] (decide (y = k)) := fun k s2 s3 a b => b_v (ev_op (x := .int (y : Nat)) (y := .int (k : Nat)) (fun Q E q => q) (fun Q E q => q) fun Q q => by
      show Q (.bl (decide ((y : Int) = (k : Int))))
      rw [show decide ((y : Int) = (k : Int)) = decide (y = k) from decide_eq_decide.mpr ⟨fun h => by omega, fun h => by omega⟩]
      exact q)
    by_cases h0 : y = 0
    · refine seq_ifT ((et 0 _ _ _ _).eq (decide_eq_true h0)) (seq_of ?_)
      refine up rfl ?_
      rw [ll_R]
      refine end_ownSetP (fun d => ∃ r : Int, d = rwIL (sortI (atR R w ++ [r]))) rfl ?_ (m := (w : Nat)) (n := w) (fun Q E q => q) (by rw [List.length_map]; exact ixN_nat hw) ?_
      · refine evP_cb (evP_op (x := rwIL (atR R w)) (P := fun d => ∃ r : Int, d = rwIL [r]) (P' := fun d => ∃ r : Int, d = rwIL (atR R w ++ [r])) (ev_ownIx rfl (m := (w : Nat)) (fun Q E q => q) eR) (fun Q E q => evP_one (evP_view2w rfl (evP_roll (n := R.length + 1) (fun Q E q => q) (ev_op (x := .int (R.length : Nat)) (y := .int 1) (Ev.eq (vLenL (xs := R.map rwIL) (fun Q E q => q)) (by rw [List.length_map])) (fun Q E q => q) fun Q q => q) (by omega) (by omega)) nat_plain) _ _ ?_) ?_) ?_
        · rintro _ ⟨_, ⟨c, rfl, _⟩, rfl⟩
          exact q _ ⟨c, rfl⟩
        · rintro _ ⟨r, rfl⟩ Q q
          exact ⟨by rw [List.length_map, List.length_map]; exact size_small (by show _ + 1 ≤ 1000; omega), by
            rw [← List.map_append]
            exact q _ ⟨r, rfl⟩⟩
        · rintro _ ⟨r, rfl⟩ Q q
          exact ⟨_, intsD_map _, q _ ⟨r, rfl⟩⟩
      · rintro _ ⟨r, rfl⟩
        have e : (R.map rwIL).set w (rwIL (sortI (atR R w ++ [r]))) = (R.set w (sortI (atR R w ++ [r]))).map rwIL := by rw [List.map_set]
        rw [e]
        exact bent_end (.inr rfl) (.inl ⟨_, rfl⟩) fun ρ => hq _ _ (sm.setR (by rw [(sortI_perm _).length_eq, List.length_append]; show _ + 1 ≤ 60; omega))
    refine seq_ifE ((et 0 _ _ _ _).eq (decide_eq_false h0)) ?_
    by_cases h1 : y = 1
    · refine seq_ifT ((et 1 _ _ _ _).eq (decide_eq_true h1)) (seq_of ?_)
      have hpos : 1 ≤ (atR R w).length := List.length_pos_of_mem (D0.p.self w hw)
      refine popO2 (w := w) rfl (fun Q E q => q) gR (by rw [List.length_map]; omega) (evP_view2o rfl (evP_roll (n := ((atR R w).map D.int).length) (fun Q E q => q) (Ev.eq (vLenL (xs := (atR R w).map D.int) (ev_op (x := lstR R) (y := .int (w : Nat)) (fun Q E q => by
        show Q (.lst ((R.map fun r => r.map D.int).map D.lst))
        rw [ll_R]
        exact q) (fun Q E q => q) fun Q q => ⟨_, eR, q⟩)) rfl) (by rw [List.length_map]; exact hpos) (by rw [List.length_map]; omega)) nat_plain) fun c hc => ?_
      have e : (R.map fun r => r.map D.int).set w (((atR R w).map D.int).eraseIdx c) = (R.set w ((atR R w).eraseIdx c)).map fun r => r.map D.int := by rw [erase_map, List.map_set]
      rw [e]
      exact bent_end (.inl ⟨_, rfl⟩) (.inl ⟨_, rfl⟩) fun ρ => hq _ _ (sm.setR (Nat.le_trans (List.length_eraseIdx_le _ _) (by omega)))
    refine seq_ifE ((et 1 _ _ _ _).eq (decide_eq_false h1)) ?_
    by_cases h2 : y = 2
    · refine seq_ifT ((et 2 _ _ _ _).eq (decide_eq_true h2)) (seq_of ?_)
      refine up rfl ?_
      rw [ll_T]
      refine end_ownSetP (fun d => ∃ z : Str, z ∈ (["a", "b", "c"] : List Str) ∧ d = rwSL (sortS (atT T w ++ [z]))) rfl ?_ (m := (w : Nat)) (n := w) (fun Q E q => q) (by rw [List.length_map]; exact ixN_nat (by omega)) ?_
      · refine evP_cb (evP_op (x := rwSL (atT T w)) (P := fun d => ∃ z : Str, z ∈ (["a", "b", "c"] : List Str) ∧ d = rwSL [z]) (P' := fun d => ∃ z : Str, z ∈ (["a", "b", "c"] : List Str) ∧ d = rwSL (atT T w ++ [z])) (ev_ownIx rfl (m := (w : Nat)) (fun Q E q => q) eT) (fun Q E q => evP_one (P := fun d => d ∈ [D.str "a", .str "b", .str "c"]) (fun Q E q => ⟨(by show 3 ≤ sizeLine; decide), rfl, ⟨by show 0 < 3; decide, by show 3 < 1073741824; decide⟩, fun d hd => q d hd⟩) _ _ ?_) ?_) ?_
        · rintro _ ⟨d, hd, rfl⟩
          obtain ⟨z, hz, rfl⟩ : ∃ z : Str, z ∈ (["a", "b", "c"] : List Str) ∧ d = .str z := List.mem_map.mp (show d ∈ (["a", "b", "c"] : List Str).map D.str from hd) |>.imp fun z h => ⟨h.1, h.2.symm⟩
          exact q _ ⟨z, hz, rfl⟩
        · rintro _ ⟨z, hz, rfl⟩ Q q
          exact ⟨by rw [List.length_map, List.length_map]; exact size_small (by show _ + 1 ≤ 1000; omega), by
            rw [← List.map_append]
            exact q _ ⟨z, hz, rfl⟩⟩
        · rintro _ ⟨z, hz, rfl⟩ Q q
          exact ⟨_, strsD_map _, q _ ⟨z, hz, rfl⟩⟩
      · rintro _ ⟨z, hz, rfl⟩
        have e : (T.map rwSL).set w (rwSL (sortS (atT T w ++ [z]))) = (T.set w (sortS (atT T w ++ [z]))).map rwSL := by rw [List.map_set]
        rw [e]
        exact bent_end (.inl ⟨_, rfl⟩) (.inr rfl) fun ρ => hq _ _ (sm.setT (by rw [(sortS_perm _).length_eq, List.length_append]; show _ + 1 ≤ 60; omega) fun a ha => by
          rcases List.mem_append.mp ((sortS_perm _).mem_iff.mp ha) with q | q
          · exact hwT a q
          · rw [List.mem_singleton.mp q]
            exact abc_word z hz)
    refine seq_ifE ((et 2 _ _ _ _).eq (decide_eq_false h2)) ?_
    have e3 : EvT (dView2T 3 (dAnd (dB (dOp rdEq (dVar 5) (dC (.int 3)))) (dB (dOp rdNe (dOp rdIx (dVar 3) (dVar 4)) (dLst dNil))))) [Sl.d .tok, Sl.d (roomD R T), Sl.o2 ads (.ll (R.map fun r => r.map D.int)), Sl.o2 bds (.ll (T.map fun r => r.map D.str)), Sl.d (.int (w : Nat)), Sl.d (.int (y : Nat)), Sl.no, Sl.no] (decide (y = 3) && !decide (atT T w = [])) := t_view2o rfl (and_v (et 3 _ _ _ _) fun _ => b_v (ev_op (x := rwSL (atT T w)) (y := rwSL []) (ev_op (x := lstT T) (y := .int (w : Nat)) (fun Q E q => by
      show Q (.lst ((T.map fun r => r.map D.str).map D.lst))
      rw [ll_T]
      exact q) (fun Q E q => q) fun Q q => ⟨_, eT, q⟩) (ev_lst a0 (line rfl)) fun Q q => neS1 (fun a ha => (strOk_iff _).mpr (word_ok (hwT a ha)).2) (fun a ha => by cases ha) q))
    by_cases h3 : y = 3 ∧ atT T w ≠ []
    · refine seq_ifT (e3.eq (by rw [decide_eq_true h3.1, decide_eq_false h3.2]; rfl)) (seq_of ?_)
      have hpos : 1 ≤ (atT T w).length := List.length_pos_iff.mpr h3.2
      refine popO2 (w := w) rfl (fun Q E q => q) gT (by rw [List.length_map]; omega) (evP_view2o rfl (evP_roll (n := ((atT T w).map D.str).length) (fun Q E q => q) (Ev.eq (vLenL (xs := (atT T w).map D.str) (ev_op (x := lstT T) (y := .int (w : Nat)) (fun Q E q => by
        show Q (.lst ((T.map fun r => r.map D.str).map D.lst))
        rw [ll_T]
        exact q) (fun Q E q => q) fun Q q => ⟨_, eT, q⟩)) rfl) (by rw [List.length_map]; exact hpos) (by rw [List.length_map]; omega)) nat_plain) fun c hc => ?_
      have e : (T.map fun r => r.map D.str).set w (((atT T w).map D.str).eraseIdx c) = (T.set w ((atT T w).eraseIdx c)).map fun r => r.map D.str := by rw [erase_map, List.map_set]
      rw [e]
      exact bent_end (.inl ⟨_, rfl⟩) (.inl ⟨_, rfl⟩) fun ρ => hq _ _ (sm.setT (Nat.le_trans (List.length_eraseIdx_le _ _) (by omega)) fun a ha => hwT a (List.mem_of_mem_eraseIdx ha))
    refine seq_ifE (e3.eq (by
      by_cases q : y = 3
      · have : atT T w = [] := Classical.byContradiction fun z => h3 ⟨q, z⟩
        rw [decide_eq_true q, decide_eq_true this]
        rfl
      · rw [decide_eq_false q]
        rfl)) ?_
    by_cases h4 : y = 4
    · refine seq_ifT ((et 4 _ _ _ _).eq (decide_eq_true h4)) (seq_of ?_)
      refine up rfl ?_
      rw [ll_T]
      refine ownSet (d := rwSL (atT T w).reverse) rfl (fun Q E q => ev_ownIx (d := rwSL (atT T w)) rfl (m := (w : Nat)) (fun Q E q => q) eT _ _ ?_) (m := (w : Nat)) (n := w) (fun Q E q => q) (by rw [List.length_map]; exact ixN_nat (by omega)) ?_
      · show Q (.lst ((atT T w).map D.str).reverse)
        rw [← List.map_reverse]
        exact q
      have e : (T.map rwSL).set w (rwSL (atT T w).reverse) = (T.set w (atT T w).reverse).map rwSL := by rw [List.map_set]
      rw [e]
      exact bent_end (.inl ⟨_, rfl⟩) (.inr rfl) fun ρ => hq _ _ (sm.setT (by rw [List.length_reverse]; omega) fun a ha => hwT a (List.mem_reverse.mp ha))
    refine seq_ifE ((et 4 _ _ _ _).eq (decide_eq_false h4)) ?_
    by_cases h5 : y = 5
    · refine seq_ifT ((et 5 _ _ _ _).eq (decide_eq_true h5)) (seq_of ?_)
      refine up rfl ?_
      rw [ll_R]
      refine popAt (w := w) rfl (fun Q E q => q) (by rw [List.length_map]; exact hw) (by rw [List.length_map]; omega) ?_
      rw [erase_map]
      exact bent_end (.inr rfl) (.inl ⟨_, rfl⟩) fun ρ => hq _ _ sm.eraseR
    refine seq_ifE ((et 5 _ _ _ _).eq (decide_eq_false h5)) (seqSeq ?_)
    refine seq_p (fun d => ∃ c : Nat, d = .int (c : Nat) ∧ c < R.length) (evP_view2o rfl (evP_roll (fun Q E q => q) (lenO _ _ _ _ _) n1 (by omega)) nat_plain) ?_
    rintro _ ⟨o, rfl, ho⟩
    have eO : atI (R.map rwIL) (o : Int) = some (rwIL (atR R o)) := atI_R (Int.natCast_nonneg o) (by omega)
    refine seq_of (up rfl ?_)
    rw [ll_R]
    refine swapS (d1 := rwIL (atR R o)) (d2 := rwIL (atR R w)) (m1 := w) (m2 := o) rfl (ev_tup (a1 (ev_ownIx rfl (m := (o : Nat)) (fun Q E q => q) eO) (a1 (ev_ownIx rfl (m := (w : Nat)) (fun Q E q => q) eR) a0)) (by show 2 ≤ sizeLine; decide)) (fun Q E q => q) (fun Q E q => q) (by rw [List.length_map]; exact hw) (by rw [List.length_map]; exact ho) ?_
    have e : ((R.map rwIL).set w (rwIL (atR R o))).set o (rwIL (atR R w)) = ((R.set w (atR R o)).set o (atR R w)).map rwIL := by rw [List.map_set, List.map_set]
    rw [e]
    exact bent_end (.inr rfl) (.inl ⟨_, rfl⟩) fun ρ => hq _ _ ((sm.setR (by have := D0.row _ (atR_mem ho); omega)).setR (by omega))
end K30
namespace K30
open PySem L2 FP
variable [FP.Tabl]
open KP
theorem ok__law_right {P : Program} {w : World} {mg : Gm} {base : Heap} {Z : Ads} (A : All mg Z) (G_Room___eq__ : SpecOk P w mg base 1 Z.a_Room "__eq__" 2 f_eqW) (G_Room___init__ : InitOk P w mg base 8 "Room" Z.a_Room 2 f_initRoom) (G_Room___len__ : SpecOk P w mg base 1 Z.a_Room "__len__" 1 (f_fldW fun R T => .int (R.length : Nat))) (G_Room_reach : PropOk P w mg base 1 Z.a_Room "reach" (f_fldW fun R T => tupR R)) (G_Room_truths : PropOk P w mg base 1 Z.a_Room "truths" (f_fldW fun R T => tupT T)) (G__law_bent : DefOk P w mg base 5 "_law_bent" 2 f_bentR) (G__law_is_made : DefOk P w mg base 10 "_law_is_made" 2 f_ismade) (G__law_is_room : DefOk P w mg base 1 "_law_is_room" 2 f_lawroom) (G__law_made_room : DefOk P w mg base 10 "_law_made_room" 1 f_madeW) (G__law_pick : DefOk P w mg base 2 "_law_pick" 2 f_pick) (G__law_room : DefOk P w mg base 5 "_law_room" 2 f_drawnR) (G__law_told_right : DefOk P w mg base 12 "_law_told_right" 1 f_toldW) : DefOk P w mg base 20 "_law_right" 1 f_tokT := by
  refine mkDef (N := ["_law_dice_here", "_law_room_here", "_law_turn", "_law_made", "_law_other", "_law_odd", "_law_bad", "_law_same", "_law_reach", "_law_truths", "_law_told", "_law_row"]) (ps := ["_law_dice_here"]) A.d__law_right sc__law_right (fun _ _ _ _ _ _ us hl => match us, hl with | [_], _ => rfl) fun fa cdv Ar outer s H E hr => ⟨_,
    (dss_cons (ds_set (i := 1) (de_call G__law_room (fun _ => hr.mono (by omega)) (fun _ => pas (takes_of rfl rfl rfl rfl)) (da_cons (de_var 0) (da_cons (de_lst (da_cons de_str (da_cons de_str (da_cons de_str da_nil)))) da_nil))) (fun _ => sc__law_right.nd))
    (dss_cons (ds_if (dt_w (dw_or (dt_not (dt_val (de_call G__law_is_room (fun _ => hr.mono (by omega)) (fun _ => pas (takes_of rfl rfl rfl rfl)) (da_cons (de_dget (k := 0) (fun _ => hr.mono (by omega)) (de_var 1) de_str) (da_cons (de_dget (k := 0) (fun _ => hr.mono (by omega)) (de_var 1) de_str) da_nil))))) (dw_or1 (dt_not (dt_val (de_call G__law_told_right (fun _ => hr.mono (by omega)) (fun _ => pas (takes_of rfl rfl rfl rfl)) (da_cons (de_var 1) da_nil)))))))
    (dss_one (ds_ret de_bl))
    dss_nil)
    (dss_cons (ds_for (di_range1 A.n_range (da_cons de_int da_nil)) (dg_name (i := 2) (fun _ => sc__law_right.nd))
    (dss_cons (ds_asg (de_call G__law_bent (fun _ => hr.mono (by omega)) (fun _ => pas (takes_of rfl rfl rfl rfl)) (da_cons (de_var 0) (da_cons (de_var 1) da_nil))) (dg_unl (dgs_cons (dg_name (i := 8) (fun _ => sc__law_right.nd)) (dgs_cons (dg_name (i := 9) (fun _ => sc__law_right.nd)) dgs_nil))))
    (dss_cons (ds_set (i := 10) (de_tup (da_cons (de_callTy ok_tuple A.n_tuple FP.boot_tuple (da_cons (de_lc (own := [("_law_row", 11)]) (fun _ => sc__law_right.nd) (di_list (de_var 8)) (fun _ => blkOk_by (by kernel_rfl)) (dg_name (i := 11) (fun _ => sc__law_right.nd)) dts_nil (de_callTy ok_tuple A.n_tuple FP.boot_tuple (da_cons (de_var 11) da_nil))) da_nil)) (da_cons (de_callTy ok_tuple A.n_tuple FP.boot_tuple (da_cons (de_lc (own := [("_law_row", 11)]) (fun _ => sc__law_right.nd) (di_list (de_var 9)) (fun _ => blkOk_by (by kernel_rfl)) (dg_name (i := 11) (fun _ => sc__law_right.nd)) dts_nil (de_callTy ok_tuple A.n_tuple FP.boot_tuple (da_cons (de_var 11) da_nil))) da_nil)) da_nil))) (fun _ => sc__law_right.nd))
    (dss_one (ds_if (dt_cmp (ok_ne (fun _ => hr.r.units)) (de_call G__law_is_made (fun _ => hr.mono (by omega)) (fun _ => pas (takes_of rfl rfl rfl rfl)) (da_cons (de_ix (de_var 10) de_int) (da_cons (de_ix (de_var 10) de_int) da_nil))) (de_call G__law_is_room (fun _ => hr.mono (by omega)) (fun _ => pas (takes_of rfl rfl rfl rfl)) (da_cons (de_var 8) (da_cons (de_var 9) da_nil))))
    (dss_one (ds_ret de_bl))
    dss_nil)))) (fun _ => passes_of rfl))
    (dss_cons (ds_par (i := 3) (j := 4) (da_cons (de_call G__law_made_room (fun _ => hr.mono (by omega)) (fun _ => pas (takes_of rfl rfl rfl rfl)) (da_cons (de_var 1) da_nil)) (da_cons (de_call G__law_room (fun _ => hr.mono (by omega)) (fun _ => pas (takes_of rfl rfl rfl rfl)) (da_cons (de_var 0) (da_cons (de_lst (da_cons de_str (da_cons de_str da_nil))) da_nil))) da_nil)) (fun _ => sc__law_right.nd))
    (dss_cons (ds_set (i := 5) (de_lst (da_cons de_non (da_cons de_int (da_cons (de_tup da_nil) (da_cons (de_lst da_nil) (da_cons de_dnew (da_cons de_str (da_cons (de_callTy (ok_list (by intro _; rfl) (fun _ => hr.r.hd)) A.n_list FP.boot_list (da_cons (de_prop A.kc_Room G_Room_reach (fun _ => hr.mono (by omega)) (de_var 3)) da_nil)) (da_cons (de_tup (da_cons de_int da_nil)) (da_cons (de_tup (da_cons (de_tup (da_cons de_bl da_nil)) da_nil)) (da_cons (de_tup (da_cons (de_tup (da_cons de_str da_nil)) da_nil)) (da_cons (de_tup (da_cons (de_lst (da_cons de_int da_nil)) da_nil)) da_nil)))))))))))) (fun _ => sc__law_right.nd))
    (dss_cons (ds_set (i := 5) (de_call G__law_pick (fun _ => hr.mono (by omega)) (fun _ => pas (takes_of rfl rfl rfl rfl)) (da_cons (de_var 0) (da_cons (de_var 5) da_nil))) (fun _ => sc__law_right.nd))
    (dss_cons (ds_set (i := 6) (de_call G__law_pick (fun _ => hr.mono (by omega)) (fun _ => pas (takes_of rfl rfl rfl rfl)) (da_cons (de_var 0) (da_cons (de_lst (da_cons de_non (da_cons de_int (da_cons (de_tup da_nil) (da_cons (de_lst da_nil) (da_cons de_str (da_cons (de_callTy (ok_list (by intro _; rfl) (fun _ => hr.r.hd)) A.n_list FP.boot_list (da_cons (de_prop A.kc_Room G_Room_truths (fun _ => hr.mono (by omega)) (de_var 3)) da_nil)) (da_cons (de_tup (da_cons de_int da_nil)) (da_cons (de_tup (da_cons (de_lst (da_cons de_str da_nil)) da_nil)) (da_cons (de_op ok_repT1 (de_tup (da_cons (de_tup (da_cons de_str da_nil)) da_nil)) (de_callB (ok_lenM A.kc_Room G_Room___len__ (fun _ => hr.mono (by omega))) A.n_len FP.boot_len (da_cons (de_var 3) da_nil))) (da_cons (de_var 3) da_nil))))))))))) da_nil))) (fun _ => sc__law_right.nd))
    (dss_cons (ds_if (dt_w (dw_or (dt_val (de_call G__law_is_made (fun _ => hr.mono (by omega)) (fun _ => pas (takes_of rfl rfl rfl rfl)) (da_cons (de_var 5) (da_cons (de_prop A.kc_Room G_Room_truths (fun _ => hr.mono (by omega)) (de_var 3)) da_nil)))) (dw_or1 (dt_val (de_call G__law_is_made (fun _ => hr.mono (by omega)) (fun _ => pas (takes_of rfl rfl rfl rfl)) (da_cons (de_prop A.kc_Room G_Room_reach (fun _ => hr.mono (by omega)) (de_var 3)) (da_cons (de_var 6) da_nil)))))))
    (dss_one (ds_ret de_bl))
    dss_nil)
    (dss_cons (ds_set (i := 7) (de_cmp (ok_eq (fun _ => hr.r.units)) (de_lst (da_cons (de_dget (k := 0) (fun _ => hr.mono (by omega)) (de_var 4) de_str) (da_cons (de_dget (k := 0) (fun _ => hr.mono (by omega)) (de_var 4) de_str) da_nil))) (de_lst (da_cons (de_dget (k := 0) (fun _ => hr.mono (by omega)) (de_var 1) de_str) (da_cons (de_dget (k := 0) (fun _ => hr.mono (by omega)) (de_var 1) de_str) da_nil)))) (fun _ => sc__law_right.nd))
    (dss_one (ds_ret (de_and (de_cmp (ok_eq (fun _ => hr.r.units)) (de_cmp (ok_eqM A.kc_Room G_Room___eq__ A.eq_Room (fun _ => hr.mono (by omega))) (de_var 3) (de_call G__law_made_room (fun _ => hr.mono (by omega)) (fun _ => pas (takes_of rfl rfl rfl rfl)) (da_cons (de_var 4) da_nil))) (de_var 7)) (de_and (de_cmp (OpOk.or (ok_neM A.kc_Room G_Room___eq__ A.eq_Room A.ne_Room (fun _ => hr.mono (by omega))) (ok_neL A.kc_Room G_Room___eq__ A.nl_Room A.ne_Room (fun _ => hr.mono (by omega)))) (de_var 3) (de_prop A.kc_Room G_Room_reach (fun _ => hr.mono (by omega)) (de_var 3))) (de_one (de_cmp (ok_eqM A.kc_Room G_Room___eq__ A.eq_Room (fun _ => hr.mono (by omega))) (de_var 3) (de_make A.kc_Room G_Room___init__ (fun _ => hr.mono (by omega)) (fun _ => pas (takes_of rfl rfl rfl rfl)) (da_cons (de_prop A.kc_Room G_Room_reach (fun _ => hr.mono (by omega)) (de_var 3)) (da_cons (de_prop A.kc_Room G_Room_truths (fun _ => hr.mono (by omega)) (de_var 3)) da_nil)))))))))))))))))),  fun ds Q Ex hl hf => ?_⟩
  match ds, hl, hf with
  | [.tok], _, hq =>
    have e0 : startD 12 [.tok] = [Sl.d (.tok), Sl.no, Sl.no, Sl.no, Sl.no, Sl.no, Sl.no, Sl.no, Sl.no, Sl.no, Sl.no, Sl.no] := rfl
    have hnN : (["_law_dice_here", "_law_room_here", "_law_turn", "_law_made", "_law_other", "_law_odd", "_law_bad", "_law_same", "_law_reach", "_law_truths", "_law_told", "_law_row"] : List Str).length = 12 := rfl
    rw [hnN, e0]
    clear e0 hnN
    refine seq_p (fun d => ∃ R T, d = roomD R T ∧ Drawn abc R T) (fun Q E q => ⟨(by show 3 ≤ sizeLine; decide), rfl, abc, rfl, abc_atoms, fun R T h => q _ ⟨R, T, rfl, h⟩⟩) ?_
    rintro _ ⟨R, T, rfl, D0⟩
    have sm := D0.sm abc_atoms
    have hB := D0.room abc_atoms
    have hok := sm.ok
    have n1 := D0.p.n1
    have n60 := D0.p.n60
    refine seq_ifF (or_f (not_v (b := true) (b_v (ev_call (a1 (ev_dgR (fun Q E q => q)) (a1 (ev_dgT (fun Q E q => q)) a0)) rfl fun Q E q => ⟨R, T, rfl, rfl, sm, by rw [room_same sm.w, hB]; exact q⟩))) (not_v (b := true) (b_v (ev_call (a1 (fun Q E q => q) a0) rfl fun Q E q => ⟨R, T, rfl, sm, hB, q⟩)))) ?_
    refine seq_for ((List.range 6).map fun k : Nat => D.int (k : Nat)) (vRng2 (n := 6) (by omega) (fun Q E q => q)) ?_
    refine forD_inv (fun ρ => ∃ a b c d, ρ = [Sl.d .tok, Sl.d (roomD R T), a, Sl.no, Sl.no, Sl.no, Sl.no, Sl.no, b, c, d, Sl.no]) _ _ ⟨_, _, _, _, rfl⟩ ?_ ?_
    · rintro x hx ρ K ⟨a, b, c, d, rfl⟩ hK
      obtain ⟨k, hk, rfl⟩ := List.mem_map.mp hx
      refine ⟨_, rfl, ?_⟩
      refine seq_asP (fun d => ∃ R' T', SmL R' T' ∧ d = .lst [lstR R', lstT T']) (fun Q E q => ⟨rfl, abc, R, T, rfl, abc_atoms, D0, fun R' T' s => q _ ⟨R', T', s, rfl⟩⟩) ?_
      rintro _ ⟨R', T', s, rfl⟩
      refine ⟨_, rfl, ?_⟩
      have hn := s.n
      have hm := s.m
      refine seq_v (.tup [tupR R', tupT T']) (ev_tup (a1 (ev_cb (a1 (d := .lst (R'.map rwI)) (ev_lc rwIL rwI (xs := R') (fun Q E q => q) (size_small (by omega)) fun r hr => ⟨_, rfl, ev_cb (a1 (d := rwIL r) (fun Q E q => q) a0) fun Q q => q⟩) a0) fun Q q => q) (a1 (ev_cb (a1 (d := .lst (T'.map rwS)) (ev_lc rwSL rwS (xs := T') (fun Q E q => q) (size_small (by omega)) fun r hr => ⟨_, rfl, ev_cb (a1 (d := rwSL r) (fun Q E q => q) a0) fun Q q => q⟩) a0) fun Q q => q) a0)) (by show 2 ≤ sizeLine; decide)) ?_
      refine end_if false (b_v (ev_op (x := .bl (roomB R' T')) (y := .bl (roomB R' T')) (ev_ismade s (ev_op (x := .tup [tupR R', tupT T']) (y := .int 0) (fun Q E q => q) (fun Q E q => q) fun Q q => ⟨_, rfl, q⟩) (ev_op (x := .tup [tupR R', tupT T']) (y := .int 1) (fun Q E q => q) (fun Q E q => q) fun Q q => ⟨_, rfl, q⟩)) (ev_call (a1 (fun Q E q => q) (a1 (fun Q E q => q) a0)) rfl fun Q E q => ⟨R', T', rfl, rfl, s, by rw [room_same s.w]; exact q⟩) fun Q q => ne_bl (by rw [decide_eq_true rfl]; exact q))) ?_
      exact hK _ ⟨_, _, _, _, rfl⟩
    rintro ρ ⟨a, b, c, d, rfl⟩
    dsimp only
    refine seq_par2 (fun d => d = roomO R T) (fun d => ∃ R2 T2, d = roomD R2 T2 ∧ Drawn ab R2 T2) (fun Q E q => ⟨rfl, R, T, rfl, sm, hB, q _ rfl⟩) (fun Q E q => ⟨(by show 2 ≤ sizeLine; decide), rfl, ab, rfl, ab_atoms, fun R T h => q _ ⟨R, T, rfl, h⟩⟩) ?_
    rintro _ _ rfl ⟨R2, T2, rfl, D2⟩
    have sm2 := D2.sm ab_atoms
    have hB2 := D2.room ab_atoms
    have epR : ∀ a b c d e f g h, Ev (dProp "Room" (f_fldW fun R T => tupR R) (dVar 3)) [Sl.d .tok, Sl.d (roomD R T), a, Sl.d (roomO R T), Sl.d (roomD R2 T2), b, c, d, e, f, g, h] (tupR R) := fun a b c d e f g h => ev_prop (fs := roomF R T) (fun Q E q => q) fun Q q => ⟨R, T, rfl, q⟩
    have epT : ∀ a b c d e f g h, Ev (dProp "Room" (f_fldW fun R T => tupT T) (dVar 3)) [Sl.d .tok, Sl.d (roomD R T), a, Sl.d (roomO R T), Sl.d (roomD R2 T2), b, c, d, e, f, g, h] (tupT T) := fun a b c d e f g h => ev_prop (fs := roomF R T) (fun Q E q => q) fun Q q => ⟨R, T, rfl, q⟩
    refine seq_v (.lst (odR30 R)) (ev_lst (ds := odR30 R) (a1 (fun Q E q => q) (a1 (fun Q E q => q) (a1 (ev_tup a0 (by show 0 ≤ sizeLine; decide)) (a1 (ev_lst a0 (by show 0 ≤ sizeLine; decide)) (a1 (fun Q E q => q) (a1 (fun Q E q => q) (a1 (vLstT (epR _ _ _ _ _ _ _ _)) (a1 (ev_tup (a1 (fun Q E q => q) a0) (by show 1 ≤ sizeLine; decide)) (a1 (ev_tup (a1 (ev_tup (a1 (fun Q E q => q) a0) (by show 1 ≤ sizeLine; decide)) a0) (by show 1 ≤ sizeLine; decide)) (a1 (ev_tup (a1 (ev_tup (a1 (fun Q E q => q) a0) (by show 1 ≤ sizeLine; decide)) a0) (by show 1 ≤ sizeLine; decide)) (a1 (ev_tup (a1 (ev_lst (a1 (fun Q E q => q) a0) (by show 1 ≤ sizeLine; decide)) a0) (by show 1 ≤ sizeLine; decide)) a0))))))))))) (by show 11 ≤ sizeLine; decide)) ?_
    refine seq_p (fun d => d ∈ odR30 R) (evP_pick (xs := odR30 R) (fun Q E q => q) (fun Q E q => q) (by show 0 < 11; decide) (by show 11 < 1073741824; decide)) ?_
    intro od hod
    refine seq_p (fun d => d ∈ bdR30 R T) (evP_pick (xs := bdR30 R T) (fun Q E q => q) (ev_lst (ds := bdR30 R T) (a1 (fun Q E q => q) (a1 (fun Q E q => q) (a1 (ev_tup a0 (by show 0 ≤ sizeLine; decide)) (a1 (ev_lst a0 (by show 0 ≤ sizeLine; decide)) (a1 (fun Q E q => q) (a1 (vLstT (epT _ _ _ _ _ _ _ _)) (a1 (ev_tup (a1 (fun Q E q => q) a0) (by show 1 ≤ sizeLine; decide)) (a1 (ev_tup (a1 (ev_lst (a1 (fun Q E q => q) a0) (by show 1 ≤ sizeLine; decide)) a0) (by show 1 ≤ sizeLine; decide)) (a1 (Ev.eq (ev_op (x := .tup [rwS ["A"]]) (y := .int (R.length : Nat)) (ev_tup (a1 (ev_tup (a1 (fun Q E q => q) a0) (by show 1 ≤ sizeLine; decide)) a0) (by show 1 ≤ sizeLine; decide)) (ev_cb (a1 (d := roomO R T) (fun Q E q => q) a0) fun Q q => lenW n60 q) fun Q q => ⟨by simp, by omega, by omega, by show 1 ≤ 1000; decide, q⟩) (by rw [Int.toNat_natCast, rep_A])) (a1 (fun Q E q => q) a0)))))))))) (by show 10 ≤ sizeLine; decide)) (by show 0 < 10; decide) (by show 10 < 1073741824; decide)) ?_
    intro bd hbd
    obtain ⟨so, ro⟩ := odd_no hod
    obtain ⟨sb, rb⟩ := bad_no n1 n60 hbd
    refine seq_ifF (or_f (b_v (ev_nomade so sm.tupT (roomNo1 ro) (fun Q E q => q) (epT _ _ _ _ _ _ _ _))) (b_v (ev_nomade sm.tupR sb (roomNo2 rb) (epR _ _ _ _ _ _ _ _) (fun Q E q => q)))) ?_
    refine seq_v (.bl (decide (R2 = R) && decide (T2 = T))) (ev_op (x := .lst [lstR R2, lstT T2]) (y := .lst [lstR R, lstT T]) (ev_lst (a1 (ev_dgR (fun Q E q => q)) (a1 (ev_dgT (fun Q E q => q)) a0)) (by show 2 ≤ sizeLine; decide)) (ev_lst (a1 (ev_dgR (fun Q E q => q)) (a1 (ev_dgT (fun Q E q => q)) a0)) (by show 2 ≤ sizeLine; decide)) fun Q q => eqBoth sm2.ok hok q) ?_
    have esw : (decide (R = R2) && decide (T = T2)) = (decide (R2 = R) && decide (T2 = T)) := by
      rw [show decide (R = R2) = decide (R2 = R) from decide_eq_decide.mpr eq_comm, show decide (T = T2) = decide (T2 = T) from decide_eq_decide.mpr eq_comm]
    refine ret_v (.bl (true && (true && true))) (ev_andV (ev_op (x := .bl (decide (R = R2) && decide (T = T2))) (y := .bl (decide (R2 = R) && decide (T2 = T))) (ev_op (x := roomO R T) (y := roomO R2 T2) (fun Q E q => q) (ev_call (a1 (fun Q E q => q) a0) rfl fun Q E q => ⟨R2, T2, rfl, sm2, hB2, q⟩) fun Q q => eqW List.mem_cons_self hok sm2.ok q) (fun Q E q => q) fun Q q => eq_bl (by rw [esw, decide_eq_true rfl]; exact q)) fun _ => ev_andV (ev_op (x := roomO R T) (y := tupR R) (fun Q E q => q) (epR _ _ _ _ _ _ _ _) fun Q q => .inl (neW hok q)) fun _ => ev_op (x := roomO R T) (y := roomO R T) (fun Q E q => q) (ev_make (fs := roomF R T) (ds := [tupR R, tupT T]) (a1 (epR _ _ _ _ _ _ _ _) (a1 (epT _ _ _ _ _ _ _ _) a0)) rfl fun Q E q => make_yes sm.tupR sm.tupT rfl rfl hB Q E q) fun Q q => eqW List.mem_cons_self hok hok (by rw [decide_eq_true rfl, decide_eq_true rfl]; exact q)) hq
end K30
namespace K30
open PySem L2 FP
variable [FP.Tabl]
open KP
theorem ok_law {P : Program} {w : World} {mg : Gm} {base : Heap} {Z : Ads} (A : All mg Z) (G__law_dice : DefOk P w mg base 1 "_law_dice" 2 f_dice) (G__law_right : DefOk P w mg base 20 "_law_right" 1 f_tokT) : DefOk P w mg base 25 "law" 1 f_law := by
  refine mkDef (N := ["_law_script", "_law_spot"]) (ps := ["_law_script"]) A.d_law sc_law (fun _ _ _ _ _ _ us hl => match us, hl with | [_], _ => rfl) fun fa cdv Ar outer s H E hr => ⟨_,
    (dss_cons (ds_for (di_range1 A.n_range (da_cons (de_callB ok_max A.n_max FP.boot_max (da_cons de_int (da_cons (de_callB ok_min A.n_min FP.boot_min (da_cons de_int (da_cons (de_callB ok_len A.n_len FP.boot_len (da_cons (de_var 0) da_nil)) da_nil))) da_nil))) da_nil)) (dg_name (i := 1) (fun _ => sc_law.nd))
    (dss_one (ds_if (dt_not (dt_val (de_call G__law_right (fun _ => hr.mono (by omega)) (fun _ => pas (takes_of rfl rfl rfl rfl)) (da_cons (de_call G__law_dice (fun _ => hr.mono (by omega)) (fun _ => pas (takes_of rfl rfl rfl rfl)) (da_cons (de_var 0) (da_cons (de_var 1) da_nil))) da_nil))))
    (dss_one (ds_ret de_bl))
    dss_nil)) (fun _ => passes_of rfl))
    (dss_one (ds_ret de_bl))),  fun ds Q Ex hl hf => ?_⟩
  match ds, hl, hf with
  | [.fz xs], _, ⟨⟨ns, hx, hn⟩, hq⟩ =>
    subst hx
    have e0 : startD 2 [.fz (ns.map D.int)] = [Sl.d (.fz (ns.map D.int)), Sl.no] := rfl
    have hnN : (["_law_script", "_law_spot"] : List Str).length = 2 := rfl
    rw [hnN, e0]
    clear e0 hnN
    have hm := spots (ns.map D.int).length
    refine seq_by (fun ρ => ∃ a, ρ = [Sl.d (.fz (ns.map D.int)), a]) (fun nx hnx => ?_) ?_
    · refine ⟨by omega, by omega, ?_⟩
      refine forD_inv (fun ρ => ∃ a, ρ = [Sl.d (.fz (ns.map D.int)), a]) _ _ ⟨_, rfl⟩ ?_ hnx
      rintro x hx ρ K ⟨a, rfl⟩ hK
      obtain ⟨j, rfl, hj⟩ := mem_range hx
      refine ⟨_, rfl, ?_⟩
      refine end_if false (not_v (b := true) (b_v (ev_call (a1 (d := .tok) (fun Q E q => ⟨rfl, ⟨ns, rfl⟩, ⟨by omega, by omega⟩, q⟩) a0) rfl fun Q E q => q))) ?_
      exact hK _ ⟨_, rfl⟩
    rintro ρ ⟨a, rfl⟩
    exact ret_v (.bl true) (fun Q E q => q) hq
end K30
namespace K30
open PySem L2 FP
variable [FP.Tabl]
theorem all_mk {K : PySem.W.Frag} {h : Heap} {mg : Str → Option Value} (X : K.In h) (G : h.Ns mainGlobals mg)
    {t_LETTERS : Tok}
    {t_LONGEST : Tok}
    {t_MAX_LETTERS : Tok}
    {t_MAX_WORLDS : Tok}
    {C_Room : Addr}
    {f_is_integer : Addr} {od_is_integer an_is_integer : Option Addr} {sl_is_integer : Array (Option Value)} {oc_is_integer kV_is_integer dc_is_integer pm_is_integer cd_is_integer ct_is_integer : Value}
    {f_is_within : Addr} {od_is_within an_is_within : Option Addr} {sl_is_within : Array (Option Value)} {oc_is_within kV_is_within dc_is_within pm_is_within cd_is_within ct_is_within : Value}
    {f_is_word : Addr} {od_is_word an_is_word : Option Addr} {sl_is_word : Array (Option Value)} {oc_is_word kV_is_word dc_is_word pm_is_word cd_is_word ct_is_word : Value}
    {f_is_index_tuple : Addr} {od_is_index_tuple an_is_index_tuple : Option Addr} {sl_is_index_tuple : Array (Option Value)} {oc_is_index_tuple kV_is_index_tuple dc_is_index_tuple pm_is_index_tuple cd_is_index_tuple ct_is_index_tuple : Value}
    {f_is_word_tuple : Addr} {od_is_word_tuple an_is_word_tuple : Option Addr} {sl_is_word_tuple : Array (Option Value)} {oc_is_word_tuple kV_is_word_tuple dc_is_word_tuple pm_is_word_tuple cd_is_word_tuple ct_is_word_tuple : Value}
    {f_is_reach : Addr} {od_is_reach an_is_reach : Option Addr} {sl_is_reach : Array (Option Value)} {oc_is_reach kV_is_reach dc_is_reach pm_is_reach cd_is_reach ct_is_reach : Value}
    {f_are_truths : Addr} {od_are_truths an_are_truths : Option Addr} {sl_are_truths : Array (Option Value)} {oc_are_truths kV_are_truths dc_are_truths pm_are_truths cd_are_truths ct_are_truths : Value}
    {f_Room___init__ : Addr} {od_Room___init__ an_Room___init__ : Option Addr} {sl_Room___init__ : Array (Option Value)} {oc_Room___init__ kV_Room___init__ dc_Room___init__ pm_Room___init__ cd_Room___init__ ct_Room___init__ : Value}
    {f_Room_reach : Addr} {od_Room_reach an_Room_reach : Option Addr} {sl_Room_reach : Array (Option Value)} {oc_Room_reach kV_Room_reach dc_Room_reach pm_Room_reach cd_Room_reach ct_Room_reach : Value}
    {p_Room_reach : Addr} {rs_Room_reach : List Value}
    {f_Room_truths : Addr} {od_Room_truths an_Room_truths : Option Addr} {sl_Room_truths : Array (Option Value)} {oc_Room_truths kV_Room_truths dc_Room_truths pm_Room_truths cd_Room_truths ct_Room_truths : Value}
    {p_Room_truths : Addr} {rs_Room_truths : List Value}
    {f_Room_atoms : Addr} {od_Room_atoms an_Room_atoms : Option Addr} {sl_Room_atoms : Array (Option Value)} {oc_Room_atoms kV_Room_atoms dc_Room_atoms pm_Room_atoms cd_Room_atoms ct_Room_atoms : Value}
    {p_Room_atoms : Addr} {rs_Room_atoms : List Value}
    {f_Room_require_world : Addr} {od_Room_require_world an_Room_require_world : Option Addr} {sl_Room_require_world : Array (Option Value)} {oc_Room_require_world kV_Room_require_world dc_Room_require_world pm_Room_require_world cd_Room_require_world ct_Room_require_world : Value}
    {f_Room___getitem__ : Addr} {od_Room___getitem__ an_Room___getitem__ : Option Addr} {sl_Room___getitem__ : Array (Option Value)} {oc_Room___getitem__ kV_Room___getitem__ dc_Room___getitem__ pm_Room___getitem__ cd_Room___getitem__ ct_Room___getitem__ : Value}
    {f_Room___len__ : Addr} {od_Room___len__ an_Room___len__ : Option Addr} {sl_Room___len__ : Array (Option Value)} {oc_Room___len__ kV_Room___len__ dc_Room___len__ pm_Room___len__ cd_Room___len__ ct_Room___len__ : Value}
    {f_Room___eq__ : Addr} {od_Room___eq__ an_Room___eq__ : Option Addr} {sl_Room___eq__ : Array (Option Value)} {oc_Room___eq__ kV_Room___eq__ dc_Room___eq__ pm_Room___eq__ cd_Room___eq__ ct_Room___eq__ : Value}
    {f_Room___str__ : Addr} {od_Room___str__ an_Room___str__ : Option Addr} {sl_Room___str__ : Array (Option Value)} {oc_Room___str__ kV_Room___str__ dc_Room___str__ pm_Room___str__ cd_Room___str__ ct_Room___str__ : Value}
    {f__law_dice : Addr} {od__law_dice an__law_dice : Option Addr} {sl__law_dice : Array (Option Value)} {oc__law_dice kV__law_dice dc__law_dice pm__law_dice cd__law_dice ct__law_dice : Value}
    {f__law_roll : Addr} {od__law_roll an__law_roll : Option Addr} {sl__law_roll : Array (Option Value)} {oc__law_roll kV__law_roll dc__law_roll pm__law_roll cd__law_roll ct__law_roll : Value}
    {f__law_pick : Addr} {od__law_pick an__law_pick : Option Addr} {sl__law_pick : Array (Option Value)} {oc__law_pick kV__law_pick dc__law_pick pm__law_pick cd__law_pick ct__law_pick : Value}
    {f__law_some : Addr} {od__law_some an__law_some : Option Addr} {sl__law_some : Array (Option Value)} {oc__law_some kV__law_some dc__law_some pm__law_some cd__law_some ct__law_some : Value}
    {f__law_room : Addr} {od__law_room an__law_room : Option Addr} {sl__law_room : Array (Option Value)} {oc__law_room kV__law_room dc__law_room pm__law_room cd__law_room ct__law_room : Value}
    {f__law_room_turned : Addr} {od__law_room_turned an__law_room_turned : Option Addr} {sl__law_room_turned : Array (Option Value)} {oc__law_room_turned kV__law_room_turned dc__law_room_turned pm__law_room_turned cd__law_room_turned ct__law_room_turned : Value}
    {f__law_made_room : Addr} {od__law_made_room an__law_made_room : Option Addr} {sl__law_made_room : Array (Option Value)} {oc__law_made_room kV__law_made_room dc__law_made_room pm__law_made_room cd__law_made_room ct__law_made_room : Value}
    {f__law_is_room : Addr} {od__law_is_room an__law_is_room : Option Addr} {sl__law_is_room : Array (Option Value)} {oc__law_is_room kV__law_is_room dc__law_is_room pm__law_is_room cd__law_is_room ct__law_is_room : Value}
    {f__law_bent : Addr} {od__law_bent an__law_bent : Option Addr} {sl__law_bent : Array (Option Value)} {oc__law_bent kV__law_bent dc__law_bent pm__law_bent cd__law_bent ct__law_bent : Value}
    {f__law_is_made : Addr} {od__law_is_made an__law_is_made : Option Addr} {sl__law_is_made : Array (Option Value)} {oc__law_is_made kV__law_is_made dc__law_is_made pm__law_is_made cd__law_is_made ct__law_is_made : Value}
    {f__law_told_right : Addr} {od__law_told_right an__law_told_right : Option Addr} {sl__law_told_right : Array (Option Value)} {oc__law_told_right kV__law_told_right dc__law_told_right pm__law_told_right cd__law_told_right ct__law_told_right : Value}
    {f__law_right : Addr} {od__law_right an__law_right : Option Addr} {sl__law_right : Array (Option Value)} {oc__law_right kV__law_right dc__law_right pm__law_right cd__law_right ct__law_right : Value}
    {f_law : Addr} {od_law an_law : Option Addr} {sl_law : Array (Option Value)} {oc_law kV_law dc_law pm_law cd_law ct_law : Value}
    {Cx_BuildError : Addr}
    {Cx_InvalidRoom : Addr}
    (z_abs : PySem.W.nsIn K mainGlobals "abs" = some none)
    (z_all : PySem.W.nsIn K mainGlobals "all" = some none)
    (z_any : PySem.W.nsIn K mainGlobals "any" = some none)
    (z_bool : PySem.W.nsIn K mainGlobals "bool" = some none)
    (z_enumerate : PySem.W.nsIn K mainGlobals "enumerate" = some none)
    (z_int : PySem.W.nsIn K mainGlobals "int" = some none)
    (z_isinstance : PySem.W.nsIn K mainGlobals "isinstance" = some none)
    (z_len : PySem.W.nsIn K mainGlobals "len" = some none)
    (z_list : PySem.W.nsIn K mainGlobals "list" = some none)
    (z_max : PySem.W.nsIn K mainGlobals "max" = some none)
    (z_min : PySem.W.nsIn K mainGlobals "min" = some none)
    (z_range : PySem.W.nsIn K mainGlobals "range" = some none)
    (z_set : PySem.W.nsIn K mainGlobals "set" = some none)
    (z_sorted : PySem.W.nsIn K mainGlobals "sorted" = some none)
    (z_str : PySem.W.nsIn K mainGlobals "str" = some none)
    (z_tuple : PySem.W.nsIn K mainGlobals "tuple" = some none)
    (z_zip : PySem.W.nsIn K mainGlobals "zip" = some none)
    (y_LETTERS : PySem.W.nsIn K mainGlobals "LETTERS" = some (some (.str "abcdefghijklmnopqrstuvwxyz" t_LETTERS)))
    (y_LONGEST : PySem.W.nsIn K mainGlobals "LONGEST" = some (some (.int 1000000000000000000000000000000000000000000000000000000000000 t_LONGEST)))
    (y_MAX_LETTERS : PySem.W.nsIn K mainGlobals "MAX_LETTERS" = some (some (.int 8 t_MAX_LETTERS)))
    (y_MAX_WORLDS : PySem.W.nsIn K mainGlobals "MAX_WORLDS" = some (some (.int 60 t_MAX_WORLDS)))
    (aC_Room : PySem.W.nsIn K mainGlobals "Room" = some (some (.ref C_Room)))
    (pg_Room : PySem.W.plainGet K C_Room Str.empty = true)
    (hd_Room : PySem.W.hasDictIn K C_Room = true)
    (po_Room : PySem.W.plainOver K C_Room = true)
    (sa_Room : PySem.W.findIn K (.ref C_Room) "__setattr__" = some (some (.builtin "object.__setattr__")))
    (ha_Room : PySem.W.findIn K (.ref C_Room) "__class__" = some (some (.builtin "object.__class__")))
    (hn_Room : PySem.W.specialIn K (.builtin "object.__class__") "__get__" = some (some (.builtin "getset_descriptor.__get__")))
    (ht_Room : PySem.W.takesIn K (.builtin "object.__class__") = some true)
    (hm_Room : PySem.W.mroIn K C_Room (.type "object") = some true)
    (fa_Room_own_reach : PySem.W.findIn K (.ref C_Room) "own_reach" = some none)
    (fa_Room_own_truths : PySem.W.findIn K (.ref C_Room) "own_truths" = some none)
    (fa_Room_own_pairs : PySem.W.findIn K (.ref C_Room) "own_pairs" = some none)
    (ic_Room : PySem.W.isClsIn K C_Room = true)
    (ty_Room : PySem.W.typeIn K (.ref C_Room) = some (.type "type"))
    (ki0_Room : PySem.W.subIn K (.type "NoneType") (.ref C_Room) = some false)
    (ki1_Room : PySem.W.subIn K (.type "bool") (.ref C_Room) = some false)
    (ki2_Room : PySem.W.subIn K (.type "int") (.ref C_Room) = some false)
    (ki3_Room : PySem.W.subIn K (.type "str") (.ref C_Room) = some false)
    (ki4_Room : PySem.W.subIn K (.type "tuple") (.ref C_Room) = some false)
    (ki5_Room : PySem.W.subIn K (.type "list") (.ref C_Room) = some false)
    (ki6_Room : PySem.W.subIn K (.type "dict") (.ref C_Room) = some false)
    (nf0_Room : PySem.W.notFirst K C_Room (.type "NoneType") = true)
    (nf1_Room : PySem.W.notFirst K C_Room (.type "bool") = true)
    (nf2_Room : PySem.W.notFirst K C_Room (.type "int") = true)
    (nf3_Room : PySem.W.notFirst K C_Room (.type "str") = true)
    (nf4_Room : PySem.W.notFirst K C_Room (.type "tuple") = true)
    (nf5_Room : PySem.W.notFirst K C_Room (.type "list") = true)
    (nf6_Room : PySem.W.notFirst K C_Room (.type "dict") = true)
    (nf7_Room : PySem.W.notFirst K C_Room (.ref C_Room) = true)
    (nn_Room : PySem.W.findIn K (.ref C_Room) "__ne__" = some (some (.builtin "object.__ne__")))
    (sn0_Room : PySem.W.subIn K (.ref C_Room) (.type "NoneType") = some false)
    (sn1_Room : PySem.W.subIn K (.ref C_Room) (.type "int") = some false)
    (sn2_Room : PySem.W.subIn K (.ref C_Room) (.type "str") = some false)
    (sn3_Room : PySem.W.subIn K (.ref C_Room) (.type "list") = some false)
    (sn4_Room : PySem.W.subIn K (.ref C_Room) (.type "tuple") = some false)
    (sn5_Room : PySem.W.subIn K (.ref C_Room) (.type "dict") = some false)
    (sb_tuple_Room : PySem.W.subIn K (.ref C_Room) (.type "tuple") = some false)
    (a_is_integer : PySem.W.nsIn K mainGlobals "is_integer" = some (some (.ref f_is_integer)))
    (l_is_integer : K.lookup f_is_integer = some ⟨oc_is_integer, od_is_integer, .func (PySem.W.fnOf "is_integer" "is_integer" (defArgs s_is_integer) (defBody s_is_integer) (defScope s_is_integer) .none kV_is_integer dc_is_integer pm_is_integer an_is_integer cd_is_integer ct_is_integer), sl_is_integer⟩)
    (c_is_integer : PySem.W.codeIn K cd_is_integer "is_integer" = true)
    (k_is_integer : PySem.W.keepIn K (.ref f_is_integer) = true)
    (a_is_within : PySem.W.nsIn K mainGlobals "is_within" = some (some (.ref f_is_within)))
    (l_is_within : K.lookup f_is_within = some ⟨oc_is_within, od_is_within, .func (PySem.W.fnOf "is_within" "is_within" (defArgs s_is_within) (defBody s_is_within) (defScope s_is_within) .none kV_is_within dc_is_within pm_is_within an_is_within cd_is_within ct_is_within), sl_is_within⟩)
    (c_is_within : PySem.W.codeIn K cd_is_within "is_within" = true)
    (k_is_within : PySem.W.keepIn K (.ref f_is_within) = true)
    (a_is_word : PySem.W.nsIn K mainGlobals "is_word" = some (some (.ref f_is_word)))
    (l_is_word : K.lookup f_is_word = some ⟨oc_is_word, od_is_word, .func (PySem.W.fnOf "is_word" "is_word" (defArgs s_is_word) (defBody s_is_word) (defScope s_is_word) .none kV_is_word dc_is_word pm_is_word an_is_word cd_is_word ct_is_word), sl_is_word⟩)
    (c_is_word : PySem.W.codeIn K cd_is_word "is_word" = true)
    (k_is_word : PySem.W.keepIn K (.ref f_is_word) = true)
    (a_is_index_tuple : PySem.W.nsIn K mainGlobals "is_index_tuple" = some (some (.ref f_is_index_tuple)))
    (l_is_index_tuple : K.lookup f_is_index_tuple = some ⟨oc_is_index_tuple, od_is_index_tuple, .func (PySem.W.fnOf "is_index_tuple" "is_index_tuple" (defArgs s_is_index_tuple) (defBody s_is_index_tuple) (defScope s_is_index_tuple) .none kV_is_index_tuple dc_is_index_tuple pm_is_index_tuple an_is_index_tuple cd_is_index_tuple ct_is_index_tuple), sl_is_index_tuple⟩)
    (c_is_index_tuple : PySem.W.codeIn K cd_is_index_tuple "is_index_tuple" = true)
    (k_is_index_tuple : PySem.W.keepIn K (.ref f_is_index_tuple) = true)
    (a_is_word_tuple : PySem.W.nsIn K mainGlobals "is_word_tuple" = some (some (.ref f_is_word_tuple)))
    (l_is_word_tuple : K.lookup f_is_word_tuple = some ⟨oc_is_word_tuple, od_is_word_tuple, .func (PySem.W.fnOf "is_word_tuple" "is_word_tuple" (defArgs s_is_word_tuple) (defBody s_is_word_tuple) (defScope s_is_word_tuple) .none kV_is_word_tuple dc_is_word_tuple pm_is_word_tuple an_is_word_tuple cd_is_word_tuple ct_is_word_tuple), sl_is_word_tuple⟩)
    (c_is_word_tuple : PySem.W.codeIn K cd_is_word_tuple "is_word_tuple" = true)
    (k_is_word_tuple : PySem.W.keepIn K (.ref f_is_word_tuple) = true)
    (a_is_reach : PySem.W.nsIn K mainGlobals "is_reach" = some (some (.ref f_is_reach)))
    (l_is_reach : K.lookup f_is_reach = some ⟨oc_is_reach, od_is_reach, .func (PySem.W.fnOf "is_reach" "is_reach" (defArgs s_is_reach) (defBody s_is_reach) (defScope s_is_reach) .none kV_is_reach dc_is_reach pm_is_reach an_is_reach cd_is_reach ct_is_reach), sl_is_reach⟩)
    (c_is_reach : PySem.W.codeIn K cd_is_reach "is_reach" = true)
    (k_is_reach : PySem.W.keepIn K (.ref f_is_reach) = true)
    (a_are_truths : PySem.W.nsIn K mainGlobals "are_truths" = some (some (.ref f_are_truths)))
    (l_are_truths : K.lookup f_are_truths = some ⟨oc_are_truths, od_are_truths, .func (PySem.W.fnOf "are_truths" "are_truths" (defArgs s_are_truths) (defBody s_are_truths) (defScope s_are_truths) .none kV_are_truths dc_are_truths pm_are_truths an_are_truths cd_are_truths ct_are_truths), sl_are_truths⟩)
    (c_are_truths : PySem.W.codeIn K cd_are_truths "are_truths" = true)
    (k_are_truths : PySem.W.keepIn K (.ref f_are_truths) = true)
    (a_Room___init__ : PySem.W.findIn K (.ref C_Room) "__init__" = some (some (.ref f_Room___init__)))
    (i_Room___init__ : PySem.W.isFn K (.ref f_Room___init__) = true)
    (l_Room___init__ : K.lookup f_Room___init__ = some ⟨oc_Room___init__, od_Room___init__, .func (PySem.W.fnOf "__init__" "Room.__init__" (defArgs s_Room___init__) (defBody s_Room___init__) (defScope s_Room___init__) .none kV_Room___init__ dc_Room___init__ pm_Room___init__ an_Room___init__ cd_Room___init__ ct_Room___init__), sl_Room___init__⟩)
    (c_Room___init__ : PySem.W.codeIn K cd_Room___init__ "Room.__init__" = true)
    (k_Room___init__ : PySem.W.keepIn K (.ref f_Room___init__) = true)
    (mk_Room : PySem.W.makesIn K C_Room = true)
    (kk_Room : PySem.W.keepIn K (.ref C_Room) = true)
    (a_Room_reach : PySem.W.findIn K (.ref C_Room) "reach" = some (some (.ref p_Room_reach)))
    (g_Room_reach : PySem.W.specialIn K (.ref p_Room_reach) "__get__" = some (some (.builtin "property.__get__")))
    (t_Room_reach : PySem.W.takesIn K (.ref p_Room_reach) = some true)
    (r_Room_reach : PySem.W.recIn K p_Room_reach "property" = some (.ref f_Room_reach :: rs_Room_reach))
    (l_Room_reach : K.lookup f_Room_reach = some ⟨oc_Room_reach, od_Room_reach, .func (PySem.W.fnOf "reach" "Room.reach" (defArgs s_Room_reach) (defBody s_Room_reach) (defScope s_Room_reach) .none kV_Room_reach dc_Room_reach pm_Room_reach an_Room_reach cd_Room_reach ct_Room_reach), sl_Room_reach⟩)
    (c_Room_reach : PySem.W.codeIn K cd_Room_reach "Room.reach" = true)
    (k_Room_reach : PySem.W.keepIn K (.ref f_Room_reach) = true)
    (a_Room_truths : PySem.W.findIn K (.ref C_Room) "truths" = some (some (.ref p_Room_truths)))
    (g_Room_truths : PySem.W.specialIn K (.ref p_Room_truths) "__get__" = some (some (.builtin "property.__get__")))
    (t_Room_truths : PySem.W.takesIn K (.ref p_Room_truths) = some true)
    (r_Room_truths : PySem.W.recIn K p_Room_truths "property" = some (.ref f_Room_truths :: rs_Room_truths))
    (l_Room_truths : K.lookup f_Room_truths = some ⟨oc_Room_truths, od_Room_truths, .func (PySem.W.fnOf "truths" "Room.truths" (defArgs s_Room_truths) (defBody s_Room_truths) (defScope s_Room_truths) .none kV_Room_truths dc_Room_truths pm_Room_truths an_Room_truths cd_Room_truths ct_Room_truths), sl_Room_truths⟩)
    (c_Room_truths : PySem.W.codeIn K cd_Room_truths "Room.truths" = true)
    (k_Room_truths : PySem.W.keepIn K (.ref f_Room_truths) = true)
    (a_Room_atoms : PySem.W.findIn K (.ref C_Room) "atoms" = some (some (.ref p_Room_atoms)))
    (g_Room_atoms : PySem.W.specialIn K (.ref p_Room_atoms) "__get__" = some (some (.builtin "property.__get__")))
    (t_Room_atoms : PySem.W.takesIn K (.ref p_Room_atoms) = some true)
    (r_Room_atoms : PySem.W.recIn K p_Room_atoms "property" = some (.ref f_Room_atoms :: rs_Room_atoms))
    (l_Room_atoms : K.lookup f_Room_atoms = some ⟨oc_Room_atoms, od_Room_atoms, .func (PySem.W.fnOf "atoms" "Room.atoms" (defArgs s_Room_atoms) (defBody s_Room_atoms) (defScope s_Room_atoms) .none kV_Room_atoms dc_Room_atoms pm_Room_atoms an_Room_atoms cd_Room_atoms ct_Room_atoms), sl_Room_atoms⟩)
    (c_Room_atoms : PySem.W.codeIn K cd_Room_atoms "Room.atoms" = true)
    (k_Room_atoms : PySem.W.keepIn K (.ref f_Room_atoms) = true)
    (a_Room_require_world : PySem.W.findIn K (.ref C_Room) "require_world" = some (some (.ref f_Room_require_world)))
    (i_Room_require_world : PySem.W.isFn K (.ref f_Room_require_world) = true)
    (l_Room_require_world : K.lookup f_Room_require_world = some ⟨oc_Room_require_world, od_Room_require_world, .func (PySem.W.fnOf "require_world" "Room.require_world" (defArgs s_Room_require_world) (defBody s_Room_require_world) (defScope s_Room_require_world) .none kV_Room_require_world dc_Room_require_world pm_Room_require_world an_Room_require_world cd_Room_require_world ct_Room_require_world), sl_Room_require_world⟩)
    (c_Room_require_world : PySem.W.codeIn K cd_Room_require_world "Room.require_world" = true)
    (k_Room_require_world : PySem.W.keepIn K (.ref f_Room_require_world) = true)
    (a_Room___getitem__ : PySem.W.findIn K (.ref C_Room) "__getitem__" = some (some (.ref f_Room___getitem__)))
    (i_Room___getitem__ : PySem.W.isFn K (.ref f_Room___getitem__) = true)
    (fi_Room___getitem__ : PySem.W.fnIn K f_Room___getitem__ = true)
    (l_Room___getitem__ : K.lookup f_Room___getitem__ = some ⟨oc_Room___getitem__, od_Room___getitem__, .func (PySem.W.fnOf "__getitem__" "Room.__getitem__" (defArgs s_Room___getitem__) (defBody s_Room___getitem__) (defScope s_Room___getitem__) .none kV_Room___getitem__ dc_Room___getitem__ pm_Room___getitem__ an_Room___getitem__ cd_Room___getitem__ ct_Room___getitem__), sl_Room___getitem__⟩)
    (c_Room___getitem__ : PySem.W.codeIn K cd_Room___getitem__ "Room.__getitem__" = true)
    (k_Room___getitem__ : PySem.W.keepIn K (.ref f_Room___getitem__) = true)
    (a_Room___len__ : PySem.W.findIn K (.ref C_Room) "__len__" = some (some (.ref f_Room___len__)))
    (i_Room___len__ : PySem.W.isFn K (.ref f_Room___len__) = true)
    (fi_Room___len__ : PySem.W.fnIn K f_Room___len__ = true)
    (l_Room___len__ : K.lookup f_Room___len__ = some ⟨oc_Room___len__, od_Room___len__, .func (PySem.W.fnOf "__len__" "Room.__len__" (defArgs s_Room___len__) (defBody s_Room___len__) (defScope s_Room___len__) .none kV_Room___len__ dc_Room___len__ pm_Room___len__ an_Room___len__ cd_Room___len__ ct_Room___len__), sl_Room___len__⟩)
    (c_Room___len__ : PySem.W.codeIn K cd_Room___len__ "Room.__len__" = true)
    (k_Room___len__ : PySem.W.keepIn K (.ref f_Room___len__) = true)
    (a_Room___eq__ : PySem.W.findIn K (.ref C_Room) "__eq__" = some (some (.ref f_Room___eq__)))
    (i_Room___eq__ : PySem.W.isFn K (.ref f_Room___eq__) = true)
    (fi_Room___eq__ : PySem.W.fnIn K f_Room___eq__ = true)
    (l_Room___eq__ : K.lookup f_Room___eq__ = some ⟨oc_Room___eq__, od_Room___eq__, .func (PySem.W.fnOf "__eq__" "Room.__eq__" (defArgs s_Room___eq__) (defBody s_Room___eq__) (defScope s_Room___eq__) .none kV_Room___eq__ dc_Room___eq__ pm_Room___eq__ an_Room___eq__ cd_Room___eq__ ct_Room___eq__), sl_Room___eq__⟩)
    (c_Room___eq__ : PySem.W.codeIn K cd_Room___eq__ "Room.__eq__" = true)
    (k_Room___eq__ : PySem.W.keepIn K (.ref f_Room___eq__) = true)
    (a_Room___str__ : PySem.W.findIn K (.ref C_Room) "__str__" = some (some (.ref f_Room___str__)))
    (i_Room___str__ : PySem.W.isFn K (.ref f_Room___str__) = true)
    (fi_Room___str__ : PySem.W.fnIn K f_Room___str__ = true)
    (l_Room___str__ : K.lookup f_Room___str__ = some ⟨oc_Room___str__, od_Room___str__, .func (PySem.W.fnOf "__str__" "Room.__str__" (defArgs s_Room___str__) (defBody s_Room___str__) (defScope s_Room___str__) .none kV_Room___str__ dc_Room___str__ pm_Room___str__ an_Room___str__ cd_Room___str__ ct_Room___str__), sl_Room___str__⟩)
    (c_Room___str__ : PySem.W.codeIn K cd_Room___str__ "Room.__str__" = true)
    (k_Room___str__ : PySem.W.keepIn K (.ref f_Room___str__) = true)
    (a__law_dice : PySem.W.nsIn K mainGlobals "_law_dice" = some (some (.ref f__law_dice)))
    (l__law_dice : K.lookup f__law_dice = some ⟨oc__law_dice, od__law_dice, .func (PySem.W.fnOf "_law_dice" "_law_dice" (defArgs s__law_dice) (defBody s__law_dice) (defScope s__law_dice) .none kV__law_dice dc__law_dice pm__law_dice an__law_dice cd__law_dice ct__law_dice), sl__law_dice⟩)
    (c__law_dice : PySem.W.codeIn K cd__law_dice "_law_dice" = true)
    (k__law_dice : PySem.W.keepIn K (.ref f__law_dice) = true)
    (a__law_roll : PySem.W.nsIn K mainGlobals "_law_roll" = some (some (.ref f__law_roll)))
    (l__law_roll : K.lookup f__law_roll = some ⟨oc__law_roll, od__law_roll, .func (PySem.W.fnOf "_law_roll" "_law_roll" (defArgs s__law_roll) (defBody s__law_roll) (defScope s__law_roll) .none kV__law_roll dc__law_roll pm__law_roll an__law_roll cd__law_roll ct__law_roll), sl__law_roll⟩)
    (c__law_roll : PySem.W.codeIn K cd__law_roll "_law_roll" = true)
    (k__law_roll : PySem.W.keepIn K (.ref f__law_roll) = true)
    (a__law_pick : PySem.W.nsIn K mainGlobals "_law_pick" = some (some (.ref f__law_pick)))
    (l__law_pick : K.lookup f__law_pick = some ⟨oc__law_pick, od__law_pick, .func (PySem.W.fnOf "_law_pick" "_law_pick" (defArgs s__law_pick) (defBody s__law_pick) (defScope s__law_pick) .none kV__law_pick dc__law_pick pm__law_pick an__law_pick cd__law_pick ct__law_pick), sl__law_pick⟩)
    (c__law_pick : PySem.W.codeIn K cd__law_pick "_law_pick" = true)
    (k__law_pick : PySem.W.keepIn K (.ref f__law_pick) = true)
    (a__law_some : PySem.W.nsIn K mainGlobals "_law_some" = some (some (.ref f__law_some)))
    (l__law_some : K.lookup f__law_some = some ⟨oc__law_some, od__law_some, .func (PySem.W.fnOf "_law_some" "_law_some" (defArgs s__law_some) (defBody s__law_some) (defScope s__law_some) .none kV__law_some dc__law_some pm__law_some an__law_some cd__law_some ct__law_some), sl__law_some⟩)
    (c__law_some : PySem.W.codeIn K cd__law_some "_law_some" = true)
    (k__law_some : PySem.W.keepIn K (.ref f__law_some) = true)
    (a__law_room : PySem.W.nsIn K mainGlobals "_law_room" = some (some (.ref f__law_room)))
    (l__law_room : K.lookup f__law_room = some ⟨oc__law_room, od__law_room, .func (PySem.W.fnOf "_law_room" "_law_room" (defArgs s__law_room) (defBody s__law_room) (defScope s__law_room) .none kV__law_room dc__law_room pm__law_room an__law_room cd__law_room ct__law_room), sl__law_room⟩)
    (c__law_room : PySem.W.codeIn K cd__law_room "_law_room" = true)
    (k__law_room : PySem.W.keepIn K (.ref f__law_room) = true)
    (a__law_room_turned : PySem.W.nsIn K mainGlobals "_law_room_turned" = some (some (.ref f__law_room_turned)))
    (l__law_room_turned : K.lookup f__law_room_turned = some ⟨oc__law_room_turned, od__law_room_turned, .func (PySem.W.fnOf "_law_room_turned" "_law_room_turned" (defArgs s__law_room_turned) (defBody s__law_room_turned) (defScope s__law_room_turned) .none kV__law_room_turned dc__law_room_turned pm__law_room_turned an__law_room_turned cd__law_room_turned ct__law_room_turned), sl__law_room_turned⟩)
    (c__law_room_turned : PySem.W.codeIn K cd__law_room_turned "_law_room_turned" = true)
    (k__law_room_turned : PySem.W.keepIn K (.ref f__law_room_turned) = true)
    (a__law_made_room : PySem.W.nsIn K mainGlobals "_law_made_room" = some (some (.ref f__law_made_room)))
    (l__law_made_room : K.lookup f__law_made_room = some ⟨oc__law_made_room, od__law_made_room, .func (PySem.W.fnOf "_law_made_room" "_law_made_room" (defArgs s__law_made_room) (defBody s__law_made_room) (defScope s__law_made_room) .none kV__law_made_room dc__law_made_room pm__law_made_room an__law_made_room cd__law_made_room ct__law_made_room), sl__law_made_room⟩)
    (c__law_made_room : PySem.W.codeIn K cd__law_made_room "_law_made_room" = true)
    (k__law_made_room : PySem.W.keepIn K (.ref f__law_made_room) = true)
    (a__law_is_room : PySem.W.nsIn K mainGlobals "_law_is_room" = some (some (.ref f__law_is_room)))
    (l__law_is_room : K.lookup f__law_is_room = some ⟨oc__law_is_room, od__law_is_room, .func (PySem.W.fnOf "_law_is_room" "_law_is_room" (defArgs s__law_is_room) (defBody s__law_is_room) (defScope s__law_is_room) .none kV__law_is_room dc__law_is_room pm__law_is_room an__law_is_room cd__law_is_room ct__law_is_room), sl__law_is_room⟩)
    (c__law_is_room : PySem.W.codeIn K cd__law_is_room "_law_is_room" = true)
    (k__law_is_room : PySem.W.keepIn K (.ref f__law_is_room) = true)
    (a__law_bent : PySem.W.nsIn K mainGlobals "_law_bent" = some (some (.ref f__law_bent)))
    (l__law_bent : K.lookup f__law_bent = some ⟨oc__law_bent, od__law_bent, .func (PySem.W.fnOf "_law_bent" "_law_bent" (defArgs s__law_bent) (defBody s__law_bent) (defScope s__law_bent) .none kV__law_bent dc__law_bent pm__law_bent an__law_bent cd__law_bent ct__law_bent), sl__law_bent⟩)
    (c__law_bent : PySem.W.codeIn K cd__law_bent "_law_bent" = true)
    (k__law_bent : PySem.W.keepIn K (.ref f__law_bent) = true)
    (a__law_is_made : PySem.W.nsIn K mainGlobals "_law_is_made" = some (some (.ref f__law_is_made)))
    (l__law_is_made : K.lookup f__law_is_made = some ⟨oc__law_is_made, od__law_is_made, .func (PySem.W.fnOf "_law_is_made" "_law_is_made" (defArgs s__law_is_made) (defBody s__law_is_made) (defScope s__law_is_made) .none kV__law_is_made dc__law_is_made pm__law_is_made an__law_is_made cd__law_is_made ct__law_is_made), sl__law_is_made⟩)
    (c__law_is_made : PySem.W.codeIn K cd__law_is_made "_law_is_made" = true)
    (k__law_is_made : PySem.W.keepIn K (.ref f__law_is_made) = true)
    (a__law_told_right : PySem.W.nsIn K mainGlobals "_law_told_right" = some (some (.ref f__law_told_right)))
    (l__law_told_right : K.lookup f__law_told_right = some ⟨oc__law_told_right, od__law_told_right, .func (PySem.W.fnOf "_law_told_right" "_law_told_right" (defArgs s__law_told_right) (defBody s__law_told_right) (defScope s__law_told_right) .none kV__law_told_right dc__law_told_right pm__law_told_right an__law_told_right cd__law_told_right ct__law_told_right), sl__law_told_right⟩)
    (c__law_told_right : PySem.W.codeIn K cd__law_told_right "_law_told_right" = true)
    (k__law_told_right : PySem.W.keepIn K (.ref f__law_told_right) = true)
    (a__law_right : PySem.W.nsIn K mainGlobals "_law_right" = some (some (.ref f__law_right)))
    (l__law_right : K.lookup f__law_right = some ⟨oc__law_right, od__law_right, .func (PySem.W.fnOf "_law_right" "_law_right" (defArgs s__law_right) (defBody s__law_right) (defScope s__law_right) .none kV__law_right dc__law_right pm__law_right an__law_right cd__law_right ct__law_right), sl__law_right⟩)
    (c__law_right : PySem.W.codeIn K cd__law_right "_law_right" = true)
    (k__law_right : PySem.W.keepIn K (.ref f__law_right) = true)
    (a_law : PySem.W.nsIn K mainGlobals "law" = some (some (.ref f_law)))
    (l_law : K.lookup f_law = some ⟨oc_law, od_law, .func (PySem.W.fnOf "law" "law" (defArgs s_law) (defBody s_law) (defScope s_law) .none kV_law dc_law pm_law an_law cd_law ct_law), sl_law⟩)
    (c_law : PySem.W.codeIn K cd_law "law" = true)
    (k_law : PySem.W.keepIn K (.ref f_law) = true)
    (xa_BuildError : PySem.W.nsIn K mainGlobals "BuildError" = some (some (.ref Cx_BuildError)))
    (xe_BuildError : PySem.W.excIn K Cx_BuildError veBm "ValueError.__new__" = true)
    (xk_BuildError : PySem.W.keepIn K (.ref Cx_BuildError) = true)
    (xs_BuildError : PySem.W.subIn K (.ref Cx_BuildError) (.type "BaseException") = some true)
    (xt_BuildError : PySem.W.typeIn K (.ref Cx_BuildError) = some (.type "type"))
    (xi_BuildError : PySem.W.isClsIn K Cx_BuildError = true)
    (xo_BuildError : PySem.W.subIn K (.ref Cx_BuildError) (.ref Cx_BuildError) = some true)
    (xa_InvalidRoom : PySem.W.nsIn K mainGlobals "InvalidRoom" = some (some (.ref Cx_InvalidRoom)))
    (xe_InvalidRoom : PySem.W.excIn K Cx_InvalidRoom veBm "ValueError.__new__" = true)
    (xk_InvalidRoom : PySem.W.keepIn K (.ref Cx_InvalidRoom) = true)
    (xs_InvalidRoom : PySem.W.subIn K (.ref Cx_InvalidRoom) (.type "BaseException") = some true)
    (xt_InvalidRoom : PySem.W.typeIn K (.ref Cx_InvalidRoom) = some (.type "type"))
    (xi_InvalidRoom : PySem.W.isClsIn K Cx_InvalidRoom = true)
    (xo_InvalidRoom_InvalidRoom : PySem.W.subIn K (.ref Cx_InvalidRoom) (.ref Cx_InvalidRoom) = some true)
    (xo_BuildError_InvalidRoom : PySem.W.subIn K (.ref Cx_BuildError) (.ref Cx_InvalidRoom) = some false) : ∃ Z, All ⟨mg, K⟩ Z := by
  have kcF_Room : ClsF ⟨mg, K⟩ "Room" C_Room := ⟨PySem.W.mg_of X G aC_Room, ⟨pg_Room, hd_Room, po_Room, sa_Room⟩, ha_Room, hn_Room, ht_Room, hm_Room⟩
  exact ⟨⟨C_Room, Cx_BuildError, Cx_InvalidRoom⟩, ⟨PySem.W.mg_none_of X G z_abs,
    PySem.W.mg_none_of X G z_all,
    PySem.W.mg_none_of X G z_any,
    PySem.W.mg_none_of X G z_bool,
    PySem.W.mg_none_of X G z_enumerate,
    PySem.W.mg_none_of X G z_int,
    PySem.W.mg_none_of X G z_isinstance,
    PySem.W.mg_none_of X G z_len,
    PySem.W.mg_none_of X G z_list,
    PySem.W.mg_none_of X G z_max,
    PySem.W.mg_none_of X G z_min,
    PySem.W.mg_none_of X G z_range,
    PySem.W.mg_none_of X G z_set,
    PySem.W.mg_none_of X G z_sorted,
    PySem.W.mg_none_of X G z_str,
    PySem.W.mg_none_of X G z_tuple,
    PySem.W.mg_none_of X G z_zip,
    ⟨_, PySem.W.mg_of X G y_LETTERS⟩,
    ⟨_, PySem.W.mg_of X G y_LONGEST⟩,
    ⟨_, PySem.W.mg_of X G y_MAX_LETTERS⟩,
    ⟨_, PySem.W.mg_of X G y_MAX_WORLDS⟩,
    kcF_Room,
    fa_Room_own_reach,
    fa_Room_own_truths,
    fa_Room_own_pairs,
    isi_mk kcF_Room ic_Room ty_Room ki0_Room ki1_Room ki2_Room ki3_Room ki4_Room ki5_Room ki6_Room,
    eqF_mk kcF_Room nf0_Room nf1_Room nf2_Room nf3_Room nf4_Room nf5_Room nf6_Room nf7_Room,
    nn_Room,
    neLF_mk sn0_Room sn1_Room sn2_Room sn3_Room sn4_Room sn5_Room,
    (FP.isb_cons kcF_Room (by decide +kernel) sb_tuple_Room FP.isb_nil),
    ⟨_, _, PySem.W.mg_of X G a_is_integer, fun_mk (st := s_is_integer) l_is_integer c_is_integer k_is_integer⟩,
    ⟨_, _, PySem.W.mg_of X G a_is_within, fun_mk (st := s_is_within) l_is_within c_is_within k_is_within⟩,
    ⟨_, _, PySem.W.mg_of X G a_is_word, fun_mk (st := s_is_word) l_is_word c_is_word k_is_word⟩,
    ⟨_, _, PySem.W.mg_of X G a_is_index_tuple, fun_mk (st := s_is_index_tuple) l_is_index_tuple c_is_index_tuple k_is_index_tuple⟩,
    ⟨_, _, PySem.W.mg_of X G a_is_word_tuple, fun_mk (st := s_is_word_tuple) l_is_word_tuple c_is_word_tuple k_is_word_tuple⟩,
    ⟨_, _, PySem.W.mg_of X G a_is_reach, fun_mk (st := s_is_reach) l_is_reach c_is_reach k_is_reach⟩,
    ⟨_, _, PySem.W.mg_of X G a_are_truths, fun_mk (st := s_are_truths) l_are_truths c_are_truths k_are_truths⟩,
    ⟨_, _, ⟨mk_Room, a_Room___init__, i_Room___init__, kk_Room⟩, fun_mk (st := s_Room___init__) l_Room___init__ c_Room___init__ k_Room___init__⟩,
    ⟨_, _, _, ⟨a_Room_reach, g_Room_reach, t_Room_reach, _, r_Room_reach⟩, fun_mk (st := s_Room_reach) l_Room_reach c_Room_reach k_Room_reach⟩,
    ⟨_, _, _, ⟨a_Room_truths, g_Room_truths, t_Room_truths, _, r_Room_truths⟩, fun_mk (st := s_Room_truths) l_Room_truths c_Room_truths k_Room_truths⟩,
    ⟨_, _, _, ⟨a_Room_atoms, g_Room_atoms, t_Room_atoms, _, r_Room_atoms⟩, fun_mk (st := s_Room_atoms) l_Room_atoms c_Room_atoms k_Room_atoms⟩,
    ⟨_, _, ⟨a_Room_require_world, i_Room_require_world, k_Room_require_world⟩, fun_mk (st := s_Room_require_world) l_Room_require_world c_Room_require_world k_Room_require_world⟩,
    ⟨_, _, ⟨⟨a_Room___getitem__, i_Room___getitem__, k_Room___getitem__⟩, fi_Room___getitem__⟩, fun_mk (st := s_Room___getitem__) l_Room___getitem__ c_Room___getitem__ k_Room___getitem__⟩,
    ⟨_, _, ⟨⟨a_Room___len__, i_Room___len__, k_Room___len__⟩, fi_Room___len__⟩, fun_mk (st := s_Room___len__) l_Room___len__ c_Room___len__ k_Room___len__⟩,
    ⟨_, _, ⟨⟨a_Room___eq__, i_Room___eq__, k_Room___eq__⟩, fi_Room___eq__⟩, fun_mk (st := s_Room___eq__) l_Room___eq__ c_Room___eq__ k_Room___eq__⟩,
    ⟨_, _, ⟨⟨a_Room___str__, i_Room___str__, k_Room___str__⟩, fi_Room___str__⟩, fun_mk (st := s_Room___str__) l_Room___str__ c_Room___str__ k_Room___str__⟩,
    ⟨_, _, PySem.W.mg_of X G a__law_dice, fun_mk (st := s__law_dice) l__law_dice c__law_dice k__law_dice⟩,
    ⟨_, _, PySem.W.mg_of X G a__law_roll, fun_mk (st := s__law_roll) l__law_roll c__law_roll k__law_roll⟩,
    ⟨_, _, PySem.W.mg_of X G a__law_pick, fun_mk (st := s__law_pick) l__law_pick c__law_pick k__law_pick⟩,
    ⟨_, _, PySem.W.mg_of X G a__law_some, fun_mk (st := s__law_some) l__law_some c__law_some k__law_some⟩,
    ⟨_, _, PySem.W.mg_of X G a__law_room, fun_mk (st := s__law_room) l__law_room c__law_room k__law_room⟩,
    ⟨_, _, PySem.W.mg_of X G a__law_room_turned, fun_mk (st := s__law_room_turned) l__law_room_turned c__law_room_turned k__law_room_turned⟩,
    ⟨_, _, PySem.W.mg_of X G a__law_made_room, fun_mk (st := s__law_made_room) l__law_made_room c__law_made_room k__law_made_room⟩,
    ⟨_, _, PySem.W.mg_of X G a__law_is_room, fun_mk (st := s__law_is_room) l__law_is_room c__law_is_room k__law_is_room⟩,
    ⟨_, _, PySem.W.mg_of X G a__law_bent, fun_mk (st := s__law_bent) l__law_bent c__law_bent k__law_bent⟩,
    ⟨_, _, PySem.W.mg_of X G a__law_is_made, fun_mk (st := s__law_is_made) l__law_is_made c__law_is_made k__law_is_made⟩,
    ⟨_, _, PySem.W.mg_of X G a__law_told_right, fun_mk (st := s__law_told_right) l__law_told_right c__law_told_right k__law_told_right⟩,
    ⟨_, _, PySem.W.mg_of X G a__law_right, fun_mk (st := s__law_right) l__law_right c__law_right k__law_right⟩,
    ⟨_, _, PySem.W.mg_of X G a_law, fun_mk (st := s_law) l_law c_law k_law⟩,
    ⟨PySem.W.mg_of X G xa_BuildError, xe_BuildError, xk_BuildError, xs_BuildError, xt_BuildError⟩,
    cat_of (PySem.W.mg_of X G xa_BuildError) xi_BuildError xt_BuildError xs_BuildError xo_BuildError,
    ⟨PySem.W.mg_of X G xa_InvalidRoom, xe_InvalidRoom, xk_InvalidRoom, xs_InvalidRoom, xt_InvalidRoom⟩,
    (CatF.cons (b := false) (PySem.W.mg_of X G xa_BuildError) (exm_sub xi_InvalidRoom xt_InvalidRoom xs_InvalidRoom xo_BuildError_InvalidRoom) (by decide +kernel) (CatF.cons (b := true) (PySem.W.mg_of X G xa_InvalidRoom) (exm_sub xi_InvalidRoom xt_InvalidRoom xs_InvalidRoom xo_InvalidRoom_InvalidRoom) (by decide +kernel) CatF.none))⟩⟩
open KP
theorem ok_all {P : Program} {w : World} {mg : Gm} {base : Heap} (A : ∃ Z, All mg Z) : DefOk P w mg base 25 "law" 1 f_law := by
  obtain ⟨Z, A⟩ := A
  have g__law_dice := ok__law_dice (P := P) (w := w) (base := base) A 
  have g_Room___eq__ := ok_Room___eq__ (P := P) (w := w) (base := base) A 
  have g_is_word := ok_is_word (P := P) (w := w) (base := base) A 
  have g_is_word_tuple := ok_is_word_tuple (P := P) (w := w) (base := base) A g_is_word
  have g_are_truths := ok_are_truths (P := P) (w := w) (base := base) A g_is_word_tuple
  have g_is_integer := ok_is_integer (P := P) (w := w) (base := base) A 
  have g_is_within := ok_is_within (P := P) (w := w) (base := base) A g_is_integer
  have g_is_index_tuple := ok_is_index_tuple (P := P) (w := w) (base := base) A g_is_within
  have g_is_reach := ok_is_reach (P := P) (w := w) (base := base) A g_is_index_tuple
  have g_Room___init__ := ok_Room___init__ (P := P) (w := w) (base := base) A g_are_truths g_is_reach
  have g_Room___len__ := ok_Room___len__ (P := P) (w := w) (base := base) A 
  have g_Room_reach := ok_Room_reach (P := P) (w := w) (base := base) A 
  have g_Room_truths := ok_Room_truths (P := P) (w := w) (base := base) A 
  have g__law_roll := ok__law_roll (P := P) (w := w) (base := base) A 
  have g__law_pick := ok__law_pick (P := P) (w := w) (base := base) A g__law_roll
  have g__law_bent := ok__law_bent (P := P) (w := w) (base := base) A g__law_pick g__law_roll
  have g__law_is_made := ok__law_is_made (P := P) (w := w) (base := base) A g_Room___init__ g_Room___len__
  have g__law_is_room := ok__law_is_room (P := P) (w := w) (base := base) A 
  have g__law_made_room := ok__law_made_room (P := P) (w := w) (base := base) A g_Room___init__
  have g__law_room_turned := ok__law_room_turned (P := P) (w := w) (base := base) A 
  have g__law_some := ok__law_some (P := P) (w := w) (base := base) A g__law_roll
  have g__law_room := ok__law_room (P := P) (w := w) (base := base) A g__law_roll g__law_room_turned g__law_some
  have g_Room_require_world := ok_Room_require_world (P := P) (w := w) (base := base) A g_is_within
  have g_Room___getitem__ := ok_Room___getitem__ (P := P) (w := w) (base := base) A g_Room_require_world
  have g_Room___str__ := ok_Room___str__ (P := P) (w := w) (base := base) A 
  have g_Room_atoms := ok_Room_atoms (P := P) (w := w) (base := base) A 
  have g__law_told_right := ok__law_told_right (P := P) (w := w) (base := base) A g_Room___getitem__ g_Room___len__ g_Room___str__ g_Room_atoms g_Room_reach g_Room_truths g__law_made_room
  have g__law_right := ok__law_right (P := P) (w := w) (base := base) A g_Room___eq__ g_Room___init__ g_Room___len__ g_Room_reach g_Room_truths g__law_bent g__law_is_made g__law_is_room g__law_made_room g__law_pick g__law_room g__law_told_right
  have g_law := ok_law (P := P) (w := w) (base := base) A g__law_dice g__law_right
  exact g_law
end K30
open PySem PySem.W PyProof.Rows in
set_option maxRecDepth 100000 in
set_option maxHeartbeats 0 in
theorem PySem.Challenge.cw_fromparts_k30_rooms_judged_holds : PySem.Challenge.rw_fromparts_k30_rooms_judged.Holds := by
  w_on; o_law; k_head; (case hw => w_witness2)
  k_fill
  letI : FP.Tabl := ⟨[]⟩
  refine FP.walkG (l := PySem.Challenge.rw_fromparts_k30_rooms_judged) (f := KP.f_law) (k := 25) rfl rfl rfl ⟨⟨rfl, by decide, by decide⟩, rfl⟩ (fun w h Y => PySem.W.kIn_of Y) ?F (fun ns h => ⟨⟨ns, rfl, h⟩, rfl⟩)
  case F =>
    intro w mg h KX G base
    refine K30.ok_all ?A
    refine' K30.all_mk KX G ?z_abs ?z_all ?z_any ?z_bool ?z_enumerate ?z_int ?z_isinstance ?z_len ?z_list ?z_max ?z_min ?z_range ?z_set ?z_sorted ?z_str ?z_tuple ?z_zip ?y_LETTERS ?y_LONGEST ?y_MAX_LETTERS ?y_MAX_WORLDS ?aC_Room ?pg_Room ?hd_Room ?po_Room ?sa_Room ?ha_Room ?hn_Room ?ht_Room ?hm_Room ?fa_Room_own_reach ?fa_Room_own_truths ?fa_Room_own_pairs ?ic_Room ?ty_Room ?ki0_Room ?ki1_Room ?ki2_Room ?ki3_Room ?ki4_Room ?ki5_Room ?ki6_Room ?nf0_Room ?nf1_Room ?nf2_Room ?nf3_Room ?nf4_Room ?nf5_Room ?nf6_Room ?nf7_Room ?nn_Room ?sn0_Room ?sn1_Room ?sn2_Room ?sn3_Room ?sn4_Room ?sn5_Room ?sb_tuple_Room ?a_is_integer ?l_is_integer ?c_is_integer ?k_is_integer ?a_is_within ?l_is_within ?c_is_within ?k_is_within ?a_is_word ?l_is_word ?c_is_word ?k_is_word ?a_is_index_tuple ?l_is_index_tuple ?c_is_index_tuple ?k_is_index_tuple ?a_is_word_tuple ?l_is_word_tuple ?c_is_word_tuple ?k_is_word_tuple ?a_is_reach ?l_is_reach ?c_is_reach ?k_is_reach ?a_are_truths ?l_are_truths ?c_are_truths ?k_are_truths ?a_Room___init__ ?i_Room___init__ ?l_Room___init__ ?c_Room___init__ ?k_Room___init__ ?mk_Room ?kk_Room ?a_Room_reach ?g_Room_reach ?t_Room_reach ?r_Room_reach ?l_Room_reach ?c_Room_reach ?k_Room_reach ?a_Room_truths ?g_Room_truths ?t_Room_truths ?r_Room_truths ?l_Room_truths ?c_Room_truths ?k_Room_truths ?a_Room_atoms ?g_Room_atoms ?t_Room_atoms ?r_Room_atoms ?l_Room_atoms ?c_Room_atoms ?k_Room_atoms ?a_Room_require_world ?i_Room_require_world ?l_Room_require_world ?c_Room_require_world ?k_Room_require_world ?a_Room___getitem__ ?i_Room___getitem__ ?fi_Room___getitem__ ?l_Room___getitem__ ?c_Room___getitem__ ?k_Room___getitem__ ?a_Room___len__ ?i_Room___len__ ?fi_Room___len__ ?l_Room___len__ ?c_Room___len__ ?k_Room___len__ ?a_Room___eq__ ?i_Room___eq__ ?fi_Room___eq__ ?l_Room___eq__ ?c_Room___eq__ ?k_Room___eq__ ?a_Room___str__ ?i_Room___str__ ?fi_Room___str__ ?l_Room___str__ ?c_Room___str__ ?k_Room___str__ ?a__law_dice ?l__law_dice ?c__law_dice ?k__law_dice ?a__law_roll ?l__law_roll ?c__law_roll ?k__law_roll ?a__law_pick ?l__law_pick ?c__law_pick ?k__law_pick ?a__law_some ?l__law_some ?c__law_some ?k__law_some ?a__law_room ?l__law_room ?c__law_room ?k__law_room ?a__law_room_turned ?l__law_room_turned ?c__law_room_turned ?k__law_room_turned ?a__law_made_room ?l__law_made_room ?c__law_made_room ?k__law_made_room ?a__law_is_room ?l__law_is_room ?c__law_is_room ?k__law_is_room ?a__law_bent ?l__law_bent ?c__law_bent ?k__law_bent ?a__law_is_made ?l__law_is_made ?c__law_is_made ?k__law_is_made ?a__law_told_right ?l__law_told_right ?c__law_told_right ?k__law_told_right ?a__law_right ?l__law_right ?c__law_right ?k__law_right ?a_law ?l_law ?c_law ?k_law ?xa_BuildError ?xe_BuildError ?xk_BuildError ?xs_BuildError ?xt_BuildError ?xi_BuildError ?xo_BuildError ?xa_InvalidRoom ?xe_InvalidRoom ?xk_InvalidRoom ?xs_InvalidRoom ?xt_InvalidRoom ?xi_InvalidRoom ?xo_InvalidRoom_InvalidRoom ?xo_BuildError_InvalidRoom
    (case z_abs => k_is)
    (case z_all => k_is)
    (case z_any => k_is)
    (case z_bool => k_is)
    (case z_enumerate => k_is)
    (case z_int => k_is)
    (case z_isinstance => k_is)
    (case z_len => k_is)
    (case z_list => k_is)
    (case z_max => k_is)
    (case z_min => k_is)
    (case z_range => k_is)
    (case z_set => k_is)
    (case z_sorted => k_is)
    (case z_str => k_is)
    (case z_tuple => k_is)
    (case z_zip => k_is)
    (case y_LETTERS => k_is)
    (case y_LONGEST => k_is)
    (case y_MAX_LETTERS => k_is)
    (case y_MAX_WORLDS => k_is)
    (case aC_Room => k_is)
    (case pg_Room => k_is)
    (case hd_Room => k_is)
    (case po_Room => k_is)
    (case sa_Room => k_is)
    (case ha_Room => k_is)
    (case hn_Room => k_is)
    (case ht_Room => k_is)
    (case hm_Room => k_is)
    (case fa_Room_own_reach => k_is)
    (case fa_Room_own_truths => k_is)
    (case fa_Room_own_pairs => k_is)
    (case ic_Room => k_is)
    (case ty_Room => k_is)
    (case ki0_Room => k_is)
    (case ki1_Room => k_is)
    (case ki2_Room => k_is)
    (case ki3_Room => k_is)
    (case ki4_Room => k_is)
    (case ki5_Room => k_is)
    (case ki6_Room => k_is)
    (case nf0_Room => k_is)
    (case nf1_Room => k_is)
    (case nf2_Room => k_is)
    (case nf3_Room => k_is)
    (case nf4_Room => k_is)
    (case nf5_Room => k_is)
    (case nf6_Room => k_is)
    (case nf7_Room => k_is)
    (case nn_Room => k_is)
    (case sn0_Room => k_is)
    (case sn1_Room => k_is)
    (case sn2_Room => k_is)
    (case sn3_Room => k_is)
    (case sn4_Room => k_is)
    (case sn5_Room => k_is)
    (case sb_tuple_Room => k_is)
    (case a_is_integer => k_is)
    (case l_is_integer => k_is)
    (case c_is_integer => k_is)
    (case k_is_integer => k_is)
    (case a_is_within => k_is)
    (case l_is_within => k_is)
    (case c_is_within => k_is)
    (case k_is_within => k_is)
    (case a_is_word => k_is)
    (case l_is_word => k_is)
    (case c_is_word => k_is)
    (case k_is_word => k_is)
    (case a_is_index_tuple => k_is)
    (case l_is_index_tuple => k_is)
    (case c_is_index_tuple => k_is)
    (case k_is_index_tuple => k_is)
    (case a_is_word_tuple => k_is)
    (case l_is_word_tuple => k_is)
    (case c_is_word_tuple => k_is)
    (case k_is_word_tuple => k_is)
    (case a_is_reach => k_is)
    (case l_is_reach => k_is)
    (case c_is_reach => k_is)
    (case k_is_reach => k_is)
    (case a_are_truths => k_is)
    (case l_are_truths => k_is)
    (case c_are_truths => k_is)
    (case k_are_truths => k_is)
    (case a_Room___init__ => k_is)
    (case i_Room___init__ => k_is)
    (case l_Room___init__ => k_is)
    (case c_Room___init__ => k_is)
    (case k_Room___init__ => k_is)
    (case mk_Room => k_is)
    (case kk_Room => k_is)
    (case a_Room_reach => k_is)
    (case g_Room_reach => k_is)
    (case t_Room_reach => k_is)
    (case r_Room_reach => k_is)
    (case l_Room_reach => k_is)
    (case c_Room_reach => k_is)
    (case k_Room_reach => k_is)
    (case a_Room_truths => k_is)
    (case g_Room_truths => k_is)
    (case t_Room_truths => k_is)
    (case r_Room_truths => k_is)
    (case l_Room_truths => k_is)
    (case c_Room_truths => k_is)
    (case k_Room_truths => k_is)
    (case a_Room_atoms => k_is)
    (case g_Room_atoms => k_is)
    (case t_Room_atoms => k_is)
    (case r_Room_atoms => k_is)
    (case l_Room_atoms => k_is)
    (case c_Room_atoms => k_is)
    (case k_Room_atoms => k_is)
    (case a_Room_require_world => k_is)
    (case i_Room_require_world => k_is)
    (case l_Room_require_world => k_is)
    (case c_Room_require_world => k_is)
    (case k_Room_require_world => k_is)
    (case a_Room___getitem__ => k_is)
    (case i_Room___getitem__ => k_is)
    (case fi_Room___getitem__ => k_is)
    (case l_Room___getitem__ => k_is)
    (case c_Room___getitem__ => k_is)
    (case k_Room___getitem__ => k_is)
    (case a_Room___len__ => k_is)
    (case i_Room___len__ => k_is)
    (case fi_Room___len__ => k_is)
    (case l_Room___len__ => k_is)
    (case c_Room___len__ => k_is)
    (case k_Room___len__ => k_is)
    (case a_Room___eq__ => k_is)
    (case i_Room___eq__ => k_is)
    (case fi_Room___eq__ => k_is)
    (case l_Room___eq__ => k_is)
    (case c_Room___eq__ => k_is)
    (case k_Room___eq__ => k_is)
    (case a_Room___str__ => k_is)
    (case i_Room___str__ => k_is)
    (case fi_Room___str__ => k_is)
    (case l_Room___str__ => k_is)
    (case c_Room___str__ => k_is)
    (case k_Room___str__ => k_is)
    (case a__law_dice => k_is)
    (case l__law_dice => k_is)
    (case c__law_dice => k_is)
    (case k__law_dice => k_is)
    (case a__law_roll => k_is)
    (case l__law_roll => k_is)
    (case c__law_roll => k_is)
    (case k__law_roll => k_is)
    (case a__law_pick => k_is)
    (case l__law_pick => k_is)
    (case c__law_pick => k_is)
    (case k__law_pick => k_is)
    (case a__law_some => k_is)
    (case l__law_some => k_is)
    (case c__law_some => k_is)
    (case k__law_some => k_is)
    (case a__law_room => k_is)
    (case l__law_room => k_is)
    (case c__law_room => k_is)
    (case k__law_room => k_is)
    (case a__law_room_turned => k_is)
    (case l__law_room_turned => k_is)
    (case c__law_room_turned => k_is)
    (case k__law_room_turned => k_is)
    (case a__law_made_room => k_is)
    (case l__law_made_room => k_is)
    (case c__law_made_room => k_is)
    (case k__law_made_room => k_is)
    (case a__law_is_room => k_is)
    (case l__law_is_room => k_is)
    (case c__law_is_room => k_is)
    (case k__law_is_room => k_is)
    (case a__law_bent => k_is)
    (case l__law_bent => k_is)
    (case c__law_bent => k_is)
    (case k__law_bent => k_is)
    (case a__law_is_made => k_is)
    (case l__law_is_made => k_is)
    (case c__law_is_made => k_is)
    (case k__law_is_made => k_is)
    (case a__law_told_right => k_is)
    (case l__law_told_right => k_is)
    (case c__law_told_right => k_is)
    (case k__law_told_right => k_is)
    (case a__law_right => k_is)
    (case l__law_right => k_is)
    (case c__law_right => k_is)
    (case k__law_right => k_is)
    (case a_law => k_is)
    (case l_law => k_is)
    (case c_law => k_is)
    (case k_law => k_is)
    (case xa_BuildError => k_is)
    (case xe_BuildError => k_exc)
    (case xk_BuildError => k_is)
    (case xs_BuildError => k_is)
    (case xt_BuildError => k_is)
    (case xi_BuildError => k_is)
    (case xo_BuildError => k_is)
    (case xa_InvalidRoom => k_is)
    (case xe_InvalidRoom => k_exc)
    (case xk_InvalidRoom => k_is)
    (case xs_InvalidRoom => k_is)
    (case xt_InvalidRoom => k_is)
    (case xi_InvalidRoom => k_is)
    (case xo_InvalidRoom_InvalidRoom => k_is)
    (case xo_BuildError_InvalidRoom => k_is)
#print axioms PySem.Challenge.cw_fromparts_k30_rooms_judged_holds
